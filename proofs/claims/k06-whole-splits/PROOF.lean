import PyProof.Rows.All
import Wide.All
import OpenK.AllK
import Wide.FinOn
import HandS.ForMost
import HandS.Zip
import KE.SortData
import HandS.TupMul
import HandS.NoneIn
import HandS.TupLe
import HandS.TupAny
import HandS.SortInts
import HandS.IsInst
import HandS.Conv
import HandS.Deep
import HandS.Rev
import HandS.Style
import HandS.Walk
import HandS.Dict
import HandS.DictComp
import HandS.WordsDict
import HandS.TupLen
import KE.DataMinMax
import HandS.Iter
import HandS.SetFor
import HandS.Gcd
import HandS.WideBits
import PySem.Challenge.RW_farkept_k06_whole_splits
set_option Elab.async false
set_option linter.all false
set_option maxRecDepth 100000
set_option maxHeartbeats 4000000
/-! zip of two sequences, each a list or a tuple -/
namespace PD
open PySem PySem.Spec PyProof.Rows L2
inductive SK where
  | l | t
def SK.nm : SK → String
  | .l => "list_iterator"
  | .t => "tuple_iterator"
def SK.Itr : SK → Heap → Addr → Addr → Nat → Prop
  | .l, h, p, a, i => h.IsListIter p a i
  | .t, h, p, a, i => h.IsTupleIter p a i
def SK.Sq : SK → Heap → Addr → Array Value → Prop
  | .l, h, a, xs => h.IsList a xs
  | .t, h, a, xs => h.IsTuple a xs
theorem SK.Itr.ext {k : SK} {g g' : Heap} {p b a : Addr} {i : Nat} (x : k.Itr g p a i) (m : Heap.ExtBut b g g') (n : p ≠ b) : k.Itr g' p a i := by
  cases k
  · exact Heap.IsListIter.extBut x m n
  · exact Heap.IsTupleIter.extBut x m n
theorem SK.Sq.ext {k : SK} {g g' : Heap} {b a : Addr} {xs : Array Value} (x : k.Sq g a xs) (m : Heap.ExtBut b g g') (n : a ≠ b) : k.Sq g' a xs := by
  cases k
  · exact Heap.IsList.extBut x m n
  · exact Heap.IsTuple.extBut x m n
theorem SK.Itr.to {k : SK} {g g' : Heap} {p a : Addr} {i : Nat} (x : k.Itr g p a i) (m : ∀ o, g.get? p = some o → g'.get? p = some o) : k.Itr g' p a i := by
  cases k
  · exact Heap.IsListIter.at x m
  · exact Heap.IsTupleIter.at x m
theorem SK.Itr.ob {k : SK} {g : Heap} {p a : Addr} {i : Nat} (x : k.Itr g p a i) : ∃ o, g.get? p = some o ∧ o.cls = .type k.nm ∧ o.data = .fields #[.ref a, .int i 0] := by
  cases k <;> exact x
theorem SK.Itr.mk {k : SK} {g : Heap} {p a : Addr} {i : Nat} {o : Obj} (e : g.get? p = some o) (c : o.cls = .type k.nm) (d : o.data = .fields #[.ref a, .int i 0]) : k.Itr g p a i := by
  cases k <;> exact ⟨o, e, c, d⟩
section
variable {pg : Program} {wd : World} {Ar : Around} {Ex : Value → Shared → Prop} {s : Shared}
theorem nx_item {k : SK} {p a : Addr} {i : Nat} {xs : Array Value} {x : Value} {Q : Value → Shared → Prop} (hp : k.Itr s.heap p a i) (ha : k.Sq s.heap a xs) (hx : xs[i]? = some x)
    (hQ : ∀ g, k.Itr g p a (i + 1) → Heap.SameBut p s.heap g → Q x { s with heap := g }) : wpAny (model pg wd) Ar (Builtin.SmallTypes.nextOf (.ref p)) Q Ex s := by
  cases k
  · exact wpAny_nextOf_list_item hp ha hx hQ
  · exact RZ.nextOf_tuple_item hp ha hx hQ
theorem nx_end {k : SK} {p a : Addr} {i : Nat} {xs : Array Value} {Q : Value → Shared → Prop} (hd : Ar.handled = none) (hp : k.Itr s.heap p a i) (ha : k.Sq s.heap a xs) (hx : xs[i]? = none)
    (hE : ∀ g e, Heap.ExtBut p s.heap g → (∃ o, g.get? e = some o ∧ o.cls = .type "StopIteration") → Ex (.ref e) { s with heap := g }) : wpAny (model pg wd) Ar (Builtin.SmallTypes.nextOf (.ref p)) Q Ex s := by
  cases k
  · exact wpAny_nextOf_list_end hd hp ha hx hE
  · exact RZ.nextOf_tuple_end hd hp ha hx hE
theorem zx_item {k k' : SK} {zp tI tO p1 p2 a1 a2 : Addr} {n1 n2 : Nat} {xs ys : Array Value} {x y u v : Value} {Q : Value → Shared → Prop} (Z : ZipApart zp tI tO p1 p2 a1 a2)
    (hZ : IsZip s.heap zp tI tO .none) (hI : IsPair s.heap tI (.ref p1) (.ref p2)) (hO : IsPair s.heap tO u v)
    (i1 : k.Itr s.heap p1 a1 n1) (i2 : k'.Itr s.heap p2 a2 n2) (s1 : k.Sq s.heap a1 xs) (s2 : k'.Sq s.heap a2 ys) (hx : xs[n1]? = some x) (hy : ys[n2]? = some y)
    (hQ : ∀ g, IsZip g zp tI tO (rawInt s.heap.objs.size) → IsPair g tO x y → k.Itr g p1 a1 (n1 + 1) → k'.Itr g p2 a2 (n2 + 1) → IsPair g s.heap.objs.size x y → g.objs.size = s.heap.objs.size + 1 →
      (∀ c o, c ≠ zp → c ≠ tO → c ≠ p1 → c ≠ p2 → s.heap.get? c = some o → g.get? c = some o) → Q (.ref s.heap.objs.size) { s with heap := g }) :
    wpAny (model pg wd) Ar (Builtin.«zip.__next__» ⟨[.ref zp], []⟩) (fun r t => ∃ v, r = .done (.ret v) ∧ Q v t) Ex s := by
  show wpAny _ _ (field (.ref zp) 2 >>= _) _ _ _
  refine wpAny_bind (wpAny_field hZ rfl (x := .bool false) rfl ?_)
  show wpAny _ _ (field (.ref zp) 3 >>= _) _ _ _
  refine wpAny_bind (wpAny_field hZ rfl (x := .ref tI) rfl ?_)
  refine wpAny_bind (wpAny_seqItems hI rfl ?_)
  show wpAny _ _ (Builtin.SmallTypes.ownedTupleIsFree (.ref zp) >>= _) _ _ _
  refine wpAny_bind ?_
  unfold Builtin.SmallTypes.ownedTupleIsFree
  refine wpAny_bind (wpAny_field hZ rfl (x := .none) rfl (wpAny_pure ?_))
  simp only [if_true]
  refine wpAny_bind (wpAny_rule ?_)
  refine wpAny_bind (wpAny_field hZ rfl (x := .ref tO) rfl ?_)
  refine wpAny_bind (wpAny_setField_rec hZ (by simp) fun g1 hZ1 m1 => ?_)
  replace hZ1 : IsZip g1 zp tI tO .ellipsis := hZ1
  refine wpAny_bind ?_
  rw [List.zipIdx_cons, List.zipIdx_cons, List.zipIdx_nil, List.forIn_cons]
  simp only [List.forIn_cons, List.forIn_nil]
  refine wpAny_bind (wpAny_bind (wpAny_onRaise ?_))
  show wpAny _ _ (Builtin.SmallTypes.nextOf (.ref p1) >>= _) _ _ _
  refine wpAny_bind (nx_item (i1.ext m1.extBut Z.i1z) (s1.ext m1.extBut Z.l1z) hx fun g2 i12 m2 => wpAny_pure ?_)
  have hO2 : IsPair g2 tO u v := m2.extBut _ _ Z.TOi1 (m1.extBut _ _ Z.TOz hO)
  refine wpAny_bind (wpAny_seqItems hO2 rfl ?_)
  refine wpAny_bind (wpAny_updateSeq_pair hO2 fun g3 hO3 m3 => ?_)
  replace hO3 : IsPair g3 tO x v := hO3
  refine wpAny_bind (wpAny_letGo (wpAny_pure ?_))
  refine wpAny_bind (wpAny_bind (wpAny_onRaise ?_))
  show wpAny _ _ (Builtin.SmallTypes.nextOf (.ref p2) >>= _) _ _ _
  refine wpAny_bind (nx_item (((i2.ext m1.extBut Z.i2z).ext m2.extBut Z.i12.symm).ext m3.extBut Z.TOi2.symm)
    (((s2.ext m1.extBut Z.l2z).ext m2.extBut Z.l2i1).ext m3.extBut Z.l2TO) hy fun g4 i24 m4 => wpAny_pure ?_)
  have hO4 : IsPair g4 tO x v := m4.extBut _ _ Z.TOi2 hO3
  refine wpAny_bind (wpAny_seqItems hO4 rfl ?_)
  refine wpAny_bind (wpAny_updateSeq_pair hO4 fun g5 hO5 m5 => ?_)
  replace hO5 : IsPair g5 tO x y := hO5
  refine wpAny_bind (wpAny_letGo (wpAny_pure (wpAny_pure ?_)))
  refine wpAny_bind (wpAny_seqItems hO5 rfl ?_)
  refine wpAny_bind (wpAny_newTuple ?_)
  have size5 : g5.objs.size = s.heap.objs.size := by rw [m5.1, m4.1, m3.1, m2.1, m1.1]
  have hZ5 : IsZip g5 zp tI tO .ellipsis := m5.extBut _ _ Z.TOz.symm (m4.extBut _ _ Z.i2z.symm (m3.extBut _ _ Z.TOz.symm (m2.extBut _ _ Z.i1z.symm hZ1)))
  have old5 : ∀ c o, c ≠ zp → c ≠ tO → c ≠ p1 → c ≠ p2 → s.heap.get? c = some o → g5.get? c = some o := fun c o q1 q2 q3 q4 e =>
    m5.extBut _ _ q2 (m4.extBut _ _ q4 (m3.extBut _ _ q2 (m2.extBut _ _ q3 (m1.extBut _ _ q1 e))))
  have i15 : k.Itr g5 p1 a1 (n1 + 1) := ((i12.ext m3.extBut Z.TOi1.symm).ext m4.extBut Z.i12).ext m5.extBut Z.TOi1.symm
  have i25 : k'.Itr g5 p2 a2 (n2 + 1) := i24.ext m5.extBut Z.TOi2.symm
  have ltz : zp < g5.objs.size := Heap.lt_size hZ5
  show wpAny _ _ (Builtin.SmallTypes.ownedTupleHandOut (.ref zp) (.ref g5.objs.size) >>= _) _ _ _
  refine wpAny_bind ?_
  unfold Builtin.SmallTypes.ownedTupleHandOut
  have hZ6 : IsZip (g5.push { cls := .type "tuple", data := .seq #[x, y] }) zp tI tO .ellipsis := Heap.get?_push_of_some _ hZ5
  refine wpAny_bind (wpAny_setField_rec hZ6 (by simp) fun g7 hZ7 m7 => ?_)
  replace hZ7 : IsZip g7 zp tI tO (rawInt g5.objs.size) := hZ7
  refine wpAny_setField_rec hZ7 (by simp) fun g8 hZ8 m8 => ?_
  replace hZ8 : IsZip g8 zp tI tO (rawInt g5.objs.size) := hZ8
  have up : ∀ c o, c ≠ zp → g5.get? c = some o → g8.get? c = some o := fun c o q e => m8.extBut _ _ q (m7.extBut _ _ q (Heap.get?_push_of_some _ e))
  have hT8 : IsPair g8 g5.objs.size x y := m8.extBut _ _ (Nat.ne_of_gt ltz) (m7.extBut _ _ (Nat.ne_of_gt ltz) (Heap.get?_push_size _ rfl))
  have size8 : g8.objs.size = g5.objs.size + 1 := by rw [m8.1, m7.1, Heap.size_push]
  rw [size5] at hZ8 hT8 size8
  refine wpAny_pure ⟨_, rfl, ?_⟩
  show Q (.ref g5.objs.size) _
  rw [size5]
  exact hQ g8 hZ8 (up _ _ Z.TOz hO5) (i15.to fun o e => up _ o Z.i1z e) (i25.to fun o e => up _ o Z.i2z e) hT8 size8 fun c o q1 q2 q3 q4 e => up c o q1 (old5 c o q1 q2 q3 q4 e)
theorem zx_end {k k' : SK} {zp tI tO p1 p2 a1 a2 : Addr} {n1 n2 : Nat} {xs ys : Array Value} {u v : Value} {Q : Fin → Shared → Prop} (hd : Ar.handled = none) (Z : ZipApart zp tI tO p1 p2 a1 a2)
    (hZ : IsZip s.heap zp tI tO .none) (hI : IsPair s.heap tI (.ref p1) (.ref p2)) (hO : IsPair s.heap tO u v)
    (i1 : k.Itr s.heap p1 a1 n1) (i2 : k'.Itr s.heap p2 a2 n2) (s1 : k.Sq s.heap a1 xs) (s2 : k'.Sq s.heap a2 ys) (hn : xs[n1]? = none ∨ ys[n2]? = none)
    (hE : ∀ g e, (∀ c o, c ≠ zp → c ≠ tO → c ≠ p1 → c ≠ p2 → s.heap.get? c = some o → g.get? c = some o) → (∃ o, g.get? e = some o ∧ o.cls = .type "StopIteration") → Ex (.ref e) { s with heap := g }) :
    wpAny (model pg wd) Ar (Builtin.«zip.__next__» ⟨[.ref zp], []⟩) Q Ex s := by
  show wpAny _ _ (field (.ref zp) 2 >>= _) _ _ _
  refine wpAny_bind (wpAny_field hZ rfl (x := .bool false) rfl ?_)
  show wpAny _ _ (field (.ref zp) 3 >>= _) _ _ _
  refine wpAny_bind (wpAny_field hZ rfl (x := .ref tI) rfl ?_)
  refine wpAny_bind (wpAny_seqItems hI rfl ?_)
  show wpAny _ _ (Builtin.SmallTypes.ownedTupleIsFree (.ref zp) >>= _) _ _ _
  refine wpAny_bind ?_
  unfold Builtin.SmallTypes.ownedTupleIsFree
  refine wpAny_bind (wpAny_field hZ rfl (x := .none) rfl (wpAny_pure ?_))
  simp only [if_true]
  refine wpAny_bind (wpAny_rule ?_)
  refine wpAny_bind (wpAny_field hZ rfl (x := .ref tO) rfl ?_)
  refine wpAny_bind (wpAny_setField_rec hZ (by simp) fun g1 hZ1 m1 => ?_)
  replace hZ1 : IsZip g1 zp tI tO .ellipsis := hZ1
  refine wpAny_bind ?_
  rw [List.zipIdx_cons, List.zipIdx_cons, List.zipIdx_nil, List.forIn_cons]
  simp only [List.forIn_cons, List.forIn_nil]
  refine wpAny_bind (wpAny_bind (wpAny_onRaise ?_))
  show wpAny _ _ (Builtin.SmallTypes.nextOf (.ref p1) >>= _) _ _ _
  cases hx : xs[n1]? with
  | none =>
    refine wpAny_bind (nx_end hd (i1.ext m1.extBut Z.i1z) (s1.ext m1.extBut Z.l1z) hx fun g2 e m2 q => ?_)
    obtain ⟨o, ho, hc⟩ := q
    have hZ2 : IsZip g2 zp tI tO .ellipsis := m2 _ _ Z.i1z.symm hZ1
    have ne : e ≠ zp := fun w => by
      subst w
      rw [hZ2] at ho
      cases ho
      simp at hc
    exact wpAny_setField_rec hZ2 (by simp) fun g3 _ m3 => hE g3 e (fun c o q1 _ q3 _ w => m3.extBut _ _ q1 (m2 _ _ q3 (m1.extBut _ _ q1 w))) ⟨o, m3.extBut _ _ ne ho, hc⟩
  | some x =>
    have hy : ys[n2]? = none := by
      rcases hn with h | h
      · rw [hx] at h
        cases h
      · exact h
    refine wpAny_bind (nx_item (i1.ext m1.extBut Z.i1z) (s1.ext m1.extBut Z.l1z) hx fun g2 i12 m2 => wpAny_pure ?_)
    have hO2 : IsPair g2 tO u v := m2.extBut _ _ Z.TOi1 (m1.extBut _ _ Z.TOz hO)
    refine wpAny_bind (wpAny_seqItems hO2 rfl ?_)
    refine wpAny_bind (wpAny_updateSeq_pair hO2 fun g3 hO3 m3 => ?_)
    refine wpAny_bind (wpAny_letGo (wpAny_pure ?_))
    refine wpAny_bind (wpAny_bind (wpAny_onRaise ?_))
    show wpAny _ _ (Builtin.SmallTypes.nextOf (.ref p2) >>= _) _ _ _
    refine wpAny_bind (nx_end hd (((i2.ext m1.extBut Z.i2z).ext m2.extBut Z.i12.symm).ext m3.extBut Z.TOi2.symm)
      (((s2.ext m1.extBut Z.l2z).ext m2.extBut Z.l2i1).ext m3.extBut Z.l2TO) hy fun g4 e m4 q => ?_)
    obtain ⟨o, ho, hc⟩ := q
    have hZ4 : IsZip g4 zp tI tO .ellipsis := m4 _ _ Z.i2z.symm (m3.extBut _ _ Z.TOz.symm (m2.extBut _ _ Z.i1z.symm hZ1))
    have ne : e ≠ zp := fun w => by
      subst w
      rw [hZ4] at ho
      cases ho
      simp at hc
    exact wpAny_setField_rec hZ4 (by simp) fun g5 _ m5 => hE g5 e (fun c o q1 q2 q3 q4 w => m5.extBut _ _ q1 (m4 _ _ q4 (m3.extBut _ _ q2 (m2.extBut _ _ q3 (m1.extBut _ _ q1 w))))) ⟨o, m5.extBut _ _ ne ho, hc⟩
theorem pnx_item {k k' : SK} {zp tI tO p1 p2 a1 a2 : Addr} {n1 n2 : Nat} {xs ys : Array Value} {x y u v : Value} {Q : Option Value → Shared → Prop} (Z : ZipApart zp tI tO p1 p2 a1 a2)
    (hZ : IsZip s.heap zp tI tO .none) (hI : IsPair s.heap tI (.ref p1) (.ref p2)) (hO : IsPair s.heap tO u v)
    (i1 : k.Itr s.heap p1 a1 n1) (i2 : k'.Itr s.heap p2 a2 n2) (s1 : k.Sq s.heap a1 xs) (s2 : k'.Sq s.heap a2 ys) (hx : xs[n1]? = some x) (hy : ys[n2]? = some y)
    (hQ : ∀ g, IsZip g zp tI tO (rawInt s.heap.objs.size) → IsPair g tO x y → k.Itr g p1 a1 (n1 + 1) → k'.Itr g p2 a2 (n2 + 1) → IsPair g s.heap.objs.size x y → g.objs.size = s.heap.objs.size + 1 →
      (∀ c o, c ≠ zp → c ≠ tO → c ≠ p1 → c ≠ p2 → s.heap.get? c = some o → g.get? c = some o) → Q (some (.ref s.heap.objs.size)) { s with heap := g }) :
    wpAny (model pg wd) Ar (pyNext (.ref zp)) Q Ex s := by
  have tz : s.TypeIs (.ref zp) "zip" := ⟨_, hZ, rfl⟩
  unfold pyNext
  exact wpAny_bind (wpAny_attempt (wpAny_callSpecial?_slot (name := Str.ofString "__next__") tz F.slot_zip_next
    (wpAny_call_entry F.slot_zip_next tz F.entry_zip_next (zx_item Z hZ hI hO i1 i2 s1 s2 hx hy fun g b1 b2 b3 b4 b5 b6 b7 => wpAny_pure (hQ g b1 b2 b3 b4 b5 b6 b7)) (F.args_zip_next_1 _))))
theorem pnx_end {k k' : SK} {zp tI tO p1 p2 a1 a2 : Addr} {n1 n2 : Nat} {xs ys : Array Value} {u v : Value} {Q : Option Value → Shared → Prop} (hd : Ar.handled = none) (Z : ZipApart zp tI tO p1 p2 a1 a2)
    (hZ : IsZip s.heap zp tI tO .none) (hI : IsPair s.heap tI (.ref p1) (.ref p2)) (hO : IsPair s.heap tO u v)
    (i1 : k.Itr s.heap p1 a1 n1) (i2 : k'.Itr s.heap p2 a2 n2) (s1 : k.Sq s.heap a1 xs) (s2 : k'.Sq s.heap a2 ys) (hn : xs[n1]? = none ∨ ys[n2]? = none)
    (hQ : ∀ g, (∀ c o, c ≠ zp → c ≠ tO → c ≠ p1 → c ≠ p2 → s.heap.get? c = some o → g.get? c = some o) → Q none { s with heap := g }) : wpAny (model pg wd) Ar (pyNext (.ref zp)) Q Ex s := by
  have tz : s.TypeIs (.ref zp) "zip" := ⟨_, hZ, rfl⟩
  unfold pyNext
  refine wpAny_bind (wpAny_attempt (wpAny_callSpecial?_slot (name := Str.ofString "__next__") tz F.slot_zip_next
    (wpAny_call_entry F.slot_zip_next tz F.entry_zip_next (zx_end hd Z hZ hI hO i1 i2 s1 s2 hn fun g e hk q => ?_) (F.args_zip_next_1 _))))
  obtain ⟨o, ho, hc⟩ := q
  exact wpAny_bind (wpAny_isInstance (T := "StopIteration") (b := true) ⟨o, ho, hc⟩ isSubtype_stop (wpAny_pure (hQ _ hk)))
end
def SK.io (k : SK) (a : Addr) : Obj := { cls := .type k.nm, data := .fields #[.ref a, .int 0 0] }
def zx1 (k : SK) (h : Heap) (a : Addr) : Heap := h.push (k.io a)
def zx2 (k k' : SK) (h : Heap) (a b : Addr) : Heap := (zx1 k h a).push (k'.io b)
def zx3 (k k' : SK) (h : Heap) (a b : Addr) : Heap := (zx2 k k' h a b).push { cls := .type "tuple", data := .seq #[.ref h.objs.size, .ref (zx1 k h a).objs.size] }
def zx4 (k k' : SK) (h : Heap) (a b : Addr) : Heap := (zx3 k k' h a b).push { cls := .type "tuple", data := .seq #[.none, .none] }
def zx5 (k k' : SK) (h : Heap) (a b : Addr) : Heap := (zx4 k k' h a b).push { cls := .type "zip", data := .fields #[.none, .bool false, .bool false, .ref (zx2 k k' h a b).objs.size, .ref (zx3 k k' h a b).objs.size] }
theorem meets_zx (k k' : SK) (a b : Addr) (xs ys : Array Value) : Meets (Builtin.«zip.__new__» ⟨[.type "zip", .ref a, .ref b], []⟩) (fun _ R s => k.Sq s.heap a xs ∧ k'.Sq s.heap b ys ∧
      R (.ok (.ret (.ref (zx4 k k' s.heap a b).objs.size))) { s with heap := zx5 k k' s.heap a b }) :=
  .of_wp fun prog w A R s h => by
    obtain ⟨hp, g, d, tk, os⟩ := s
    obtain ⟨ha, hb, h⟩ := h
    have hsub := sub_zip
    cases k <;> cases k'
    · have A1 : Heap.IsList (Shared.heap ⟨hp, g, d, tk, os⟩) a xs := ha
      have A2 : Heap.IsList (Shared.heap ⟨hp.push { cls := .type "list_iterator", data := .fields #[.ref a, .int 0 0] }, g, d, tk, os⟩) b ys := Heap.IsList.push hb _
      wp_walk using wpAny_pyIter_list A1, wpAny_pyIter_list A2
      exact ⟨_, rfl, h⟩
    · have A1 : Heap.IsList (Shared.heap ⟨hp, g, d, tk, os⟩) a xs := ha
      have A2 : Heap.IsTuple (Shared.heap ⟨hp.push { cls := .type "list_iterator", data := .fields #[.ref a, .int 0 0] }, g, d, tk, os⟩) b ys := Heap.IsTuple.push hb _
      wp_walk using wpAny_pyIter_list A1, wpAny_pyIter_tuple A2
      exact ⟨_, rfl, h⟩
    · have A1 : Heap.IsTuple (Shared.heap ⟨hp, g, d, tk, os⟩) a xs := ha
      have A2 : Heap.IsList (Shared.heap ⟨hp.push { cls := .type "tuple_iterator", data := .fields #[.ref a, .int 0 0] }, g, d, tk, os⟩) b ys := Heap.IsList.push hb _
      wp_walk using wpAny_pyIter_tuple A1, wpAny_pyIter_list A2
      exact ⟨_, rfl, h⟩
    · have A1 : Heap.IsTuple (Shared.heap ⟨hp, g, d, tk, os⟩) a xs := ha
      have A2 : Heap.IsTuple (Shared.heap ⟨hp.push { cls := .type "tuple_iterator", data := .fields #[.ref a, .int 0 0] }, g, d, tk, os⟩) b ys := Heap.IsTuple.push hb _
      wp_walk using wpAny_pyIter_tuple A1, wpAny_pyIter_tuple A2
      exact ⟨_, rfl, h⟩

section
variable {pg : Program} {wd : World} {Ar : Around} {Ex : Value → Shared → Prop} {s : Shared}
theorem call_zx {k k' : SK} {a b : Addr} {xs ys : Array Value} {Q : Value → Shared → Prop} (ha : k.Sq s.heap a xs) (hb : k'.Sq s.heap b ys)
    (h : ∀ g, IsZip g (s.heap.objs.size + 4) (s.heap.objs.size + 2) (s.heap.objs.size + 3) .none → IsPair g (s.heap.objs.size + 2) (.ref s.heap.objs.size) (.ref (s.heap.objs.size + 1)) →
      IsPair g (s.heap.objs.size + 3) .none .none → k.Itr g s.heap.objs.size a 0 → k'.Itr g (s.heap.objs.size + 1) b 0 → (∀ c o, s.heap.get? c = some o → g.get? c = some o) → Q (.ref (s.heap.objs.size + 4)) { s with heap := g }) :
    wpAny (model pg wd) Ar (PySem.call (.type "zip") [.ref a, .ref b]) Q Ex s := by
  refine callType_new F.called_zip (by decide) (F.typeCall_zip_2 _ _) (F.newCall_zip_2 _ _) (fun ob => F.args_object_init_3 ob _ _) F.entry_zip_new (meets_zx k k' a b xs ys) ⟨ha, hb, ?_⟩
  have n1 : (zx1 k s.heap a).objs.size = s.heap.objs.size + 1 := Heap.size_push ..
  have n2 : (zx2 k k' s.heap a b).objs.size = s.heap.objs.size + 2 := by
    unfold zx2
    rw [Heap.size_push, n1]
  have n3 : (zx3 k k' s.heap a b).objs.size = s.heap.objs.size + 3 := by
    unfold zx3
    rw [Heap.size_push, n2]
  have n4 : (zx4 k k' s.heap a b).objs.size = s.heap.objs.size + 4 := by
    unfold zx4
    rw [Heap.size_push, n3]
  have up : ∀ (g : Heap) (o : Obj) (c : Addr) (q : Obj), g.get? c = some q → (g.push o).get? c = some q := fun g o c q e => Heap.get?_push_of_some _ e
  have e5 : (zx5 k k' s.heap a b).get? (zx4 k k' s.heap a b).objs.size = some _ := Heap.get?_push_size _ rfl
  have e4 : (zx5 k k' s.heap a b).get? (zx3 k k' s.heap a b).objs.size = some _ := up _ _ _ _ (Heap.get?_push_size _ rfl)
  have e3 : (zx5 k k' s.heap a b).get? (zx2 k k' s.heap a b).objs.size = some _ := up _ _ _ _ (up _ _ _ _ (Heap.get?_push_size _ rfl))
  have e2 : (zx5 k k' s.heap a b).get? (zx1 k s.heap a).objs.size = some (k'.io b) := up _ _ _ _ (up _ _ _ _ (up _ _ _ _ (Heap.get?_push_size _ rfl)))
  have e1 : (zx5 k k' s.heap a b).get? s.heap.objs.size = some (k.io a) := up _ _ _ _ (up _ _ _ _ (up _ _ _ _ (up _ _ _ _ (Heap.get?_push_size _ rfl))))
  show _ ∧ _
  rw [n2, n3, n4] at e5
  rw [n1, n2] at e3
  rw [n3] at e4
  rw [n1] at e2
  rw [n4]
  exact ⟨⟨_, e5, rfl⟩, h _ e5 e3 e4 (SK.Itr.mk e1 rfl rfl) (SK.Itr.mk e2 rfl rfl) fun c o q => up _ _ _ _ (up _ _ _ _ (up _ _ _ _ (up _ _ _ _ (up _ _ _ _ q))))⟩
end
def SqK : SK → PySem.W.Frag → Hp → Addr → List V → Prop
  | .l => SqL
  | .t => SqT
theorem inv_sq {X : Cx} {pins : List (Addr × Obj)} {σ : L2.St} {H : Hp} {s : Shared} (I : Inv X pins σ H s) {k : SK} {a : Addr} {xs : List V} (h : SqK k X.K H a xs) : ∃ its : List Value, Vals xs its ∧ k.Sq s.heap a its.toArray ∧ a < s.heap.objs.size := by
  cases k
  · obtain ⟨its, r, p, _⟩ := I.list h
    exact ⟨its, r, p.isList, p.lt⟩
  · obtain ⟨its, r, p, _⟩ := I.tuple h
    obtain ⟨o, ho, _⟩ := id p
    exact ⟨its, r, (show s.heap.IsTuple a its.toArray from p), Heap.lt_size ho⟩
def ItzX (K : PySem.W.Frag) (k k' : SK) (a b : Addr) : It :=
  ⟨fun i H => ∃ (xs ys : List V) (x y : V), SqK k K H a xs ∧ SqK k' K H b ys ∧ xs[i]? = some x ∧ ys[i]? = some y,
    fun i H v H' => ∃ T x y, v = .ref T ∧ H T = none ∧ H' = upd H T (.tup [x, y]) ∧ (∀ xs, SqK k K H a xs → xs[i]? = some x) ∧ ∀ ys, SqK k' K H b ys → ys[i]? = some y,
    fun i H => ∃ xs ys : List V, SqK k K H a xs ∧ SqK k' K H b ys ∧ (xs.length ≤ i ∨ ys.length ≤ i)⟩
theorem sqk_inj {X : Cx} {pins : List (Addr × Obj)} {σ : L2.St} {H : Hp} {s : Shared} (I : Inv X pins σ H s) {k : SK} {a : Addr} {xs ys : List V} (h : SqK k X.K H a xs) (h' : SqK k X.K H a ys) : xs = ys := by
  cases k
  · exact I.list_inj h h'
  · exact I.tuple_inj h h'
theorem turn_zx {P : Program} {w : World} {K : PySem.W.Frag} {elts : List Expr} {kk : Nat} {tpos : Pos} {k k' : SK} {a b zp tI tO p1 p2 : Addr} (Z : ZipApart zp tI tO p1 p2 a b) :
    Turn P w K (.Tuple elts kk tpos) (ItzX K k k' a b) [zp, tI, tO, p1, p2] zp (fun i h => IsZip h zp tI tO .none ∧ IsPair h tI (.ref p1) (.ref p2) ∧ (∃ x y, IsPair h tO x y) ∧ k.Itr h p1 a i ∧ k'.Itr h p2 b i) where
  mem := List.mem_cons_self
  obj := fun i h st c hc => by
    obtain ⟨hZ, hI, ⟨x, y, hO⟩, i1, i2⟩ := st
    obtain ⟨o1, e1, _, d1⟩ := i1.ob
    obtain ⟨o2, e2, _, d2⟩ := i2.ob
    simp only [List.mem_cons, List.not_mem_nil, or_false] at hc
    rcases hc with rfl | rfl | rfl | rfl | rfl
    · exact ⟨_, hZ, fun v q => nomatch q⟩
    · exact ⟨_, hI, fun v q => nomatch q⟩
    · exact ⟨_, hO, fun v q => nomatch q⟩
    · exact ⟨o1, e1, fun v q => by
        rw [d1] at q
        cases q⟩
    · exact ⟨o2, e2, fun v q => by
        rw [d2] at q
        cases q⟩
  keep := fun i h h' st kp => by
    obtain ⟨hZ, hI, ⟨x, y, hO⟩, i1, i2⟩ := st
    exact ⟨kp zp (by simp) _ hZ, kp tI (by simp) _ hI, ⟨x, y, kp tO (by simp) _ hO⟩, i1.to fun o q => kp p1 (by simp) o q, i2.to fun o q => kp p2 (by simp) o q⟩
  item := by
    intro X hP hw hK hc i pins s σ H E I hf st hg
    subst hP hw hK
    obtain ⟨hZ, hI, ⟨u0, v0, hO⟩, i1, i2⟩ := st
    obtain ⟨xs, ys, x, y, qx, qy, hx, hy⟩ := hg
    obtain ⟨us, rv, sx, _⟩ := inv_sq I qx
    obtain ⟨vs, rw', sy, _⟩ := inv_sq I qy
    obtain ⟨u, hu, ru⟩ := rv.get hx
    obtain ⟨v, hv, rv'⟩ := rw'.get hy
    have ltz : zp < s.heap.objs.size := Heap.lt_size hZ
    refine pnx_item Z hZ hI hO i1 i2 sx sy (x := u) (y := v) (by simpa using hu) (by simpa using hv) fun g hZ' hO' i1' i2' hT sz old => ?_
    refine ⟨_, rfl, wpAny_letOwnedTupleGo_zip (s := { s with heap := g }) hZ' fun g2 hZ2 m2 => ?_⟩
    have hT2 : g2.get? s.heap.objs.size = some { cls := .type "tuple", data := .seq #[u, v] } := (m2.2 _ (Nat.ne_of_gt ltz)).trans hT
    have new : ObjOk X.prog X.w (upd H s.heap.objs.size (.tup [x, y])) g2 s.heap.objs.size (.tup [x, y]) :=
      ⟨by show 2 ≤ sizeLine; decide, [u, v], .cons ru (.cons rv' .nil), ⟨_, hT2, rfl, _, rfl⟩⟩
    have I1 : Inv X pins σ (upd H s.heap.objs.size (.tup [x, y])) { s with heap := g2 } :=
      I.turnedNew (t' := s.toks) (ch := [zp, tI, tO, p1, p2]) (fun c o hb q => by
        simp only [List.mem_cons, List.not_mem_nil, or_false, not_or] at hb
        exact (m2.2 c hb.1).trans (old c o hb.1 hb.2.2.1 hb.2.2.2.1 hb.2.2.2.2 q)) hf (Nat.le_refl _) new
    refine ⟨.ref s.heap.objs.size, _, I1, rfl, ⟨_, x, y, rfl, I.hok.fresh (Nat.le_refl _), rfl, fun l hl => by rw [sqk_inj I hl qx]; exact hx, fun l hl => by rw [sqk_inj I hl qy]; exact hy⟩, ⟨hZ2, ?_, ⟨u, v, ?_⟩, ?_, ?_⟩, fun c hcm => ?_⟩
    · exact (m2.2 _ Z.TIz).trans (old _ _ Z.TIz Z.TITO Z.TIi1 Z.TIi2 hI)
    · exact (m2.2 _ Z.TOz).trans hO'
    · exact i1'.to fun o q => (m2.2 _ Z.i1z).trans q
    · exact i2'.to fun o q => (m2.2 _ Z.i2z).trans q
    · have lt : c < s.heap.objs.size := by
        obtain ⟨o1, e1, _⟩ := i1.ob
        obtain ⟨o2, e2, _⟩ := i2.ob
        simp only [List.mem_cons, List.not_mem_nil, or_false] at hcm
        rcases hcm with rfl | rfl | rfl | rfl | rfl
        · exact ltz
        · exact Heap.lt_size hI
        · exact Heap.lt_size hO
        · exact Heap.lt_size e1
        · exact Heap.lt_size e2
      rw [upd_ne (Nat.ne_of_lt lt)]
      exact (hf c hcm).1
  done := by
    intro X hP hw hK hc i pins s σ H E I hf st hg
    subst hP hw hK
    obtain ⟨hZ, hI, ⟨u0, v0, hO⟩, i1, i2⟩ := st
    obtain ⟨xs, ys, qx, qy, hn⟩ := hg
    obtain ⟨us, rv, sx, _⟩ := inv_sq I qx
    obtain ⟨vs, rw', sy, _⟩ := inv_sq I qy
    have l1 := rv.length
    have l2 := rw'.length
    have he : us.toArray[i]? = none ∨ vs.toArray[i]? = none := by
      rcases hn with q | q
      · exact .inl (by simp; omega)
      · exact .inr (by simp; omega)
    exact pnx_end (I.ok.hd hc) Z hZ hI hO i1 i2 sx sy he fun g old => ⟨rfl, I.turnedL (t' := s.toks) (ch := [zp, tI, tO, p1, p2]) (fun c o hb q => by
      simp only [List.mem_cons, List.not_mem_nil, or_false, not_or] at hb
      exact old c o hb.1 hb.2.2.1 hb.2.2.2.1 hb.2.2.2.2 q) hf⟩
  self := fun A i s Q E st h => wpAny_pyIter_zip st.1 h
def iZipX (K : PySem.W.Frag) (ta : TA) : TI := fun σ H R => ta σ H fun vs H1 => ∃ k k' a b xs ys, vs = [.ref a, .ref b] ∧ SqK k K H1 a xs ∧ SqK k' K H1 b ys ∧ R (ItzX K k k' a b) H1
theorem pi_zx {X : Cx} {e e2 : Expr} {ta : TA} {p pos tpos : Pos} {elts : List Expr} {kk : Nat} (hg : Gl X "zip") (hm : X.mg "zip" = none) (ha : PA X [e, e2] ta)
    (he : starEach [e, e2] X.env = (false, eval e X.env) :: starEach [e2] X.env := by rfl) (hl : (backTo pos (starEach [e2] X.env)).any (·.1) = false := by rfl) :
    PI X (.Tuple elts kk tpos) (.Call (.Name "zip" p) [e, e2] [] pos) (iZipX X.K ta) := by
  refine ⟨fun pins s σ H R I h => ?_⟩
  refine Call_ (ld_blt I hg hm PyProof.Rows.boot_zip (PyProof.Rows.callWith_type1 (thn (ha.run pos pins s σ H _ I h) fun us t ⟨vs, H1, I1, r1, q1⟩ => ?_) he hl))
  obtain ⟨k, k', a, b, xs, ys, rfl, qx, qy, q⟩ := q1
  cases r1 with
  | cons r rr =>
    cases rr with
    | cons r' rr =>
      cases rr
      cases r
      cases r'
      obtain ⟨us, rv, sx, la⟩ := inv_sq I1 qx
      obtain ⟨vs, rw', sy, lb⟩ := inv_sq I1 qy
      refine call_zx sx sy fun g hZ hI hO i1 i2 old => wpAny_pyIter_zip hZ ?_
      have I2 : Inv X pins σ H1 { t with heap := g } := I1.kept (t' := t.toks) old
      refine ⟨t.heap.objs.size + 4, [t.heap.objs.size + 4, t.heap.objs.size + 2, t.heap.objs.size + 3, t.heap.objs.size, t.heap.objs.size + 1], _, _, H1, rfl, I2, turn_zx (PySem.W.ktu_apart t.heap.objs.size a b la lb), ⟨hZ, hI, ⟨_, _, hO⟩, i1, i2⟩, fun c hcm => ?_, q⟩
      have le : t.heap.objs.size ≤ c := by
        simp only [List.mem_cons, List.not_mem_nil, or_false] at hcm
        rcases hcm with rfl | rfl | rfl | rfl | rfl <;> first | exact Nat.le_refl _ | exact Nat.le_add_right _ _
      exact I1.fpOk le (I1.hok.fresh le)
end PD

set_option Elab.async false
set_option linter.all false
set_option maxRecDepth 100000
/-! sorted of tuples, an empty one among them -/
namespace PD
open PySem PySem.Spec PyProof.Rows L2
open PySem.W (EachIs AllAlike Sortable dataLe SortsAt dataKind dataKind_inv dataKind_some alike alikeAll dataLt)
section
variable {pg : Program} {wd : World} {Ar : Around} {Ex : Value → Shared → Prop} {s : Shared}
theorem tup_call_lt {Q : Value → Shared → Prop} {l b : Addr} {its its2 : Array Value} {e r : Nat → Bool} (hl : s.heap.IsTuple l its) (hb : s.heap.IsTuple b its2)
    (he : ∀ j (h1 : j < its.size) (h2 : j < its2.size), SeqAt.EqAt Ar.in1 s its[j] its2[j] (e j)) (hr : ∀ j (h1 : j < its.size) (h2 : j < its2.size), e j = false → SeqAt.RcLt Ar.in1 s its[j] its2[j] (r j))
    (h : Q (.bool (SeqAt.firstLt e r (decide (its.size < its2.size)) (List.range (min its.size its2.size)))) s) : wpAny (model pg wd) Ar (PySem.call (.builtin "tuple.__lt__") [.ref l, .ref b]) Q Ex s := by
  obtain ⟨⟨c, dd, dat, sl⟩, ho, hc, n, hd⟩ := id hl
  obtain ⟨⟨c2, dd2, dat2, sl2⟩, ho2, hc2, n2, hd2⟩ := id hb
  simp only at hc hd hc2 hd2
  subst hc hd hc2 hd2
  exact call_meets F.slot_tuple_lt ⟨_, ho, rfl⟩ F.entry_tuple_lt (F.args_tuple_lt_2 _ _) (SeqAt.tuple_ltAt l b its its2 n n2 dd dd2 sl sl2 e r) ⟨ho, ho2, he, hr, h⟩
theorem tup_oneLt {xs ys : List PyData} {a b : Value} {as bs : List Addr} {Q : Bool → Shared → Prop} (f : Bool) (ra : Reads s.heap a (.tuple xs) as) (rb : Reads s.heap b (.tuple ys) bs) (h : alike (.tuple xs) (.tuple ys) = true)
    (hu : Ar.units + min (PyData.tuple xs).depth (PyData.tuple ys).depth < cLine) (hq : Q (dataLt (.tuple xs) (.tuple ys)) s) : wpAny (model pg wd) Ar (oneLt' f a b) Q Ex s := by
  cases f with
  | false => exact PySem.W.oneLt_alike (fun z => nomatch z) ra rb h (fun z => nomatch z) hu hq
  | true =>
    have hal : alikeAll xs ys = true := by simpa [alike] using h
    cases ra with
    | @tuple l o vs n _ as1 h1 h2 h3 h4 =>
      cases rb with
      | @tuple l' o' vs' n' _ bs1 k1 k2 k3 k4 =>
        have n1 : vs.size = xs.length := by simpa using SeqAt.ReadsAll.length _ _ _ h4
        have n2 : vs'.size = ys.length := by simpa using SeqAt.ReadsAll.length _ _ _ k4
        rw [PySem.W.dataLt_tuple, ← PySem.W.firstLt_toks xs ys hal, ← n1, ← n2] at hq
        rw [oneLt'_eq]
        simp only [if_true]
        refine wpAny_bind (wpAny_cRoomFor (SeqAt.room_here hu) ?_)
        refine wpAny_bind (wpAny_callSpecialIfBound?_slot (T := "tuple") ⟨_, h1, h2⟩ F.slot_tuple_lt (tup_call_lt (e := SeqAt.pairEq xs ys) (r := fun j => dataLt (xs.getD j .none) (ys.getD j .none)) ⟨_, h1, h2, _, h3⟩ ⟨_, k1, k2, _, k3⟩ (fun j j1 j2 => ?_) (fun j j1 j2 hj => ?_) ?_))
        · have := PySem.W.eqAt_alikeAll xs ys Ar.in1 s vs.toList vs'.toList _ _ h4 k4 hal (SeqAt.room_in hu) j (by simpa using j1) (by simpa using j2)
          simpa using this
        · have := PySem.W.rcLt_alikeAll xs ys Ar.in1 s vs.toList vs'.toList _ _ h4 k4 hal (SeqAt.room_in hu) j (by simpa using j1) (by simpa using j2) hj
          simpa using this
        · exact wpAny_truthy_bool hq
end

section
variable {M : Model} {Ar : Around} {Ex : Value → Shared → Prop} {s : Shared}
theorem mapM_each {α β : Type} {f : α → Sem β} (r : α → β) : ∀ (l : List α) {Q : List β → Shared → Prop}, (∀ v ∈ l, ∀ (Q' : β → Shared → Prop), Q' (r v) s → wpAny M Ar (f v) Q' Ex s) → Q (l.map r) s → wpAny M Ar (l.mapM f) Q Ex s
  | [], _, _, h => by
    rw [List.mapM_nil]
    exact wpAny_pure h
  | x :: l, Q, hf, h => by
    rw [List.mapM_cons]
    exact wpAny_bind (hf x List.mem_cons_self _ (wpAny_bind (mapM_each r l (Q := fun bs t => wpAny M Ar (pure (r x :: bs)) Q Ex t) (fun v hv => hf v (List.mem_cons_of_mem _ hv)) (wpAny_pure h))))
def first0 (h : Heap) : Value → Option Value
  | .ref a => match h.get? a with
    | some o => match o.data with
      | .seq xs _ => xs[0]?
      | _ => none
    | none => none
  | _ => none
/-- a tuple of the heap -/
def IsTupV (h : Heap) (v : Value) : Prop := ∃ a o xs n, v = .ref a ∧ h.get? a = some o ∧ o.cls = .type "tuple" ∧ o.data = .seq xs n
theorem tup_looks {v : Value} (hv : IsTupV s.heap v) : PySem.W.Looks M s.heap (typeOf v) (Value.type "tuple") := by
  obtain ⟨a, o, xs, n, rfl, ho, hc, hd⟩ := hv
  have L : PySem.W.Looks M s.heap (typeOf (Value.ref a)) o.cls := (PySem.W.Looks.ld ho).andThen .now
  rw [hc] at L
  exact L
theorem first_tup {v : Value} {Q : Option Value → Shared → Prop} (hv : IsTupV s.heap v) (h : Q (first0 s.heap v) s) : wpAny M Ar (firstOfTuple' v) Q Ex s := by
  have L := tup_looks (M := M) hv
  obtain ⟨a, o, xs, n, rfl, ho, hc, hd⟩ := hv
  rw [PySem.W.kas_first_eq]
  refine wpAny_bind (L.here ?_)
  rw [if_neg (by first | decide | simp)]
  refine wpAny_bind (PyProof.Rows.listItems_at ho hd (wpAny_pure ?_))
  have e : first0 s.heap (.ref a) = xs[0]? := by
    unfold first0
    simp only [ho, hd]
  rw [e] at h
  exact h
theorem each_right {α β : Type} {R : α → β → Prop} : ∀ {as : List α} {bs : List β}, EachIs R as bs → ∀ b, b ∈ bs → ∃ a, a ∈ as ∧ R a b
  | _, _, .nil, _, hb => absurd hb (by simp)
  | _, _, .cons (a := a) h t, b, hb => by
    rcases List.mem_cons.mp hb with rfl | hb
    · exact ⟨a, List.mem_cons_self, h⟩
    · obtain ⟨a', h1, h2⟩ := each_right t b hb
      exact ⟨a', List.mem_cons_of_mem _ h1, h2⟩
/-- the kind of keys that tuples are, one of them empty -/
def kindT (h : Heap) (vs : List Value) : SortKind := if ((vs.map (first0 h)).toArray[0]?.bind id).isSome then general' else oneType'
theorem kind_tups {vs : List Value} {Q : SortKind → Shared → Prop} (h2 : 2 ≤ vs.length) (hv : ∀ v ∈ vs, IsTupV s.heap v) (h0 : ((vs.map (first0 s.heap)).toArray.all fun x => x.isSome) = false) (h : Q (kindT s.heap vs) s) : wpAny M Ar (keyKind' vs.toArray) Q Ex s := by
  rw [keyKind'_eq, List.mapM_toArray, map_eq_pure_bind]
  refine wpAny_bind (wpAny_bind (mapM_each (first0 s.heap) vs (fun v hm Q' hq => first_tup (hv v hm) hq) (wpAny_pure ?_)))
  rw [if_neg (by rw [h0]; exact Bool.false_ne_true)]
  unfold kindT at h
  by_cases hc : ((vs.map (first0 s.heap)).toArray[0]?.bind id).isSome = true
  · rw [if_pos hc] at h ⊢
    exact wpAny_pure h
  · rw [if_neg hc] at h ⊢
    rw [oneTypeOnly'_eq, List.mapM_toArray, map_eq_pure_bind]
    refine wpAny_bind (wpAny_bind (wpAny_bind (PySem.W.kas_mapM (r := Value.type "tuple") _ (fun v hm Q' hq => (tup_looks (hv v hm)).here hq) (wpAny_pure ?_))))
    obtain ⟨v1, rest, rfl⟩ : ∃ v1 rest, vs = v1 :: rest := by
      cases vs with
      | nil => simp at h2
      | cons a b => exact ⟨a, b, rfl⟩
    have hall : ((List.map (fun _ => Value.type "tuple") (v1 :: rest)).toArray.all fun x => x == Value.type "tuple") = true := by
      simp only [List.all_toArray, List.all_map, List.all_eq_true]
      intro _ _
      exact beq_self_eq_true _
    have hz : (List.map (fun _ => Value.type "tuple") (v1 :: rest)).toArray[0]? = some (Value.type "tuple") := by simp
    rw [hz]
    simp only [hall, if_true]
    exact wpAny_pure (wpAny_pure h)
end
theorem reads_tupV {h : Heap} {v : Value} {xs : List PyData} {as : List Addr} (r : Reads h v (.tuple xs) as) : IsTupV h v := by
  cases r with
  | @tuple a o vs n _ _ h1 h2 h3 h4 => exact ⟨a, o, vs, n, rfl, h1, h2, h3⟩
theorem keyLt'_gen (x y : Value) : keyLt' general' x y = oneLt' false x y := rfl
/-- tuples of alike data can be sorted, an empty one among them or not -/
theorem sortsAt_tups {pg : Program} {wd : World} {Ar : Around} {s : Shared} {vs : List Value} {ds : List PyData} (e : EachIs (fun v d => ∃ as, Reads s.heap v d as) vs ds) (hal : AllAlike ds) (ht : ∀ d, d ∈ ds → ∃ xs, d = .tuple xs) (hu : ∀ d, d ∈ ds → Ar.units + d.depth < cLine) :
    SortsAt pg wd Ar s (dataKind s.heap ds) vs := by
  by_cases hn : ∀ d, d ∈ ds → ∃ x r, d = .tuple (x :: r)
  · exact SortsAt.data e hal (.inl hn) hu
  · refine ⟨fun v hv => ?_, ?_⟩
    · obtain ⟨d, hd, as, r⟩ := e.left v hv
      exact ⟨_, dataKind_some hal hd r⟩
    · have room : ∀ {d d' : PyData}, d ∈ ds → Ar.units + min d.depth d'.depth < cLine := fun {d d'} hd => Nat.lt_of_le_of_lt (Nat.add_le_add_left (Nat.min_le_left _ _) _) (hu d hd)
      have hv : ∀ v ∈ vs, IsTupV s.heap v := fun v hv => by
        obtain ⟨d, hd, as, r⟩ := e.left v hv
        obtain ⟨xs, rfl⟩ := ht d hd
        exact reads_tupV r
      have h0 : ((vs.map (first0 s.heap)).toArray.all fun x => x.isSome) = false := by
        rw [Bool.eq_false_iff]
        intro z
        apply hn
        intro d hd
        obtain ⟨v, hm, as, r⟩ := each_right e d hd
        obtain ⟨xs, rfl⟩ := ht d hd
        have hz : (first0 s.heap v).isSome = true := by
          simp only [List.all_toArray, List.all_map, List.all_eq_true] at z
          exact z v hm
        cases xs with
        | cons x r' => exact ⟨x, r', rfl⟩
        | nil =>
          exfalso
          cases r with
          | @tuple a o us n _ _ h1 h2 h3 h4 =>
            have hl : us.toList = [] := by
              cases hq : us.toList with
              | nil => rfl
              | cons _ _ =>
                rw [hq] at h4
                cases h4
            have hu0 : us[0]? = none := by
              rw [← Array.getElem?_toList, hl]
              rfl
            have e1 : first0 s.heap (.ref a) = us[0]? := by
              unfold first0
              simp only [h1, h3]
            rw [e1, hu0] at hz
            cases hz
      refine ⟨kindT s.heap vs, ?_, fun h2 E Q hq => kind_tups h2 hv h0 hq⟩
      intro E x y a b Q ha hb hq
      obtain ⟨d, as, hd, ra, rfl⟩ := dataKind_inv ha
      obtain ⟨d', as', hd', rb, rfl⟩ := dataKind_inv hb
      obtain ⟨xs, rfl⟩ := ht d hd
      obtain ⟨ys, rfl⟩ := ht d' hd'
      unfold kindT
      split
      · rw [keyLt'_gen]
        exact tup_oneLt false ra rb (hal _ hd _ hd') (room hd) hq
      · rw [keyLt'_oneType]
        exact tup_oneLt true ra rb (hal _ hd _ hd') (room hd) hq

/-- all are tuples, or none is a tuple or None -/
def Sortable2 (ds : List PyData) : Prop := (∀ d, d ∈ ds → ∃ xs, d = .tuple xs) ∨ ∀ d, d ∈ ds → d ≠ .none ∧ ∀ xs, d ≠ .tuple xs
theorem sortsAt_all {pg : Program} {wd : World} {Ar : Around} {s : Shared} {vs : List Value} {ds : List PyData} (e : EachIs (fun v d => ∃ as, Reads s.heap v d as) vs ds) (hal : AllAlike ds) (hk : Sortable2 ds) (hu : ∀ d, d ∈ ds → Ar.units + d.depth < cLine) :
    SortsAt pg wd Ar s (dataKind s.heap ds) vs := by
  rcases hk with h | h
  · exact sortsAt_tups e hal h hu
  · exact SortsAt.data e hal (.inr h) hu
theorem sorted_all {β : Type} {pg : Program} {wd : World} {Ar : Around} {Ex : Value → Shared → Prop} {s : Shared} {vs : List Value} {bs : List β} {enc : β → PyData} {R : Value → β → Prop} {l : Addr} {Q : Value → Shared → Prop} (hl : s.heap.IsList l vs.toArray) (e : EachIs R vs bs)
    (er : EachIs (fun v b => ∃ as, Reads s.heap v (enc b) as) vs bs) (hal : AllAlike (bs.map enc)) (hk : Sortable2 (bs.map enc)) (hL : bs.length ≤ sizeLine) (hu : ∀ b, b ∈ bs → Ar.units + 2 + (enc b).depth < cLine)
    (h : ∀ out, out.length = bs.length → EachIs R out (bs.mergeSort (dataLe false enc)) → Q (.ref (s.heap.objs.size + 1)) { s with heap := sortedAll s.heap vs (List.toArray out) }) : wpAny (model pg wd) Ar (PySem.call (.builtin "sorted") [.ref l]) Q Ex s := by
  have er' : EachIs (fun v b => ∃ as, Reads (PySem.W.sortingHeap (PySem.W.copyHeap s.heap vs) (s.heap.objs.size + 1) vs) v (enc b) as) vs bs := er.mono fun _ _ ⟨as, r⟩ => ⟨as, PyProof.Rows.Reads.keeps (fun _ _ => PySem.W.sorting_copy_old) r⟩
  exact PySem.W.sorted_vals hl (sortsAt_all (s := { s with heap := PySem.W.sortingHeap (PySem.W.copyHeap s.heap vs) (s.heap.objs.size + 1) vs }) (PySem.W.each_map (R := fun v d => ∃ as, Reads (PySem.W.sortingHeap (PySem.W.copyHeap s.heap vs) (s.heap.objs.size + 1) vs) v d as) enc er') hal hk (PySem.W.bound_map hu)) (by rw [e.length]; exact hL)
    (h _ (by rw [PySem.W.sortVals_length false rfl]; exact e.length) (PySem.W.sortVals_data false e er' hal))
end PD

set_option Elab.async false
set_option linter.all false
set_option maxRecDepth 100000
namespace PD
open PySem PySem.Spec PyProof.Rows L2

/-- a value as plain data -/
inductive D where
  | non | bl (b : Bool) | int (i : Int) | str (x : Str) | tup (xs : List D) | lst (xs : List D) | dic (t : Bool) (kvs : List (D × D)) | scr (ns : List Int)
instance : Inhabited D := ⟨.non⟩
def kD : Key → D
  | .inl i => .int i
  | .inr x => .str x
def kTD (ks : List Key) : D := .tup (ks.map kD)

mutual
def Rp (K : PySem.W.Frag) (G : Hp) : D → V → Prop
  | .non, v => v = .non
  | .bl b, v => v = .bl b
  | .int i, v => v = .int i
  | .str x, v => v = .str x
  | .tup ds, v => ∃ a xs, v = .ref a ∧ G a = some (.tup xs) ∧ RpL K G ds xs
  | .lst ds, v => ∃ a xs, v = .ref a ∧ G a = some (.lst xs) ∧ RpL K G ds xs
  | .dic t ds, v => ∃ a, v = .ref a ∧ ((t = false ∧ ∃ o ks, G a = some (.frz o (.dK ks)) ∧ RpK K G ds ks) ∨ (t = true ∧ ∃ o ks, G a = some (.frz o (.dT ks)) ∧ RpT K G ds ks))
  | .scr ns, v => ∃ a, v = .ref a ∧ SqL K G a (ns.map V.int)
def RpL (K : PySem.W.Frag) (G : Hp) : List D → List V → Prop
  | [], xs => xs = []
  | d :: ds, xs => ∃ x r, xs = x :: r ∧ Rp K G d x ∧ RpL K G ds r
def RpK (K : PySem.W.Frag) (G : Hp) : List (D × D) → List (Key × V) → Prop
  | [], xs => xs = []
  | (kd, d) :: ds, xs => ∃ k x r, xs = (k, x) :: r ∧ kd = kD k ∧ Rp K G d x ∧ RpK K G ds r
def RpT (K : PySem.W.Frag) (G : Hp) : List (D × D) → List (List Key × V) → Prop
  | [], xs => xs = []
  | (kd, d) :: ds, xs => ∃ k x r, xs = (k, x) :: r ∧ kd = kTD k ∧ Rp K G d x ∧ RpT K G ds r
end

theorem Same.tup {K : PySem.W.Frag} {H H' : Hp} {a : Addr} {xs : List V} (e : Same H H') (h : H a = some (.tup xs)) : SqT K H' a xs := SqT.of (e _ _ h)

section
variable {K : PySem.W.Frag} {G G' : Hp}
mutual
theorem Rp.mono (e : Same G G') : ∀ (d : D) (v : V), Rp K G d v → Rp K G' d v
  | .non, _, h => by simp only [Rp] at h ⊢; exact h
  | .bl _, _, h => by simp only [Rp] at h ⊢; exact h
  | .int _, _, h => by simp only [Rp] at h ⊢; exact h
  | .str _, _, h => by simp only [Rp] at h ⊢; exact h
  | .tup ds, _, h => by
    simp only [Rp] at h ⊢
    obtain ⟨a, xs, e1, e2, e3⟩ := h
    exact ⟨a, xs, e1, e _ _ e2, RpL.mono e ds xs e3⟩
  | .lst ds, _, h => by
    simp only [Rp] at h ⊢
    obtain ⟨a, xs, e1, e2, e3⟩ := h
    exact ⟨a, xs, e1, e _ _ e2, RpL.mono e ds xs e3⟩
  | .dic t ds, _, h => by
    simp only [Rp] at h ⊢
    obtain ⟨a, e1, h⟩ := h
    refine ⟨a, e1, ?_⟩
    rcases h with ⟨ht, o, ks, e2, e3⟩ | ⟨ht, o, ks, e2, e3⟩
    · exact .inl ⟨ht, o, ks, e _ _ e2, RpK.mono e ds ks e3⟩
    · exact .inr ⟨ht, o, ks, e _ _ e2, RpT.mono e ds ks e3⟩
  | .scr _, _, h => by
    simp only [Rp] at h ⊢
    obtain ⟨a, e1, e2⟩ := h
    exact ⟨a, e1, e.seq e2⟩
theorem RpL.mono (e : Same G G') : ∀ (ds : List D) (xs : List V), RpL K G ds xs → RpL K G' ds xs
  | [], _, h => by simp only [RpL] at h ⊢; exact h
  | d :: ds, _, h => by
    simp only [RpL] at h ⊢
    obtain ⟨x, r, e1, e2, e3⟩ := h
    exact ⟨x, r, e1, Rp.mono e d x e2, RpL.mono e ds r e3⟩
theorem RpK.mono (e : Same G G') : ∀ (ds : List (D × D)) (xs : List (Key × V)), RpK K G ds xs → RpK K G' ds xs
  | [], _, h => by simp only [RpK] at h ⊢; exact h
  | (kd, d) :: ds, _, h => by
    simp only [RpK] at h ⊢
    obtain ⟨k, x, r, e1, e0, e2, e3⟩ := h
    exact ⟨k, x, r, e1, e0, Rp.mono e d x e2, RpK.mono e ds r e3⟩
theorem RpT.mono (e : Same G G') : ∀ (ds : List (D × D)) (xs : List (List Key × V)), RpT K G ds xs → RpT K G' ds xs
  | [], _, h => by simp only [RpT] at h ⊢; exact h
  | (kd, d) :: ds, _, h => by
    simp only [RpT] at h ⊢
    obtain ⟨k, x, r, e1, e0, e2, e3⟩ := h
    exact ⟨k, x, r, e1, e0, Rp.mono e d x e2, RpT.mono e ds r e3⟩
end
end

section
variable {K : PySem.W.Frag} {G : Hp}
theorem RpL.len : ∀ {ds : List D} {xs : List V}, RpL K G ds xs → ds.length = xs.length
  | [], _, h => by
    simp only [RpL] at h
    subst h
    rfl
  | d :: ds, _, h => by
    simp only [RpL] at h
    obtain ⟨x, r, e1, e2, e3⟩ := h
    subst e1
    simp only [List.length_cons, RpL.len e3]
theorem RpL.get : ∀ {ds : List D} {xs : List V}, RpL K G ds xs → ∀ {i : Nat} {d : D} {x : V}, ds[i]? = some d → xs[i]? = some x → Rp K G d x
  | [], _, h, i, d, x, e, _ => by simp at e
  | d :: ds, _, h, i, d', x', e, e' => by
    simp only [RpL] at h
    obtain ⟨x, r, e1, e2, e3⟩ := h
    subst e1
    cases i with
    | zero =>
      simp only [List.getElem?_cons_zero, Option.some.injEq] at e e'
      subst e e'
      exact e2
    | succ i =>
      simp only [List.getElem?_cons_succ] at e e'
      exact RpL.get e3 e e'
theorem RpL.mk : ∀ {ds : List D} {xs : List V}, ds.length = xs.length → (∀ (i : Nat) (d : D) (x : V), ds[i]? = some d → xs[i]? = some x → Rp K G d x) → RpL K G ds xs
  | [], xs, h, _ => by
    simp only [RpL]
    cases xs with
    | nil => rfl
    | cons x r => simp at h
  | d :: ds, xs, h, w => by
    cases xs with
    | nil => simp at h
    | cons x r =>
      simp only [RpL]
      refine ⟨x, r, rfl, w 0 d x rfl rfl, RpL.mk (by simpa using h) fun i d' x' e e' => w (i + 1) d' x' (by simpa using e) (by simpa using e')⟩
theorem RpL.nil : RpL K G [] [] := by simp only [RpL]
theorem RpL.cons {d : D} {ds : List D} {x : V} {xs : List V} (h : Rp K G d x) (h' : RpL K G ds xs) : RpL K G (d :: ds) (x :: xs) := by
  simp only [RpL]
  exact ⟨x, xs, rfl, h, h'⟩
theorem RpL.append : ∀ {ds es : List D} {xs ys : List V}, RpL K G ds xs → RpL K G es ys → RpL K G (ds ++ es) (xs ++ ys)
  | [], es, _, ys, h, h' => by
    simp only [RpL] at h
    subst h
    exact h'
  | d :: ds, es, _, ys, h, h' => by
    simp only [RpL] at h
    obtain ⟨x, r, e1, e2, e3⟩ := h
    subst e1
    exact RpL.cons e2 (RpL.append e3 h')
theorem RpL.snoc {ds : List D} {d : D} {xs : List V} {x : V} (h : RpL K G ds xs) (h' : Rp K G d x) : RpL K G (ds ++ [d]) (xs ++ [x]) := h.append (RpL.cons h' RpL.nil)
theorem RpL.drop : ∀ {ds : List D} {xs : List V} (n : Nat), RpL K G ds xs → RpL K G (ds.drop n) (xs.drop n)
  | ds, xs, 0, h => h
  | [], _, n + 1, h => by
    simp only [RpL] at h
    subst h
    exact RpL.nil
  | d :: ds, _, n + 1, h => by
    simp only [RpL] at h
    obtain ⟨x, r, e1, e2, e3⟩ := h
    subst e1
    exact RpL.drop n e3
theorem RpL.take : ∀ {ds : List D} {xs : List V} (n : Nat), RpL K G ds xs → RpL K G (ds.take n) (xs.take n)
  | ds, xs, 0, h => by
    simp only [List.take_zero]
    exact RpL.nil
  | [], _, n + 1, h => by
    simp only [RpL] at h
    subst h
    exact RpL.nil
  | d :: ds, _, n + 1, h => by
    simp only [RpL] at h
    obtain ⟨x, r, e1, e2, e3⟩ := h
    subst e1
    exact RpL.cons e2 (RpL.take n e3)
theorem RpL.set {d : D} {x : V} (r : Rp K G d x) : ∀ {ds : List D} {xs : List V} (n : Nat), RpL K G ds xs → RpL K G (ds.set n d) (xs.set n x)
  | [], _, n, h => by
    simp only [RpL] at h
    subst h
    exact RpL.nil
  | d' :: ds, _, 0, h => by
    simp only [RpL] at h
    obtain ⟨x', r', e1, e2, e3⟩ := h
    subst e1
    exact RpL.cons r e3
  | d' :: ds, _, n + 1, h => by
    simp only [RpL] at h
    obtain ⟨x', r', e1, e2, e3⟩ := h
    subst e1
    exact RpL.cons e2 (RpL.set r n e3)
theorem RpL.reverse : ∀ {ds : List D} {xs : List V}, RpL K G ds xs → RpL K G ds.reverse xs.reverse
  | [], _, h => by
    simp only [RpL] at h
    subst h
    exact RpL.nil
  | d :: ds, _, h => by
    simp only [RpL] at h
    obtain ⟨x, r, e1, e2, e3⟩ := h
    subst e1
    simp only [List.reverse_cons]
    exact RpL.append (RpL.reverse e3) (RpL.cons e2 RpL.nil)
theorem RpL.at {ds : List D} {xs : List V} (h : RpL K G ds xs) {i : Nat} {d : D} (e : ds[i]? = some d) : ∃ x, xs[i]? = some x ∧ Rp K G d x := by
  obtain ⟨hi, e1⟩ := List.getElem?_eq_some_iff.mp e
  have hl := h.len
  have hx : xs[i]? = some (xs[i]'(by omega)) := List.getElem?_eq_getElem (by omega)
  exact ⟨_, hx, h.get e hx⟩
theorem RpL.ints : ∀ {ns : List Int} {xs : List V}, RpL K G (ns.map D.int) xs → xs = ns.map V.int
  | [], _, h => by
    simp only [List.map_nil, RpL] at h
    exact h
  | n :: ns, _, h => by
    simp only [List.map_cons, RpL, Rp] at h
    obtain ⟨x, r, e1, e2, e3⟩ := h
    subst e1 e2
    rw [RpL.ints e3]
    rfl
theorem RpL.of_ints : ∀ (ns : List Int), RpL K G (ns.map D.int) (ns.map V.int)
  | [] => RpL.nil
  | n :: ns => RpL.cons (by simp only [Rp]) (RpL.of_ints ns)
theorem RpL.bls : ∀ {ns : List Bool} {xs : List V}, RpL K G (ns.map D.bl) xs → xs = ns.map V.bl
  | [], _, h => by
    simp only [List.map_nil, RpL] at h
    exact h
  | n :: ns, _, h => by
    simp only [List.map_cons, RpL, Rp] at h
    obtain ⟨x, r, e1, e2, e3⟩ := h
    subst e1 e2
    rw [RpL.bls e3]
    rfl
end

/-! ### the whole heap H, its settled part G -/
def Hid : HO → Bool
  | .lst _ => true
  | .dK _ => true
  | .dT _ => true
  | .set _ _ => true
  | .frz _ u => Hid u
  | .ext _ => true
  | _ => false
structure Wf (H G : Hp) : Prop where
  sub : Same G H
  tin : ∀ b o, H b = some o → Hid o = false → G b = some o
structure Ext (H G H' G' : Hp) : Prop where
  hh : Same H H'
  gg : Same G G'
  wf : Wf H' G'
  new : ∀ b o, G' b = some o → G b = some o ∨ H b = none
theorem Ext.refl {H G : Hp} (w : Wf H G) : Ext H G H G := ⟨Same.refl H, Same.refl G, w, fun _ _ e => .inl e⟩
theorem Ext.trans {H G H1 G1 H2 G2 : Hp} (a : Ext H G H1 G1) (b : Ext H1 G1 H2 G2) : Ext H G H2 G2 := by
  refine ⟨a.hh.trans b.hh, a.gg.trans b.gg, b.wf, fun c o e => ?_⟩
  rcases b.new c o e with h | h
  · exact a.new c o h
  · exact .inr (a.hh.free h)
theorem wf_none {H G : Hp} (w : Wf H G) {p : Addr} (h : H p = none) : G p = none := w.sub.free h
theorem same_updN {H : Hp} {p : Addr} {o : HO} (h : H p = none) : Same H (upd H p o) := fun b x e => by
  rw [upd_ne (ne_of_none e h)]
  exact e
/-- a new settled object -/
theorem Ext.alloc {H G : Hp} (w : Wf H G) {p : Addr} {o : HO} (h : H p = none) : Ext H G (upd H p o) (upd G p o) := by
  refine ⟨same_updN h, same_updN (wf_none w h), ⟨fun b x e => ?_, fun b x e hh => ?_⟩, fun b x e => ?_⟩
  · by_cases hb : b = p
    · subst hb
      rw [upd_same] at e ⊢
      exact e
    · rw [upd_ne hb] at e ⊢
      exact w.sub b x e
  · by_cases hb : b = p
    · subst hb
      rw [upd_same] at e ⊢
      exact e
    · rw [upd_ne hb] at e ⊢
      exact w.tin b x e hh
  · by_cases hb : b = p
    · subst hb
      exact .inr h
    · rw [upd_ne hb] at e
      exact .inl e

/-- a new object that may still change -/
theorem Ext.fresh {H G : Hp} (w : Wf H G) {p : Addr} {o : HO} (h : H p = none) (ho : Hid o = true) : Ext H G (upd H p o) G := by
  refine ⟨same_updN h, Same.refl G, ⟨fun b x e => ?_, fun b x e hh => ?_⟩, fun b x e => .inl e⟩
  · have hb : b ≠ p := ne_of_none e (wf_none w h)
    rw [upd_ne hb]
    exact w.sub b x e
  · by_cases hb : b = p
    · subst hb
      rw [upd_same] at e
      cases e
      rw [ho] at hh
      cases hh
    · rw [upd_ne hb] at e
      exact w.tin b x e hh
/-- a value that is looked at: a list may be one that still changes -/
def RpB (K : PySem.W.Frag) (H G : Hp) : D → V → Prop
  | .lst ds, v => ∃ a xs, v = .ref a ∧ H a = some (.lst xs) ∧ RpL K G ds xs
  | .dic t ds, v => ∃ a, v = .ref a ∧ ((t = false ∧ ∃ ks, Rd H a (.dK ks) ∧ RpK K G ds ks) ∨ (t = true ∧ ∃ ks, Rd H a (.dT ks) ∧ RpT K G ds ks))
  | d, v => Rp K G d v
theorem rd_mono {H H' : Hp} (e : Same H H') {a : Addr} {u : HO} (h : Rd H a u) : Rd H' a u := by
  rcases h with h | ⟨o, h⟩
  · exact .inl (e _ _ h)
  · exact .inr ⟨o, e _ _ h⟩
def notDic : D → Bool
  | .dic _ _ => false
  | _ => true
theorem RpB.of {K : PySem.W.Frag} {H G : Hp} (w : Wf H G) {d : D} {v : V} (h : Rp K G d v) : RpB K H G d v := by
  cases d with
  | lst ds =>
    simp only [Rp] at h
    obtain ⟨a, xs, e1, e2, e3⟩ := h
    exact ⟨a, xs, e1, w.sub _ _ e2, e3⟩
  | dic t ds =>
    simp only [Rp] at h
    obtain ⟨a, e1, h⟩ := h
    refine ⟨a, e1, ?_⟩
    rcases h with ⟨ht, o, ks, e2, e3⟩ | ⟨ht, o, ks, e2, e3⟩
    · exact .inl ⟨ht, ks, .inr ⟨o, w.sub _ _ e2⟩, e3⟩
    · exact .inr ⟨ht, ks, .inr ⟨o, w.sub _ _ e2⟩, e3⟩
  | _ => exact h
theorem RpB.ext {K : PySem.W.Frag} {H G H' G' : Hp} (x : Ext H G H' G') {d : D} {v : V} (h : RpB K H G d v) : RpB K H' G' d v := by
  cases d with
  | lst ds =>
    obtain ⟨a, xs, e1, e2, e3⟩ := h
    exact ⟨a, xs, e1, x.hh _ _ e2, RpL.mono x.gg _ _ e3⟩
  | dic t ds =>
    obtain ⟨a, e1, h⟩ := h
    refine ⟨a, e1, ?_⟩
    rcases h with ⟨ht, ks, e2, e3⟩ | ⟨ht, ks, e2, e3⟩
    · exact .inl ⟨ht, ks, rd_mono x.hh e2, RpK.mono x.gg _ _ e3⟩
    · exact .inr ⟨ht, ks, rd_mono x.hh e2, RpT.mono x.gg _ _ e3⟩
  | non => exact Rp.mono (K := K) x.gg .non v h
  | bl b => exact Rp.mono (K := K) x.gg (.bl b) v h
  | int b => exact Rp.mono (K := K) x.gg (.int b) v h
  | str b => exact Rp.mono (K := K) x.gg (.str b) v h
  | tup b => exact Rp.mono (K := K) x.gg (.tup b) v h
  | scr b => exact Rp.mono (K := K) x.gg (.scr b) v h
/-- looked at as a whole, over the whole heap -/
theorem RpB.all {K : PySem.W.Frag} {H G : Hp} (w : Wf H G) {d : D} {v : V} (hd : notDic d = true) (h : RpB K H G d v) : Rp K H d v := by
  cases d with
  | lst ds =>
    obtain ⟨a, xs, e1, e2, e3⟩ := h
    simp only [Rp]
    exact ⟨a, xs, e1, e2, RpL.mono w.sub _ _ e3⟩
  | dic t ds => cases hd
  | non => exact Rp.mono (K := K) w.sub .non v h
  | bl b => exact Rp.mono (K := K) w.sub (.bl b) v h
  | int b => exact Rp.mono (K := K) w.sub (.int b) v h
  | str b => exact Rp.mono (K := K) w.sub (.str b) v h
  | tup b => exact Rp.mono (K := K) w.sub (.tup b) v h
  | scr b => exact Rp.mono (K := K) w.sub (.scr b) v h
def RpBL (K : PySem.W.Frag) (H G : Hp) : List D → List V → Prop
  | [], xs => xs = []
  | d :: ds, xs => ∃ x r, xs = x :: r ∧ RpB K H G d x ∧ RpBL K H G ds r
theorem RpBL.ext {K : PySem.W.Frag} {H G H' G' : Hp} (x : Ext H G H' G') : ∀ {ds : List D} {vs : List V}, RpBL K H G ds vs → RpBL K H' G' ds vs
  | [], _, h => h
  | d :: ds, _, h => by
    obtain ⟨y, r, e1, e2, e3⟩ := h
    exact ⟨y, r, e1, e2.ext x, RpBL.ext x e3⟩
theorem RpBL.of {K : PySem.W.Frag} {H G : Hp} (w : Wf H G) : ∀ {ds : List D} {vs : List V}, RpL K G ds vs → RpBL K H G ds vs
  | [], _, h => by
    simp only [RpL] at h
    exact h
  | d :: ds, _, h => by
    simp only [RpL] at h
    obtain ⟨y, r, e1, e2, e3⟩ := h
    exact ⟨y, r, e1, RpB.of w e2, RpBL.of w e3⟩

theorem rd_own {K : PySem.W.Frag} {H G : Hp} {a : Addr} {t : Bool} {ds : List (D × D)} (h : (t = false ∧ ∃ ks, H a = some (.dK ks) ∧ RpK K G ds ks) ∨ (t = true ∧ ∃ ks, H a = some (.dT ks) ∧ RpT K G ds ks)) : (t = false ∧ ∃ ks, Rd H a (.dK ks) ∧ RpK K G ds ks) ∨ (t = true ∧ ∃ ks, Rd H a (.dT ks) ∧ RpT K G ds ks) := by
  rcases h with ⟨ht, ks, h1, h2⟩ | ⟨ht, ks, h1, h2⟩
  · exact .inl ⟨ht, ks, .inl h1, h2⟩
  · exact .inr ⟨ht, ks, .inl h1, h2⟩
/-! ### slots -/
inductive Sl where
  | un | val (d : D) | own (ds : List D) | ownD (t : Bool) (kvs : List (D × D))
abbrev Env' := List Sl
def Sl.isOwn : Sl → Bool
  | .own _ => true
  | .ownD _ _ => true
  | _ => false
def SlOk (K : PySem.W.Frag) (H0 H G : Hp) : Sl → Option V → Prop
  | .un, _ => True
  | .val d, x => ∃ v, x = some v ∧ Rp K G d v
  | .own ds, x => ∃ a xs, x = some (.ref a) ∧ H a = some (.lst xs) ∧ G a = none ∧ H0 a = none ∧ RpL K G ds xs
  | .ownD t ds, x => ∃ a, x = some (.ref a) ∧ G a = none ∧ H0 a = none ∧ ((t = false ∧ ∃ ks, H a = some (.dK ks) ∧ RpK K G ds ks) ∨ (t = true ∧ ∃ ks, H a = some (.dT ks) ∧ RpT K G ds ks))
structure Ste (K : PySem.W.Frag) (H0 G0 H G : Hp) (σ : L2.St) (env : List Sl) : Prop where
  x0 : Ext H0 G0 H G
  len : σ.length = env.length
  sl : ∀ (i : Nat) (s : Sl) (x : Option V), env[i]? = some s → σ[i]? = some x → SlOk K H0 H G s x
  dis : ∀ (i j : Nat) (s t : Sl) (a : Addr), env[i]? = some s → env[j]? = some t → s.isOwn = true → t.isOwn = true → σ[i]? = some (some (.ref a)) → σ[j]? = some (some (.ref a)) → i = j
theorem Ste.wf {K : PySem.W.Frag} {H0 G0 H G : Hp} {σ : L2.St} {env : List Sl} (S : Ste K H0 G0 H G σ env) : Wf H G := S.x0.wf
theorem ext_none {H G H' G' : Hp} (x : Ext H G H' G') {a : Addr} {o : HO} (h : H a = some o) (g : G a = none) : G' a = none := by
  cases e : G' a with
  | none => rfl
  | some u =>
    rcases x.new a u e with h1 | h1
    · rw [g] at h1
      cases h1
    · rw [h] at h1
      cases h1
theorem SlOk.ext {K : PySem.W.Frag} {H0 H G H' G' : Hp} (x : Ext H G H' G') {s : Sl} {v : Option V} (h : SlOk K H0 H G s v) : SlOk K H0 H' G' s v := by
  cases s with
  | un => trivial
  | val d =>
    obtain ⟨y, e1, e2⟩ := h
    exact ⟨y, e1, Rp.mono x.gg _ _ e2⟩
  | own ds =>
    obtain ⟨a, xs, e1, e2, e3, e4, e5⟩ := h
    exact ⟨a, xs, e1, x.hh _ _ e2, ext_none x e2 e3, e4, RpL.mono x.gg _ _ e5⟩
  | ownD t ds =>
    obtain ⟨a, e1, e3, e4, h⟩ := h
    rcases h with ⟨ht, ks, e2, e5⟩ | ⟨ht, ks, e2, e5⟩
    · exact ⟨a, e1, ext_none x e2 e3, e4, .inl ⟨ht, ks, x.hh _ _ e2, RpK.mono x.gg _ _ e5⟩⟩
    · exact ⟨a, e1, ext_none x e2 e3, e4, .inr ⟨ht, ks, x.hh _ _ e2, RpT.mono x.gg _ _ e5⟩⟩
theorem Ste.ext {K : PySem.W.Frag} {H0 G0 H G H' G' : Hp} {σ : L2.St} {env : List Sl} (S : Ste K H0 G0 H G σ env) (x : Ext H G H' G') : Ste K H0 G0 H' G' σ env :=
  ⟨S.x0.trans x, S.len, fun i s v e1 e2 => (S.sl i s v e1 e2).ext x, S.dis⟩
theorem Ste.at {K : PySem.W.Frag} {H0 G0 H G : Hp} {σ : L2.St} {env : List Sl} (S : Ste K H0 G0 H G σ env) {i : Nat} {s : Sl} (e : env[i]? = some s) : ∃ x, σ[i]? = some x ∧ SlOk K H0 H G s x := by
  obtain ⟨hi, e1⟩ := List.getElem?_eq_some_iff.mp e
  have hl := S.len
  have hx : σ[i]? = some (σ[i]'(by omega)) := List.getElem?_eq_getElem (by omega)
  exact ⟨_, hx, S.sl i s _ e hx⟩
/-- a slot is given a settled value (or forgotten) -/
theorem Ste.setV {K : PySem.W.Frag} {H0 G0 H G : Hp} {σ : L2.St} {env : List Sl} (S : Ste K H0 G0 H G σ env) (i : Nat) {s : Sl} {x : Option V} (ns : s.isOwn = false) (h : SlOk K H0 H G s x) : Ste K H0 G0 H G (σ.set i x) (env.set i s) := by
  refine ⟨S.x0, by simpa using S.len, fun j t y e1 e2 => ?_, fun j k s1 s2 a e1 e2 o1 o2 v1 v2 => ?_⟩
  · by_cases hj : i = j
    · subst hj
      obtain ⟨hi, e1'⟩ := List.getElem?_eq_some_iff.mp e1
      obtain ⟨hi2, e2'⟩ := List.getElem?_eq_some_iff.mp e2
      rw [List.getElem_set_self] at e1' e2'
      subst e1' e2'
      exact h
    · rw [List.getElem?_set_ne hj] at e1 e2
      exact S.sl j t y e1 e2
  · by_cases hj : i = j
    · subst hj
      obtain ⟨hi, e1'⟩ := List.getElem?_eq_some_iff.mp e1
      rw [List.getElem_set_self] at e1'
      subst e1'
      rw [ns] at o1
      cases o1
    · by_cases hk : i = k
      · subst hk
        obtain ⟨hi, e2'⟩ := List.getElem?_eq_some_iff.mp e2
        rw [List.getElem_set_self] at e2'
        subst e2'
        rw [ns] at o2
        cases o2
      · rw [List.getElem?_set_ne hj] at e1 v1
        rw [List.getElem?_set_ne hk] at e2 v2
        exact S.dis j k s1 s2 a e1 e2 o1 o2 v1 v2
/-- a slot is given a new object that is its own -/
theorem Ste.setO {K : PySem.W.Frag} {H0 G0 H G : Hp} {σ : L2.St} {env : List Sl} (S : Ste K H0 G0 H G σ env) (i : Nat) {s : Sl} {a : Addr} (h : SlOk K H0 H G s (some (.ref a)))
    (fr : ∀ (j : Nat) (t : Sl), j ≠ i → env[j]? = some t → t.isOwn = true → σ[j]? ≠ some (some (.ref a))) : Ste K H0 G0 H G (σ.set i (some (.ref a))) (env.set i s) := by
  refine ⟨S.x0, by simpa using S.len, fun j t y e1 e2 => ?_, fun j k s1 s2 b e1 e2 o1 o2 v1 v2 => ?_⟩
  · by_cases hj : i = j
    · subst hj
      obtain ⟨hi, e1'⟩ := List.getElem?_eq_some_iff.mp e1
      obtain ⟨hi2, e2'⟩ := List.getElem?_eq_some_iff.mp e2
      rw [List.getElem_set_self] at e1' e2'
      subst e1' e2'
      exact h
    · rw [List.getElem?_set_ne hj] at e1 e2
      exact S.sl j t y e1 e2
  · by_cases hj : i = j
    · by_cases hk : i = k
      · rw [← hj, ← hk]
      · subst hj
        obtain ⟨hi2, e2'⟩ := List.getElem?_eq_some_iff.mp v1
        rw [List.getElem_set_self] at e2'
        cases e2'
        rw [List.getElem?_set_ne hk] at e2 v2
        exact absurd v2 (fr k s2 (fun q => hk q.symm) e2 o2)
    · by_cases hk : i = k
      · subst hk
        obtain ⟨hi2, e2'⟩ := List.getElem?_eq_some_iff.mp v2
        rw [List.getElem_set_self] at e2'
        cases e2'
        rw [List.getElem?_set_ne hj] at e1 v1
        exact absurd v1 (fr j s1 (fun q => hj q.symm) e1 o1)
      · rw [List.getElem?_set_ne hj] at e1 v1
        rw [List.getElem?_set_ne hk] at e2 v2
        exact S.dis j k s1 s2 b e1 e2 o1 o2 v1 v2
end PD

set_option Elab.async false
set_option linter.all false
set_option maxRecDepth 100000
namespace PD
open PySem PySem.Spec PyProof.Rows L2

/-! ### what an expression gives -/
abbrev Fe := List Sl → Option D
abbrev Fb := List Sl → Option Bool
abbrev Fl := List Sl → Option (List D)
def tD (K : PySem.W.Frag) (f : Fe) : TE := fun σ H Q => ∃ H0 G0 G env d, Ste K H0 G0 H G σ env ∧ f env = some d ∧ ∀ v H' G', Ext H G H' G' → Rp K G' d v → Q v H'
def tB (K : PySem.W.Frag) (f : Fe) : TE := fun σ H Q => ∃ H0 G0 G env d, Ste K H0 G0 H G σ env ∧ f env = some d ∧ ∀ v H' G', Ext H G H' G' → RpB K H' G' d v → Q v H'
def tT (K : PySem.W.Frag) (f : Fb) : TT := fun σ H Q => ∃ H0 G0 G env b, Ste K H0 G0 H G σ env ∧ f env = some b ∧ ∀ H' G', Ext H G H' G' → Q b H'
def tA (K : PySem.W.Frag) (f : Fl) : TA := fun σ H Q => ∃ H0 G0 G env ds, Ste K H0 G0 H G σ env ∧ f env = some ds ∧ ∀ vs H' G', Ext H G H' G' → RpL K G' ds vs → Q vs H'
def tAB (K : PySem.W.Frag) (f : Fl) : TA := fun σ H Q => ∃ H0 G0 G env ds, Ste K H0 G0 H G σ env ∧ f env = some ds ∧ ∀ vs H' G', Ext H G H' G' → RpBL K H' G' ds vs → Q vs H'
abbrev EX (X : Cx) (e : Expr) (f : Fe) : Prop := PE X e (tD X.K f)
abbrev BX (X : Cx) (e : Expr) (f : Fe) : Prop := PE X e (tB X.K f)
abbrev TX (X : Cx) (e : Expr) (f : Fb) : Prop := PT X e (tT X.K f)
abbrev AX (X : Cx) (es : List Expr) (f : Fl) : Prop := PA X es (tA X.K f)
abbrev ABX (X : Cx) (es : List Expr) (f : Fl) : Prop := PA X es (tAB X.K f)
theorem pe_imp {X : Cx} {e : Expr} {t t' : TE} (h : PE X e t) (i : ∀ σ H Q, t' σ H Q → t σ H Q) : PE X e t' := ⟨fun pins s σ H Q I q => h.run pins s σ H Q I (i σ H Q q)⟩
theorem pt_imp {X : Cx} {e : Expr} {t t' : TT} (h : PT X e t) (i : ∀ σ H Q, t' σ H Q → t σ H Q) : PT X e t' := ⟨fun pins s σ H Q I q => h.run pins s σ H Q I (i σ H Q q)⟩
theorem pa_imp {X : Cx} {es : List Expr} {t t' : TA} (h : PA X es t) (i : ∀ σ H Q, t' σ H Q → t σ H Q) : PA X es t' := ⟨fun pos pins s σ H Q I q => h.run pos pins s σ H Q I (i σ H Q q)⟩
theorem _root_.L2.OpR.imp {X : Cx} {f : Value → Value → Sem Value} {r r' : R2} (h : OpR X f r) (i : ∀ x y H Q, r' x y H Q → r x y H Q) : OpR X f r' := fun pins s σ H x y v u Q I rx ry q => h pins s σ H x y v u Q I rx ry (i x y H Q q)
theorem _root_.L2.CallR.imp {X : Cx} {f : Value} {r r' : List V → Hp → VK → Prop} (h : CallR X f r) (i : ∀ xs H Q, r' xs H Q → r xs H Q) : CallR X f r' := fun pins s σ H xs us Q I rx q => h pins s σ H xs us Q I rx (i xs H Q q)

section
variable {X : Cx} {e a b : Expr} {fa fb : Fe} {pos : Pos}
theorem bx (h : EX X e fa) : BX X e fa := by
  refine pe_imp h fun σ H Q q => ?_
  obtain ⟨H0, G0, G, env, d, S, e1, q⟩ := q
  exact ⟨H0, G0, G, env, d, S, e1, fun v H' G' x r => q v H' G' x (RpB.of x.wf r)⟩
def eVar (i : Nat) : Fe := fun env => match env[i]? with
  | some (.val d) => some d
  | _ => none
def bVar (i : Nat) : Fe := fun env => match env[i]? with
  | some (.val d) => some d
  | some (.own ds) => some (.lst ds)
  | some (.ownD t ds) => some (.dic t ds)
  | _ => none
def eC (d : D) : Fe := fun _ => some d
theorem ex_var {i : Nat} {x : Str} (hN : X.N[i]? = some x) (hv : Vis X.env.scope x) (hd : (x == ("__debug__" : Str)) = false := by decide) (hcd : (x == ("__classdict__" : Str)) = false := by decide) : EX X (.Name x pos) (eVar i) := by
  refine pe_imp (pe_var hN hv hd hcd) fun σ H Q q => ?_
  obtain ⟨H0, G0, G, env, d, S, e1, q⟩ := q
  unfold eVar at e1
  cases hs : env[i]? with
  | none => rw [hs] at e1; cases e1
  | some s =>
    rw [hs] at e1
    cases s with
    | val d' =>
      simp only [Option.some.injEq] at e1
      subst e1
      obtain ⟨y, h1, v, h2, h3⟩ := S.at hs
      subst h2
      exact ⟨v, h1, q v H G (Ext.refl S.wf) h3⟩
    | _ => cases e1
theorem bx_var {i : Nat} {x : Str} (hN : X.N[i]? = some x) (hv : Vis X.env.scope x) (hd : (x == ("__debug__" : Str)) = false := by decide) (hcd : (x == ("__classdict__" : Str)) = false := by decide) : BX X (.Name x pos) (bVar i) := by
  refine pe_imp (pe_var hN hv hd hcd) fun σ H Q q => ?_
  obtain ⟨H0, G0, G, env, d, S, e1, q⟩ := q
  unfold bVar at e1
  cases hs : env[i]? with
  | none => rw [hs] at e1; cases e1
  | some s =>
    rw [hs] at e1
    obtain ⟨y, h1, h4⟩ := S.at hs
    cases s with
    | val d' =>
      simp only [Option.some.injEq] at e1
      subst e1
      obtain ⟨v, h2, h3⟩ := h4
      subst h2
      exact ⟨v, h1, q v H G (Ext.refl S.wf) (RpB.of S.wf h3)⟩
    | own ds =>
      simp only [Option.some.injEq] at e1
      subst e1
      obtain ⟨a, xs, h2, h3, h5, h6, h7⟩ := h4
      subst h2
      exact ⟨_, h1, q _ H G (Ext.refl S.wf) ⟨a, xs, rfl, h3, h7⟩⟩
    | ownD t ds =>
      simp only [Option.some.injEq] at e1
      subst e1
      obtain ⟨a, h2, h5, h6, h7⟩ := h4
      subst h2
      refine ⟨_, h1, q _ H G (Ext.refl S.wf) ⟨a, rfl, ?_⟩⟩
      rcases h7 with ⟨ht, ks, h8, h9⟩ | ⟨ht, ks, h8, h9⟩
      · exact .inl ⟨ht, ks, .inl h8, h9⟩
      · exact .inr ⟨ht, ks, .inl h8, h9⟩
    | un => cases e1
theorem ex_c {d : D} {v : V} (h : PE X e (tC v)) (r : ∀ K G, Rp K G d v) : EX X e (eC d) := by
  refine pe_imp h fun σ H Q q => ?_
  obtain ⟨H0, G0, G, env, d', S, e1, q⟩ := q
  cases e1
  exact q v H G (Ext.refl S.wf) (r _ _)
theorem ex_int {i j} : EX X (.Constant (.int i) j pos) (eC (.int i)) := ex_c pe_int fun _ _ => by simp only [Rp]
theorem ex_bl {i j} : EX X (.Constant (.bool i) j pos) (eC (.bl i)) := ex_c pe_bl fun _ _ => by simp only [Rp]
theorem ex_non {j} : EX X (.Constant .none j pos) (eC .non) := ex_c pe_non fun _ _ => by simp only [Rp]
theorem ex_str {x j} : EX X (.Constant (.str x) j pos) (eC (.str x)) := ex_c pe_str fun _ _ => by simp only [Rp]
/-- a constant of the module -/
theorem ex_globI {x : Str} {i : Int} {u : Value} (hg : Gl X x) (hm : X.mg x = some u) (r : RelV (.int i) u) (hd : (x == ("__debug__" : Str)) = false := by decide) : EX X (.Name x pos) (eC (.int i)) := ex_c (pe_glob hg hm r hd) fun _ _ => by simp only [Rp]

/-! ### two-place operations -/
def rD (K : PySem.W.Frag) (g : D → D → Option D) : R2 := fun x y H Q => ∃ G dx dy d, Wf H G ∧ RpB K H G dx x ∧ RpB K H G dy y ∧ g dx dy = some d ∧ ∀ v H' G', Ext H G H' G' → Rp K G' d v → Q v H'
def eOp (g : D → D → Option D) (fa fb : Fe) : Fe := fun env => (fa env).bind fun x => (fb env).bind fun y => g x y
theorem tOp_imp {g : D → D → Option D} {σ : L2.St} {H : Hp} {Q : VK} (q : tD X.K (eOp g fa fb) σ H Q) : tOp (rD X.K g) (tB X.K fa) (tB X.K fb) σ H Q := by
  obtain ⟨H0, G0, G, env, d, S, e1, q⟩ := q
  obtain ⟨dx, h1, e1⟩ := Option.bind_eq_some_iff.mp e1
  obtain ⟨dy, h2, e1⟩ := Option.bind_eq_some_iff.mp e1
  exact ⟨H0, G0, G, env, dx, S, h1, fun v H1 G1 x1 r1 => ⟨H0, G0, G1, env, dy, S.ext x1, h2, fun w H2 G2 x2 r2 =>
    ⟨G2, dx, dy, d, x2.wf, r1.ext x2, r2, e1, fun u H3 G3 x3 r3 => q u H3 G3 (x1.trans (x2.trans x3)) r3⟩⟩⟩
theorem ex_op {op : Operator} {g : D → D → Option D} (ho : OpR X (binaryOp op) (rD X.K g)) (ha : BX X a fa) (hb : BX X b fb) : EX X (.BinOp a op b pos) (eOp g fa fb) :=
  pe_imp (pe_op ho ha hb) fun _ _ _ q => tOp_imp q
theorem ex_cmp {op : CmpOp} {g : D → D → Option D} (ho : OpR X (compareOp op) (rD X.K g)) (ha : BX X a fa) (hb : BX X b fb) (hm : behindInMarks op b = false) : EX X (.Compare a [op] [b] pos) (eOp g fa fb) :=
  pe_imp (pe_cmpR ho ha hb hm) fun _ _ _ q => tOp_imp q
/-- a truth value as a test -/
def asB (f : Fe) : Fb := fun env => match f env with
  | some (.bl b) => some b
  | _ => none
theorem asB_imp {f : Fe} {σ : L2.St} {H : Hp} {Q : Bool → Hp → Prop} (q : tT X.K (asB f) σ H Q) : tD X.K f σ H fun x H' => ∃ k, x = .bl k ∧ Q k H' := by
  obtain ⟨H0, G0, G, env, k, S, e1, q⟩ := q
  unfold asB at e1
  cases hf : f env with
  | none => rw [hf] at e1; cases e1
  | some d =>
    rw [hf] at e1
    cases d with
    | bl b' =>
      simp only [Option.some.injEq] at e1
      subst e1
      refine ⟨H0, G0, G, env, _, S, hf, fun v H' G' x r => ?_⟩
      simp only [Rp] at r
      exact ⟨_, r, q H' G' x⟩
    | _ => cases e1
theorem tx_cmp {op : CmpOp} {g : D → D → Option D} (ho : OpR X (compareOp op) (rD X.K g)) (ha : BX X a fa) (hb : BX X b fb) (hm : behindInMarks op b = false) : TX X (.Compare a [op] [b] pos) (asB (eOp g fa fb)) :=
  pt_imp (pt_cmpR ho ha hb hm) fun _ _ _ q => by
    have q := asB_imp q
    exact tOp_imp (Q := fun x H' => ∃ k, x = .bl k ∧ _) q
theorem tx_val {f : Fe} (h : EX X e f) (he : ∀ whole, isTrue e X.env whole = (do let v ← whole; standAt e.pos; holding [v] (truthy v)) := by intro _; rfl) : TX X e (asB f) :=
  pt_imp (pt_val h he) fun _ _ _ q => asB_imp q
/-- truth of any value -/
def truD : D → Option Bool
  | .non => some false
  | .bl b => some b
  | .int i => some (i != 0)
  | .lst xs => some (!xs.isEmpty)
  | .tup xs => some (!xs.isEmpty)
  | .str x => if x.length ≤ 16777216 then some ((x.length : Int) != 0) else none
  | _ => none
def asT (f : Fe) : Fb := fun env => (f env).bind truD
theorem rpl_isEmpty {K : PySem.W.Frag} {G : Hp} {ds : List D} {xs : List V} (h : RpL K G ds xs) : ds.isEmpty = xs.isEmpty := by
  have := h.len
  cases ds <;> cases xs <;> simp_all
theorem tx_tru {f : Fe} (h : BX X e f) (he : ∀ whole, isTrue e X.env whole = (do let v ← whole; standAt e.pos; holding [v] (truthy v)) := by intro _; rfl) : TX X e (asT f) :=
  pt_imp (pt_truth h he) fun σ H Q q => by
    obtain ⟨H0, G0, G, env, k, S, e1, q⟩ := q
    obtain ⟨d, h1, e1⟩ := Option.bind_eq_some_iff.mp e1
    refine ⟨H0, G0, G, env, d, S, h1, fun v H' G' x r => ?_⟩
    have q := q H' G' x
    have sub := x.wf.sub
    cases d with
    | non =>
      have r : v = .non := by simpa only [RpB, Rp] using r
      subst r
      cases e1
      exact ⟨_, rfl, q⟩
    | bl b =>
      have r : v = .bl b := by simpa only [RpB, Rp] using r
      subst r
      cases e1
      exact ⟨_, rfl, q⟩
    | int b =>
      have r : v = .int b := by simpa only [RpB, Rp] using r
      subst r
      cases e1
      exact ⟨_, rfl, q⟩
    | str y =>
      have r : v = .str y := by simpa only [RpB, Rp] using r
      subst r
      simp only [truD] at e1
      split at e1
      · rename_i hy
        cases e1
        exact ⟨_, ⟨by rw [sizeLine_eq]; exact hy, rfl⟩, q⟩
      · cases e1
    | lst ds =>
      obtain ⟨a, xs, rfl, h2, h3⟩ := r
      cases e1
      exact ⟨_, .inl ⟨xs, SqL.of h2, by rw [rpl_isEmpty h3]⟩, q⟩
    | tup ds =>
      obtain ⟨a, xs, rfl, h2, h3⟩ : ∃ a xs, v = .ref a ∧ G' a = some (.tup xs) ∧ RpL X.K G' ds xs := by simpa only [RpB, Rp] using r
      cases e1
      exact ⟨_, .inr (.inl ⟨xs, Same.tup sub h2, by rw [rpl_isEmpty h3]⟩), q⟩
    | dic t ds => cases e1
    | scr ns => cases e1

/-! ### and, or, not, if -/
variable {f g h : Fb} {rest : List Expr}
def tAndF (f g : Fb) : Fb := fun env => (f env).bind fun k => if k then g env else some false
def tOrF (f g : Fb) : Fb := fun env => (f env).bind fun k => if k then some true else g env
def tNotF (f : Fb) : Fb := fun env => (f env).bind fun k => some (!k)
abbrev WX (X : Cx) (e : Expr) (f : Fb) : Prop := PW X e (tT X.K f)
theorem pw_imp {X : Cx} {e : Expr} {t t' : TT} (h : PW X e t) (i : ∀ σ H Q, t' σ H Q → t σ H Q) : PW X e t' := ⟨fun wh pins s σ H Q I q => h.run wh pins s σ H Q I (i σ H Q q)⟩
theorem wx_and1 (ha : TX X a f) : WX X (.BoolOp .And [a] pos) f := pw_and1 ha
theorem wx_or1 (ha : TX X a f) : WX X (.BoolOp .Or [a] pos) f := pw_or1 ha
theorem wx_and (ha : TX X a f) (hb : WX X (.BoolOp .And (b :: rest) pos) g) : WX X (.BoolOp .And (a :: b :: rest) pos) (tAndF f g) :=
  pw_imp (pw_and ha hb) fun σ H Q q => by
    obtain ⟨H0, G0, G, env, k, S, e1, q⟩ := q
    obtain ⟨c, h1, e1⟩ := Option.bind_eq_some_iff.mp e1
    refine ⟨H0, G0, G, env, c, S, h1, fun H1 G1 x1 => ?_⟩
    cases c with
    | true => exact ⟨H0, G0, G1, env, k, S.ext x1, e1, fun H2 G2 x2 => q H2 G2 (x1.trans x2)⟩
    | false =>
      cases e1
      exact q H1 G1 x1
theorem wx_or (ha : TX X a f) (hb : WX X (.BoolOp .Or (b :: rest) pos) g) : WX X (.BoolOp .Or (a :: b :: rest) pos) (tOrF f g) :=
  pw_imp (pw_or ha hb) fun σ H Q q => by
    obtain ⟨H0, G0, G, env, k, S, e1, q⟩ := q
    obtain ⟨c, h1, e1⟩ := Option.bind_eq_some_iff.mp e1
    refine ⟨H0, G0, G, env, c, S, h1, fun H1 G1 x1 => ?_⟩
    cases c with
    | false => exact ⟨H0, G0, G1, env, k, S.ext x1, e1, fun H2 G2 x2 => q H2 G2 (x1.trans x2)⟩
    | true =>
      cases e1
      exact q H1 G1 x1
theorem tx_not (ha : TX X a f) : TX X (.UnaryOp .Not a pos) (tNotF f) :=
  pt_imp (pt_not ha) fun σ H Q q => by
    obtain ⟨H0, G0, G, env, k, S, e1, q⟩ := q
    obtain ⟨c, h1, e1⟩ := Option.bind_eq_some_iff.mp e1
    cases e1
    exact ⟨H0, G0, G, env, c, S, h1, fun H1 G1 x1 => q H1 G1 x1⟩
/-- and, or, not of truth values, as values -/
def eAnd (f g : Fe) : Fe := fun env => match f env with
  | some (.bl true) => g env
  | some (.bl false) => some (.bl false)
  | _ => none
def eOr (f g : Fe) : Fe := fun env => match f env with
  | some (.bl true) => some (.bl true)
  | some (.bl false) => g env
  | _ => none
def eNot (f : Fe) : Fe := fun env => match f env with
  | some (.bl b) => some (.bl !b)
  | _ => none
variable {ff fg : Fe}
theorem ex_one {op} (h : EX X a ff) : EX X (.BoolOp op [a] pos) ff := pe_one h
theorem ex_and (ha : EX X a ff) (hb : EX X (.BoolOp .And (b :: rest) pos) fg) : EX X (.BoolOp .And (a :: b :: rest) pos) (eAnd ff fg) :=
  pe_imp (pe_and ha hb) fun σ H Q q => by
    obtain ⟨H0, G0, G, env, d, S, e1, q⟩ := q
    unfold eAnd at e1
    cases hf : ff env with
    | none => rw [hf] at e1; cases e1
    | some c =>
      rw [hf] at e1
      cases c with
      | bl k =>
        refine ⟨H0, G0, G, env, _, S, hf, fun v H1 G1 x1 r1 => ?_⟩
        simp only [Rp] at r1
        refine ⟨k, r1, ?_⟩
        cases k with
        | true => exact ⟨H0, G0, G1, env, d, S.ext x1, e1, fun w H2 G2 x2 r2 => q w H2 G2 (x1.trans x2) r2⟩
        | false =>
          cases e1
          exact q _ H1 G1 x1 (by simp only [Rp])
      | _ => cases e1
theorem ex_or (ha : EX X a ff) (hb : EX X (.BoolOp .Or (b :: rest) pos) fg) : EX X (.BoolOp .Or (a :: b :: rest) pos) (eOr ff fg) :=
  pe_imp (pe_or ha hb) fun σ H Q q => by
    obtain ⟨H0, G0, G, env, d, S, e1, q⟩ := q
    unfold eOr at e1
    cases hf : ff env with
    | none => rw [hf] at e1; cases e1
    | some c =>
      rw [hf] at e1
      cases c with
      | bl k =>
        refine ⟨H0, G0, G, env, _, S, hf, fun v H1 G1 x1 r1 => ?_⟩
        simp only [Rp] at r1
        refine ⟨k, r1, ?_⟩
        cases k with
        | false => exact ⟨H0, G0, G1, env, d, S.ext x1, e1, fun w H2 G2 x2 r2 => q w H2 G2 (x1.trans x2) r2⟩
        | true =>
          cases e1
          exact q _ H1 G1 x1 (by simp only [Rp])
      | _ => cases e1
theorem ex_not (ha : EX X a ff) : EX X (.UnaryOp .Not a pos) (eNot ff) :=
  pe_imp (pe_not ha) fun σ H Q q => by
    obtain ⟨H0, G0, G, env, d, S, e1, q⟩ := q
    unfold eNot at e1
    cases hf : ff env with
    | none => rw [hf] at e1; cases e1
    | some c =>
      rw [hf] at e1
      cases c with
      | bl k =>
        simp only [Option.some.injEq] at e1
        subst e1
        refine ⟨H0, G0, G, env, _, S, hf, fun v H1 G1 x1 r1 => ?_⟩
        simp only [Rp] at r1
        exact ⟨k, r1, q _ H1 G1 x1 (by simp only [Rp])⟩
      | _ => cases e1
def eIf (c : Fb) (f g : Fe) : Fe := fun env => (c env).bind fun k => if k then f env else g env
theorem ex_if {c : Expr} (hc : TX X c f) (ha : EX X a ff) (hb : EX X b fg) : EX X (.IfExp c a b pos) (eIf f ff fg) :=
  pe_imp (pe_ifExp hc ha hb) fun σ H Q q => by
    obtain ⟨H0, G0, G, env, d, S, e1, q⟩ := q
    obtain ⟨k, h1, e1⟩ := Option.bind_eq_some_iff.mp e1
    refine ⟨H0, G0, G, env, k, S, h1, fun H1 G1 x1 => ?_⟩
    cases k with
    | true => exact ⟨H0, G0, G1, env, d, S.ext x1, e1, fun w H2 G2 x2 r2 => q w H2 G2 (x1.trans x2) r2⟩
    | false => exact ⟨H0, G0, G1, env, d, S.ext x1, e1, fun w H2 G2 x2 r2 => q w H2 G2 (x1.trans x2) r2⟩

/-! ### argument lists, displays -/
def aNil : Fl := fun _ => some []
def aCons (f : Fe) (g : Fl) : Fl := fun env => (f env).bind fun d => (g env).bind fun ds => some (d :: ds)
variable {es : List Expr} {fl : Fl}
theorem ax_nil : AX X [] aNil := pa_imp pa_nil fun σ H Q q => by
  obtain ⟨H0, G0, G, env, ds, S, e1, q⟩ := q
  cases e1
  exact q _ H G (Ext.refl S.wf) RpL.nil
theorem abx_nil : ABX X [] aNil := pa_imp pa_nil fun σ H Q q => by
  obtain ⟨H0, G0, G, env, ds, S, e1, q⟩ := q
  cases e1
  exact q _ H G (Ext.refl S.wf) rfl
theorem ax_cons (ha : EX X e ff) (hr : AX X es fl) (hs : starEach (e :: es) X.env = (false, eval e X.env) :: starEach es X.env := by rfl) : AX X (e :: es) (aCons ff fl) :=
  pa_imp (pa_cons ha hr hs) fun σ H Q q => by
    obtain ⟨H0, G0, G, env, ds, S, e1, q⟩ := q
    obtain ⟨d, h1, e1⟩ := Option.bind_eq_some_iff.mp e1
    obtain ⟨r, h2, e1⟩ := Option.bind_eq_some_iff.mp e1
    cases e1
    exact ⟨H0, G0, G, env, d, S, h1, fun v H1 G1 x1 r1 => ⟨H0, G0, G1, env, r, S.ext x1, h2, fun vs H2 G2 x2 r2 => q _ H2 G2 (x1.trans x2) (RpL.cons (Rp.mono x2.gg _ _ r1) r2)⟩⟩
theorem abx_cons (ha : BX X e ff) (hr : ABX X es fl) (hs : starEach (e :: es) X.env = (false, eval e X.env) :: starEach es X.env := by rfl) : ABX X (e :: es) (aCons ff fl) :=
  pa_imp (pa_cons ha hr hs) fun σ H Q q => by
    obtain ⟨H0, G0, G, env, ds, S, e1, q⟩ := q
    obtain ⟨d, h1, e1⟩ := Option.bind_eq_some_iff.mp e1
    obtain ⟨r, h2, e1⟩ := Option.bind_eq_some_iff.mp e1
    cases e1
    exact ⟨H0, G0, G, env, d, S, h1, fun v H1 G1 x1 r1 => ⟨H0, G0, G1, env, r, S.ext x1, h2, fun vs H2 G2 x2 r2 => q _ H2 G2 (x1.trans x2) ⟨_, _, rfl, r1.ext x2, r2⟩⟩⟩
/-- a size that the machine takes -/
def lim (n : Nat) : Bool := decide (n ≤ 16777216)
theorem lim_le {n : Nat} (h : lim n = true) : n ≤ sizeLine := by
  rw [sizeLine_eq]
  exact of_decide_eq_true h
def mkT (ds : List D) : Option D := if lim ds.length then some (.tup ds) else none
def mkL (ds : List D) : Option D := if lim ds.length then some (.lst ds) else none
def eTup (f : Fl) : Fe := fun env => (f env).bind mkT
def eLst (f : Fl) : Fe := fun env => (f env).bind mkL
theorem mkT_some {ds : List D} {d : D} (h : mkT ds = some d) : ds.length ≤ sizeLine ∧ d = .tup ds := by
  unfold mkT at h
  split at h
  · cases h
    exact ⟨lim_le (by assumption), rfl⟩
  · cases h
theorem mkL_some {ds : List D} {d : D} (h : mkL ds = some d) : ds.length ≤ sizeLine ∧ d = .lst ds := by
  unfold mkL at h
  split at h
  · cases h
    exact ⟨lim_le (by assumption), rfl⟩
  · cases h
/-- a new tuple, a new list -/
theorem new_tup {K : PySem.W.Frag} {H G : Hp} {ds : List D} {xs : List V} {Q : VK} (w : Wf H G) (r : RpL K G ds xs) (q : ∀ v H' G', Ext H G H' G' → Rp K G' (.tup ds) v → Q v H') : ∀ p, H p = none → Q (.ref p) (upd H p (.tup xs)) := fun p hp => by
  have x : Ext H G (upd H p (.tup xs)) (upd G p (.tup xs)) := Ext.alloc w hp
  refine q _ _ _ x ?_
  simp only [Rp]
  exact ⟨p, xs, rfl, upd_same, RpL.mono x.gg _ _ r⟩
theorem new_lst {K : PySem.W.Frag} {H G : Hp} {ds : List D} {xs : List V} {Q : VK} (w : Wf H G) (r : RpL K G ds xs) (q : ∀ v H' G', Ext H G H' G' → Rp K G' (.lst ds) v → Q v H') : ∀ p, H p = none → Q (.ref p) (upd H p (.lst xs)) := fun p hp => by
  have x : Ext H G (upd H p (.lst xs)) (upd G p (.lst xs)) := Ext.alloc w hp
  refine q _ _ _ x ?_
  simp only [Rp]
  exact ⟨p, xs, rfl, upd_same, RpL.mono x.gg _ _ r⟩
theorem ex_tup {x1} (h : AX X es fl) : EX X (.Tuple es x1 pos) (eTup fl) :=
  pe_imp (pe_tup h) fun σ H Q q => by
    obtain ⟨H0, G0, G, env, d, S, e1, q⟩ := q
    obtain ⟨ds, h1, e1⟩ := Option.bind_eq_some_iff.mp e1
    obtain ⟨hz, rfl⟩ := mkT_some e1
    exact ⟨H0, G0, G, env, ds, S, h1, fun vs H1 G1 x1 r1 => ⟨by rw [← r1.len]; exact hz, new_tup x1.wf r1 fun v H2 G2 x2 r2 => q v H2 G2 (x1.trans x2) r2⟩⟩
theorem ex_lst (h : AX X es fl) : EX X (.List es pos) (eLst fl) :=
  pe_imp (pe_lst h) fun σ H Q q => by
    obtain ⟨H0, G0, G, env, d, S, e1, q⟩ := q
    obtain ⟨ds, h1, e1⟩ := Option.bind_eq_some_iff.mp e1
    obtain ⟨hz, rfl⟩ := mkL_some e1
    exact ⟨H0, G0, G, env, ds, S, h1, fun vs H1 G1 x1 r1 => ⟨by rw [← r1.len]; exact hz, new_lst x1.wf r1 fun v H2 G2 x2 r2 => q v H2 G2 (x1.trans x2) r2⟩⟩
end
end PD

set_option Elab.async false
set_option linter.all false
set_option maxRecDepth 100000
namespace PD
open PySem PySem.Spec PyProof.Rows L2

theorem rpb_int {K : PySem.W.Frag} {H G : Hp} {i : Int} {v : V} (r : RpB K H G (.int i) v) : v = .int i := by simpa only [RpB, Rp] using r
theorem rpb_bl {K : PySem.W.Frag} {H G : Hp} {i : Bool} {v : V} (r : RpB K H G (.bl i) v) : v = .bl i := by simpa only [RpB, Rp] using r
theorem rpb_str {K : PySem.W.Frag} {H G : Hp} {i : Str} {v : V} (r : RpB K H G (.str i) v) : v = .str i := by simpa only [RpB, Rp] using r
theorem rpb_non {K : PySem.W.Frag} {H G : Hp} {v : V} (r : RpB K H G .non v) : v = .non := by simpa only [RpB, Rp] using r
theorem rpb_tup {K : PySem.W.Frag} {H G : Hp} {ds : List D} {v : V} (r : RpB K H G (.tup ds) v) : ∃ a xs, v = .ref a ∧ G a = some (.tup xs) ∧ RpL K G ds xs := by simpa only [RpB, Rp] using r
theorem rpb_scr {K : PySem.W.Frag} {H G : Hp} {ns : List Int} {v : V} (r : RpB K H G (.scr ns) v) : ∃ a, v = .ref a ∧ SqL K G a (ns.map V.int) := by simpa only [RpB, Rp] using r
theorem rp_int {K : PySem.W.Frag} {G : Hp} (i : Int) : Rp K G (.int i) (.int i) := by simp only [Rp]
theorem rp_bl {K : PySem.W.Frag} {G : Hp} (i : Bool) : Rp K G (.bl i) (.bl i) := by simp only [Rp]
theorem rp_str {K : PySem.W.Frag} {G : Hp} (i : Str) : Rp K G (.str i) (.str i) := by simp only [Rp]
theorem rp_non {K : PySem.W.Frag} {G : Hp} : Rp K G .non .non := by simp only [Rp]

section
variable {X : Cx}
/-- ints to a value, under a test -/
def gI (c : Int → Int → Bool) (g : Int → Int → D) : D → D → Option D
  | .int i, .int j => if c i j then some (g i j) else none
  | _, _ => none
theorem gI_some {c : Int → Int → Bool} {g : Int → Int → D} {x y d : D} (h : gI c g x y = some d) : ∃ i j, x = .int i ∧ y = .int j ∧ c i j = true ∧ d = g i j := by
  unfold gI at h
  split at h
  · split at h
    · cases h
      exact ⟨_, _, rfl, rfl, by assumption, rfl⟩
    · cases h
  · cases h
theorem op_gI {f : Value → Value → Sem Value} {C : Int → Int → Prop} {c : Int → Int → Bool} {k : Int → Int → V} {g : Int → Int → D} (h : OpR X f (rI C k)) (hc : ∀ i j, c i j = true → C i j) (hk : ∀ K G i j, Rp K G (g i j) (k i j)) : OpR X f (rD X.K (gI c g)) :=
  h.imp fun x y H Q q => by
    obtain ⟨G, dx, dy, d, w, rx, ry, e, q⟩ := q
    obtain ⟨i, j, rfl, rfl, hcc, rfl⟩ := gI_some e
    exact ⟨i, j, rpb_int rx, rpb_int ry, hc i j hcc, q _ H G (Ext.refl w) (hk _ _ _ _)⟩
theorem op_gI0 {f : Value → Value → Sem Value} {k : Int → Int → V} {g : Int → Int → D} (h : OpR X f (rI0 k)) (hk : ∀ K G i j, Rp K G (g i j) (k i j)) : OpR X f (rD X.K (gI (fun _ _ => true) g)) :=
  h.imp fun x y H Q q => by
    obtain ⟨G, dx, dy, d, w, rx, ry, e, q⟩ := q
    obtain ⟨i, j, rfl, rfl, hcc, rfl⟩ := gI_some e
    exact ⟨i, j, rpb_int rx, rpb_int ry, q _ H G (Ext.refl w) (hk _ _ _ _)⟩
/-- two ways for one operation -/
def gOr (g g' : D → D → Option D) : D → D → Option D := fun x y => match g x y with
  | some d => some d
  | none => g' x y
theorem op_or {f : Value → Value → Sem Value} {g g' : D → D → Option D} (h : OpR X f (rD X.K g)) (h' : OpR X f (rD X.K g')) : OpR X f (rD X.K (gOr g g')) :=
  (h.or h').imp fun x y H Q q => by
    obtain ⟨G, dx, dy, d, w, rx, ry, e, q⟩ := q
    unfold gOr at e
    cases hg : g dx dy with
    | some d' =>
      rw [hg] at e
      cases e
      exact .inl ⟨G, dx, dy, d, w, rx, ry, hg, q⟩
    | none =>
      rw [hg] at e
      exact .inr ⟨G, dx, dy, d, w, rx, ry, e, q⟩

/-! ### + -/
def gAdd : D → D → Option D
  | .int i, .int j => some (.int (i + j))
  | .str x, .str y => if lim (x.length + y.length) then some (.str (x ++ y)) else none
  | .lst xs, .lst ys => mkL (xs ++ ys)
  | .tup xs, .tup ys => mkT (xs ++ ys)
  | _, _ => none
theorem oadd : OpR X (binaryOp .Add) (rD X.K gAdd) := by
  refine ((op_add (X := X)).or (op_add_str.or (op_cat.or op_catA))).imp fun x y H Q q => ?_
  obtain ⟨G, dx, dy, d, w, rx, ry, e, q⟩ := q
  cases dx with
  | int i =>
    cases dy with
    | int j =>
      cases e
      exact .inl ⟨i, j, rpb_int rx, rpb_int ry, q _ H G (Ext.refl w) (rp_int _)⟩
    | _ => cases e
  | str i =>
    cases dy with
    | str j =>
      simp only [gAdd] at e
      split at e
      · rename_i hz
        cases e
        exact .inr (.inl ⟨i, j, rpb_str rx, rpb_str ry, lim_le hz, q _ H G (Ext.refl w) (rp_str _)⟩)
      · cases e
    | _ => cases e
  | lst ds =>
    cases dy with
    | lst es =>
      obtain ⟨hz, rfl⟩ := mkL_some (show mkL (ds ++ es) = some d from e)
      obtain ⟨a, xs, rfl, h1, h2⟩ := rx
      obtain ⟨b, ys, rfl, h3, h4⟩ := ry
      refine .inr (.inr (.inl ⟨a, b, xs, ys, rfl, rfl, h1, h3, ?_, new_lst w (h2.append h4) q⟩))
      rw [List.length_append, h2.len, h4.len] at hz
      exact hz
    | _ => cases e
  | tup ds =>
    cases dy with
    | tup es =>
      obtain ⟨hz, rfl⟩ := mkT_some (show mkT (ds ++ es) = some d from e)
      obtain ⟨a, xs, rfl, h1, h2⟩ := rpb_tup rx
      obtain ⟨b, ys, rfl, h3, h4⟩ := rpb_tup ry
      rw [List.length_append, h2.len, h4.len] at hz
      have hl := h2.len
      have hl4 := h4.len
      refine .inr (.inr (.inr ⟨a, b, xs, ys, rfl, rfl, Same.tup w.sub h1, Same.tup w.sub h3, hz, fun e1 => ?_, fun e1 e2 => ?_, fun e1 e2 => new_tup w (h2.append h4) q⟩))
      · subst e1
        have : ds = [] := by simpa using hl
        subst this
        refine q _ H G (Ext.refl w) ?_
        simp only [Rp, List.nil_append]
        exact ⟨b, ys, rfl, h3, h4⟩
      · subst e2
        have : es = [] := by simpa using hl4
        subst this
        refine q _ H G (Ext.refl w) ?_
        simp only [Rp, List.append_nil]
        exact ⟨a, xs, rfl, h1, h2⟩
    | _ => cases e
  | _ => cases e

/-! ### - * // % ** << >> & ^ and the bar -/
def gSub : D → D → Option D := gI (fun _ _ => true) fun i j => .int (i - j)
theorem osub : OpR X (binaryOp .Sub) (rD X.K gSub) := op_gI0 op_sub fun _ _ _ _ => rp_int _
def mulOk (i j : Int) : Bool := (decide (-18446744073709551616 < i) && decide (i < 18446744073709551616)) || (decide (-18446744073709551616 < j) && decide (j < 18446744073709551616))
theorem mulOk_C {i j : Int} (h : mulOk i j = true) : CMul i j := by
  unfold mulOk at h
  simp only [Bool.or_eq_true, Bool.and_eq_true, decide_eq_true_eq] at h
  unfold CMul
  omega
theorem RpL.rep {K : PySem.W.Frag} {G : Hp} {ds : List D} {xs : List V} (h : RpL K G ds xs) : ∀ k : Nat, RpL K G (List.replicate k ds).flatten (List.replicate k xs).flatten
  | 0 => RpL.nil
  | k + 1 => by
    rw [List.replicate_succ, List.replicate_succ, List.flatten_cons, List.flatten_cons]
    exact h.append (RpL.rep h k)
def gMul : D → D → Option D
  | .int i, .int j => if mulOk i j then some (.int (i * j)) else none
  | .lst xs, .int k => if decide (-1000000000 ≤ k) && decide (k ≤ 1000000000) && lim (xs.length * k.toNat) then some (.lst (List.replicate k.toNat xs).flatten) else none
  | .tup xs, .int k => if !xs.isEmpty && decide (2 ≤ k) && decide (k ≤ 1000) && decide (xs.length ≤ 1000) then some (.tup (List.replicate k.toNat xs).flatten) else none
  | _, _ => none
theorem omul : OpR X (binaryOp .Mult) (rD X.K gMul) := by
  refine ((op_mul (X := X)).or (op_rep.or op_repT)).imp fun x y H Q q => ?_
  obtain ⟨G, dx, dy, d, w, rx, ry, e, q⟩ := q
  cases dx with
  | int i =>
    cases dy with
    | int j =>
      simp only [gMul] at e
      split at e
      · rename_i hz
        cases e
        exact .inl ⟨i, j, rpb_int rx, rpb_int ry, mulOk_C hz, q _ H G (Ext.refl w) (rp_int _)⟩
      · cases e
    | _ => cases e
  | lst ds =>
    cases dy with
    | int k =>
      simp only [gMul] at e
      split at e
      · rename_i hz
        cases e
        simp only [Bool.and_eq_true, decide_eq_true_eq] at hz
        obtain ⟨⟨h5, h6⟩, h7⟩ := hz
        obtain ⟨a, xs, rfl, h1, h2⟩ := rx
        refine .inr (.inl ⟨a, k, xs, rfl, rpb_int ry, h1, by omega, by omega, ?_, new_lst w (h2.rep _) q⟩)
        rw [← h2.len]
        exact lim_le h7
      · cases e
    | _ => cases e
  | tup ds =>
    cases dy with
    | int k =>
      simp only [gMul] at e
      split at e
      · rename_i hz
        cases e
        simp only [Bool.and_eq_true, decide_eq_true_eq, Bool.not_eq_true'] at hz
        obtain ⟨⟨⟨h5, h6⟩, h7⟩, h8⟩ := hz
        obtain ⟨a, xs, rfl, h1, h2⟩ := rpb_tup rx
        refine .inr (.inr ⟨a, k, xs, rfl, rpb_int ry, Same.tup w.sub h1, ?_, h6, h7, ?_, new_tup w (h2.rep _) q⟩)
        · intro z
          subst z
          have := h2.len
          simp at this
          subst this
          cases h5
        · rw [← h2.len]
          exact h8
      · cases e
    | _ => cases e
  | _ => cases e
def gDiv : D → D → Option D := gI (fun _ j => decide (0 < j) && decide (j < 1073741824)) fun i j => .int (i / j)
theorem odiv : OpR X (binaryOp .FloorDiv) (rD X.K gDiv) := op_gI op_fdiv (fun i j h => by
  simp only [Bool.and_eq_true, decide_eq_true_eq] at h
  exact h) fun _ _ _ _ => rp_int _
def gMod : D → D → Option D := gI (fun _ j => decide (0 < j)) fun i j => .int (i % j)
theorem omod : OpR X (binaryOp .Mod) (rD X.K gMod) := op_gI op_mod (fun i j h => of_decide_eq_true h) fun _ _ _ _ => rp_int _
def powOk (i j : Int) : Bool := decide (0 ≤ j) && decide (j ≤ 1000000) && decide (i.natAbs < 18446744073709551616)
theorem powOk_C {i j : Int} (h : powOk i j = true) : CPow i j := by
  unfold powOk at h
  simp only [Bool.and_eq_true, decide_eq_true_eq] at h
  exact ⟨h.1.1, h.1.2, by omega⟩
def gPow : D → D → Option D := gI powOk fun i j => .int (i ^ j.toNat)
theorem opow : OpR X (binaryOp .Pow) (rD X.K gPow) := op_gI op_pow (fun i j h => powOk_C h) fun _ _ _ _ => rp_int _
def gShl : D → D → Option D := gI powOk fun i j => .int (i * 2 ^ j.toNat)
theorem oshl : OpR X (binaryOp .LShift) (rD X.K gShl) := op_gI op_shl (fun i j h => powOk_C h) fun _ _ _ _ => rp_int _
def gShr : D → D → Option D := gI (fun _ j => decide (0 ≤ j)) fun i j => .int (i / 2 ^ j.toNat)
theorem oshr : OpR X (binaryOp .RShift) (rD X.K gShr) := op_gI op_shr (fun i j h => of_decide_eq_true h) fun _ _ _ _ => rp_int _
def gAnd : D → D → Option D := gI (fun _ _ => true) fun i j => .int (Builtin.bitAnd i j)
theorem oand : OpR X (binaryOp .BitAnd) (rD X.K gAnd) := op_gI0 op_and fun _ _ _ _ => rp_int _
def gXor : D → D → Option D := gI (fun _ _ => true) fun i j => .int (Builtin.bitXor i j)
theorem oxor : OpR X (binaryOp .BitXor) (rD X.K gXor) := op_gI0 op_xor fun _ _ _ _ => rp_int _
def gBor : D → D → Option D := gI (fun _ _ => true) fun i j => .int (Builtin.bitOr i j)
theorem obor : OpR X (binaryOp .BitOr) (rD X.K gBor) := op_gI0 L2.op_or fun _ _ _ _ => rp_int _

/-! ### == of data -/
mutual
def py : D → PyData
  | .non => .none
  | .bl b => .bool b
  | .int i => .int i
  | .str x => .str x
  | .tup xs => .tuple (pyL xs)
  | .lst xs => .list (pyL xs)
  | .dic _ _ => .none
  | .scr ns => .list (ns.map PyData.int)
def pyL : List D → List PyData
  | [] => []
  | x :: xs => py x :: pyL xs
end
def okN : Nat → D → Bool
  | _, .non => true
  | _, .bl _ => true
  | _, .int _ => true
  | _, .str x => PyData.strOk x
  | n + 1, .tup xs => xs.all (okN n)
  | n + 1, .lst xs => xs.all (okN n)
  | _, _ => false
theorem okN_nd {n : Nat} {d : D} (h : okN n d = true) : notDic d = true := by
  cases d with
  | dic t kvs => cases n <;> simp [okN] at h
  | _ => rfl
theorem okN_lay : ∀ (n : Nat) (d : D), okN n d = true → (py d).canLay0 = true ∧ (py d).depth ≤ n
  | n, .non, _ => by simp [py, PyData.canLay0, PyData.depth]
  | n, .bl _, _ => by simp [py, PyData.canLay0, PyData.depth]
  | n, .int _, _ => by simp [py, PyData.canLay0, PyData.depth]
  | n, .str x, h => by
    have h' : PyData.strOk x = true := by cases n <;> simpa [okN] using h
    simp [py, PyData.canLay0, PyData.depth, h']
  | 0, .tup xs, h => by simp [okN] at h
  | 0, .lst xs, h => by simp [okN] at h
  | 0, .dic t xs, h => by simp [okN] at h
  | 0, .scr xs, h => by simp [okN] at h
  | n + 1, .dic t xs, h => by simp [okN] at h
  | n + 1, .scr xs, h => by simp [okN] at h
  | n + 1, .tup xs, h => by
    have all : ∀ ys : List D, ys.all (okN n) = true → PyData.canLayAll0 (pyL ys) = true ∧ PyData.depthAll (pyL ys) ≤ n := by
      intro ys
      induction ys with
      | nil => intro _; simp [pyL, PyData.canLayAll0, PyData.depthAll]
      | cons y ys ih =>
        intro q
        rw [List.all_cons, Bool.and_eq_true] at q
        have h1 := okN_lay n y q.1
        have h2 := ih q.2
        simp only [pyL, PyData.canLayAll0, PyData.depthAll, Bool.and_eq_true]
        exact ⟨⟨h1.1, h2.1⟩, by omega⟩
    have h' := all xs (by simpa [okN] using h)
    simp only [py, PyData.canLay0, PyData.depth]
    exact ⟨h'.1, by omega⟩
  | n + 1, .lst xs, h => by
    have all : ∀ ys : List D, ys.all (okN n) = true → PyData.canLayAll0 (pyL ys) = true ∧ PyData.depthAll (pyL ys) ≤ n := by
      intro ys
      induction ys with
      | nil => intro _; simp [pyL, PyData.canLayAll0, PyData.depthAll]
      | cons y ys ih =>
        intro q
        rw [List.all_cons, Bool.and_eq_true] at q
        have h1 := okN_lay n y q.1
        have h2 := ih q.2
        simp only [pyL, PyData.canLayAll0, PyData.depthAll, Bool.and_eq_true]
        exact ⟨⟨h1.1, h2.1⟩, by omega⟩
    have h' := all xs (by simpa [okN] using h)
    simp only [py, PyData.canLay0, PyData.depth]
    exact ⟨h'.1, by omega⟩
theorem okN_shaped {d : D} (h : okN 64 d = true) : SeqAt.shaped (py d) = true := by
  have := okN_lay 64 d h
  unfold SeqAt.shaped
  rw [Bool.and_eq_true]
  exact ⟨this.1, decide_eq_true this.2⟩
mutual
theorem Rp.dp {K : PySem.W.Frag} {H : Hp} : ∀ (d : D) (v : V) (n : Nat), okN n d = true → Rp K H d v → Dp K H v (py d)
  | .non, v, _, _, h => by
    simp only [Rp] at h
    subst h
    exact .non
  | .bl b, v, _, _, h => by
    simp only [Rp] at h
    subst h
    exact .bl b
  | .int b, v, _, _, h => by
    simp only [Rp] at h
    subst h
    exact .int b
  | .str b, v, _, _, h => by
    simp only [Rp] at h
    subst h
    exact .str b
  | .tup ds, v, n, o, h => by
    simp only [Rp] at h
    obtain ⟨a, xs, rfl, h1, h2⟩ := h
    cases n with
    | zero => simp [okN] at o
    | succ n => exact .tup (SqT.of h1) (RpL.dp ds xs n (by simpa [okN] using o) h2)
  | .lst ds, v, n, o, h => by
    simp only [Rp] at h
    obtain ⟨a, xs, rfl, h1, h2⟩ := h
    cases n with
    | zero => simp [okN] at o
    | succ n => exact .lst (SqL.of h1) (RpL.dp ds xs n (by simpa [okN] using o) h2)
  | .dic t ds, v, n, o, h => by cases n <;> simp [okN] at o
  | .scr ds, v, n, o, h => by cases n <;> simp [okN] at o
theorem RpL.dp {K : PySem.W.Frag} {H : Hp} : ∀ (ds : List D) (vs : List V) (n : Nat), (∀ x ∈ ds, okN n x = true) → RpL K H ds vs → DpAll K H vs (pyL ds)
  | [], _, _, _, h => by
    simp only [RpL] at h
    subst h
    exact .nil
  | d :: ds, _, n, o, h => by
    simp only [RpL] at h
    obtain ⟨x, r, rfl, h1, h2⟩ := h
    exact .cons (Rp.dp d x n (o d List.mem_cons_self) h1) (RpL.dp ds r n (fun y hy => o y (List.mem_cons_of_mem _ hy)) h2)
end
def eqD (x y : D) : Bool := PyData.eqv (py x) (py y)
def gEq : D → D → Option D := fun x y => if okN 64 x && okN 64 y then some (.bl (eqD x y)) else none
def gNe : D → D → Option D := fun x y => if okN 64 x && okN 64 y then some (.bl (!eqD x y)) else none
theorem oeq (hu : X.A.units + 64 < cLine) : OpR X (compareOp .Eq) (rD X.K gEq) := (op_eqD hu).imp fun x y H Q q => by
  obtain ⟨G, dx, dy, d, w, rx, ry, e, q⟩ := q
  unfold gEq at e
  split at e
  · rename_i hz
    rw [Bool.and_eq_true] at hz
    cases e
    exact ⟨py dx, py dy, Rp.dp dx x 64 hz.1 (rx.all w (okN_nd hz.1)), Rp.dp dy y 64 hz.2 (ry.all w (okN_nd hz.2)), okN_shaped hz.1, okN_shaped hz.2, q _ H G (Ext.refl w) (rp_bl _)⟩
  · cases e
theorem one (hu : X.A.units + 64 < cLine) : OpR X (compareOp .NotEq) (rD X.K gNe) := (op_neD hu).imp fun x y H Q q => by
  obtain ⟨G, dx, dy, d, w, rx, ry, e, q⟩ := q
  unfold gNe at e
  split at e
  · rename_i hz
    rw [Bool.and_eq_true] at hz
    cases e
    exact ⟨py dx, py dy, Rp.dp dx x 64 hz.1 (rx.all w (okN_nd hz.1)), Rp.dp dy y 64 hz.2 (ry.all w (okN_nd hz.2)), okN_shaped hz.1, okN_shaped hz.2, q _ H G (Ext.refl w) (rp_bl _)⟩
  · cases e

/-! ### < <= > >= of ints -/
def gLt : D → D → Option D := gI (fun _ _ => true) fun i j => .bl (decide (i < j))
theorem olt : OpR X (compareOp .Lt) (rD X.K gLt) := op_gI0 op_lt fun _ _ _ _ => rp_bl _
def gLe : D → D → Option D := gI (fun _ _ => true) fun i j => .bl (decide (i ≤ j))
theorem ole : OpR X (compareOp .LtE) (rD X.K gLe) := op_gI0 op_le fun _ _ _ _ => rp_bl _
def gGt : D → D → Option D := gI (fun _ _ => true) fun i j => .bl (decide (j < i))
theorem ogt : OpR X (compareOp .Gt) (rD X.K gGt) := op_gI0 op_gt fun _ _ _ _ => rp_bl _
def gGe : D → D → Option D := gI (fun _ _ => true) fun i j => .bl (decide (j ≤ i))
theorem oge : OpR X (compareOp .GtE) (rD X.K gGe) := op_gI0 op_ge fun _ _ _ _ => rp_bl _

/-! ### is None -/
def isNon : D → Bool
  | .non => true
  | _ => false
theorem rpb_isNon {K : PySem.W.Frag} {H G : Hp} {d : D} {v : V} (r : RpB K H G d v) : decide (v = .non) = isNon d := by
  cases d with
  | non =>
    have := rpb_non r
    subst this
    rfl
  | bl _ =>
    have := rpb_bl r
    subst this
    rfl
  | int _ =>
    have := rpb_int r
    subst this
    rfl
  | str _ =>
    have := rpb_str r
    subst this
    rfl
  | tup _ =>
    obtain ⟨a, xs, rfl, _⟩ := rpb_tup r
    rfl
  | lst _ =>
    obtain ⟨a, xs, rfl, _⟩ := r
    rfl
  | dic _ _ =>
    obtain ⟨a, rfl, _⟩ := r
    rfl
  | scr _ =>
    obtain ⟨a, rfl, _⟩ := rpb_scr r
    rfl
def gIs : D → D → Option D := fun x y => match y with
  | .non => some (.bl (isNon x))
  | _ => none
def gIsNot : D → D → Option D := fun x y => match y with
  | .non => some (.bl (!isNon x))
  | _ => none
theorem ois : OpR X (compareOp .Is) (rD X.K gIs) := (op_isN (X := X)).imp fun x y H Q q => by
  obtain ⟨G, dx, dy, d, w, rx, ry, e, q⟩ := q
  cases dy with
  | non =>
    cases e
    refine ⟨rpb_non ry, ?_⟩
    rw [rpb_isNon rx]
    exact q _ H G (Ext.refl w) (rp_bl _)
  | _ => cases e
theorem oisn : OpR X (compareOp .IsNot) (rD X.K gIsNot) := (op_notN (X := X)).imp fun x y H Q q => by
  obtain ⟨G, dx, dy, d, w, rx, ry, e, q⟩ := q
  cases dy with
  | non =>
    cases e
    refine ⟨rpb_non ry, ?_⟩
    rw [rpb_isNon rx]
    exact q _ H G (Ext.refl w) (rp_bl _)
  | _ => cases e

/-! ### in, not in -/
theorem op_inT (hu : X.A.units + 65 < cLine) : OpR X (compareOp .In) (fun x y H Q => ∃ d ds, Dp X.K H x d ∧ Dp X.K H y (.tuple ds) ∧ SeqAt.shaped d = true ∧ SeqAt.shaped (.tuple ds) = true ∧ Q (.bl (ds.any fun z => PyData.eqv z d)) H) := by
  intro pins s σ H x y v u Q I rx ry h
  obtain ⟨d, ds, hd, he, sd, se, q⟩ := h
  obtain ⟨as, r1⟩ := Dp.reads I d x v hd rx
  obtain ⟨bs, r2⟩ := Dp.reads I (.tuple ds) y u he ry
  exact SeqAt.in_tuple_reads r2 r1 (SeqAt.canLay_of_shaped se) (SeqAt.canLay_of_shaped sd) (room_in_shaped sd hu) ⟨.bl _, H, I, rfl, q⟩
theorem op_notInT (hu : X.A.units + 65 < cLine) : OpR X (compareOp .NotIn) (fun x y H Q => ∃ d ds, Dp X.K H x d ∧ Dp X.K H y (.tuple ds) ∧ SeqAt.shaped d = true ∧ SeqAt.shaped (.tuple ds) = true ∧ Q (.bl (!ds.any fun z => PyData.eqv z d)) H) := by
  intro pins s σ H x y v u Q I rx ry h
  obtain ⟨d, ds, hd, he, sd, se, q⟩ := h
  obtain ⟨as, r1⟩ := Dp.reads I d x v hd rx
  obtain ⟨bs, r2⟩ := Dp.reads I (.tuple ds) y u he ry
  exact SeqAt.notIn_tuple_reads r2 r1 (SeqAt.canLay_of_shaped se) (SeqAt.canLay_of_shaped sd) (room_in_shaped sd hu) ⟨.bl _, H, I, rfl, q⟩
def inD (x : D) (ys : List D) : Bool := ys.any fun y => eqD y x
theorem any_py (x : D) : ∀ ys : List D, ((pyL ys).any fun z => PyData.eqv z (py x)) = inD x ys
  | [] => rfl
  | y :: ys => by
    have := any_py x ys
    simp only [pyL, List.any_cons, inD] at this ⊢
    rw [this]
    rfl
def gIn : D → D → Option D
  | x, .lst ys => if okN 64 x && okN 64 (.lst ys) then some (.bl (inD x ys)) else none
  | x, .tup ys => if okN 64 x && okN 64 (.tup ys) then some (.bl (inD x ys)) else none
  | _, _ => none
def gNotIn : D → D → Option D
  | x, .lst ys => if okN 64 x && okN 64 (.lst ys) then some (.bl (!inD x ys)) else none
  | x, .tup ys => if okN 64 x && okN 64 (.tup ys) then some (.bl (!inD x ys)) else none
  | _, _ => none
theorem oin (hu : X.A.units + 65 < cLine) : OpR X (compareOp .In) (rD X.K gIn) := ((op_inD hu).or (op_inT hu)).imp fun x y H Q q => by
  obtain ⟨G, dx, dy, d, w, rx, ry, e, q⟩ := q
  cases dy with
  | lst ys =>
    simp only [gIn] at e
    split at e
    · rename_i hz
      rw [Bool.and_eq_true] at hz
      cases e
      refine .inl ⟨py dx, pyL ys, Rp.dp dx x 64 hz.1 (rx.all w (okN_nd hz.1)), Rp.dp (.lst ys) y 64 hz.2 (ry.all w (okN_nd hz.2)), okN_shaped hz.1, okN_shaped hz.2, ?_⟩
      rw [any_py]
      exact q _ H G (Ext.refl w) (rp_bl _)
    · cases e
  | tup ys =>
    simp only [gIn] at e
    split at e
    · rename_i hz
      rw [Bool.and_eq_true] at hz
      cases e
      refine .inr ⟨py dx, pyL ys, Rp.dp dx x 64 hz.1 (rx.all w (okN_nd hz.1)), Rp.dp (.tup ys) y 64 hz.2 (ry.all w (okN_nd hz.2)), okN_shaped hz.1, okN_shaped hz.2, ?_⟩
      rw [any_py]
      exact q _ H G (Ext.refl w) (rp_bl _)
    · cases e
  | _ => cases dx <;> cases e
theorem onotin (hu : X.A.units + 65 < cLine) : OpR X (compareOp .NotIn) (rD X.K gNotIn) := ((op_notInD hu).or (op_notInT hu)).imp fun x y H Q q => by
  obtain ⟨G, dx, dy, d, w, rx, ry, e, q⟩ := q
  cases dy with
  | lst ys =>
    simp only [gNotIn] at e
    split at e
    · rename_i hz
      rw [Bool.and_eq_true] at hz
      cases e
      refine .inl ⟨py dx, pyL ys, Rp.dp dx x 64 hz.1 (rx.all w (okN_nd hz.1)), Rp.dp (.lst ys) y 64 hz.2 (ry.all w (okN_nd hz.2)), okN_shaped hz.1, okN_shaped hz.2, ?_⟩
      rw [any_py]
      exact q _ H G (Ext.refl w) (rp_bl _)
    · cases e
  | tup ys =>
    simp only [gNotIn] at e
    split at e
    · rename_i hz
      rw [Bool.and_eq_true] at hz
      cases e
      refine .inr ⟨py dx, pyL ys, Rp.dp dx x 64 hz.1 (rx.all w (okN_nd hz.1)), Rp.dp (.tup ys) y 64 hz.2 (ry.all w (okN_nd hz.2)), okN_shaped hz.1, okN_shaped hz.2, ?_⟩
      rw [any_py]
      exact q _ H G (Ext.refl w) (rp_bl _)
    · cases e
  | _ => cases dx <;> cases e
/-- -x -/
def eUn (g : D → Option D) (f : Fe) : Fe := fun env => (f env).bind g
def gNeg : D → Option D
  | .int i => some (.int (-i))
  | _ => none
theorem ex_neg {a : Expr} {f : Fe} {pos : Pos} (ha : BX X a f) : EX X (.UnaryOp .USub a pos) (eUn gNeg f) := pe_imp (pe_un un_neg ha) fun σ H Q q => by
  obtain ⟨H0, G0, G, env, d, S, e1, q⟩ := q
  obtain ⟨c, h1, e1⟩ := Option.bind_eq_some_iff.mp e1
  refine ⟨H0, G0, G, env, c, S, h1, fun v H1 G1 x1 r1 => ?_⟩
  cases c with
  | int i =>
    cases e1
    exact ⟨i, rpb_int r1, q _ H1 G1 x1 (rp_int _)⟩
  | _ => cases e1
end
end PD

set_option Elab.async false
set_option linter.all false
set_option maxRecDepth 100000
namespace PD
open PySem PySem.Spec PyProof.Rows L2

section
variable {X : Cx} {a b e : Expr} {fa fb f : Fe} {pos : Pos} {es : List Expr} {fl : Fl}
/-! ### places -/
theorem atI_rp {K : PySem.W.Frag} {G : Hp} {ds : List D} {xs : List V} (h : RpL K G ds xs) {i : Int} {d : D} (e : atI ds i = some d) : ∃ x, atI xs i = some x ∧ Rp K G d x := by
  unfold atI at e ⊢
  obtain ⟨j, h1, h2⟩ := Option.bind_eq_some_iff.mp e
  rw [h.len] at h1
  obtain ⟨x, h3, h4⟩ := h.at h2
  exact ⟨x, by rw [h1]; exact h3, h4⟩
def gIx : D → D → Option D
  | .lst xs, .int i => atI xs i
  | .tup xs, .int i => atI xs i
  | .scr ns, .int i => (atI ns i).map D.int
  | .str z, .int i => if lim z.length then (atI z.cps.toList i).map fun c => D.str ⟨#[c]⟩ else none
  | _, _ => none
theorem atI_map {α β : Type} (g : α → β) (xs : List α) (i : Int) : atI (xs.map g) i = (atI xs i).map g := by
  unfold atI
  rw [List.length_map]
  cases ixN xs.length i with
  | none => rfl
  | some j => simp
theorem _root_.L2.IxR.imp {r r' : R2} (h : IxR X r) (i : ∀ x y H Q, r' x y H Q → r x y H Q) : IxR X r' := fun value slice pins s σ H x y v u Q I rx ry q hs => h value slice pins s σ H x y v u Q I rx ry (i x y H Q q) hs
theorem ixd : IxR X (rD X.K gIx) := (ix_seq (X := X)).imp fun x y H Q q => by
  obtain ⟨G, dx, dy, d, w, rx, ry, e, q⟩ := q
  cases dy with
  | int i =>
    have hy := rpb_int ry
    subst hy
    cases dx with
    | lst ds =>
      obtain ⟨a, xs, rfl, h1, h2⟩ := rx
      obtain ⟨z, h3, h4⟩ := atI_rp h2 (show atI ds i = some d from e)
      exact .inl ⟨a, xs, i, z, rfl, rfl, SqL.of h1, h3, q z H G (Ext.refl w) h4⟩
    | tup ds =>
      obtain ⟨a, xs, rfl, h1, h2⟩ := rpb_tup rx
      obtain ⟨z, h3, h4⟩ := atI_rp h2 (show atI ds i = some d from e)
      exact .inr (.inl ⟨a, xs, i, z, rfl, rfl, Same.tup w.sub h1, h3, q z H G (Ext.refl w) h4⟩)
    | scr ns =>
      obtain ⟨a, rfl, h1⟩ := rpb_scr rx
      obtain ⟨n, h2, rfl⟩ := Option.map_eq_some_iff.mp (show (atI ns i).map D.int = some d from e)
      exact .inl ⟨a, _, i, .int n, rfl, rfl, w.sub.seq h1, by rw [atI_map, h2]; rfl, q _ H G (Ext.refl w) (rp_int _)⟩
    | str z =>
      have hx := rpb_str rx
      subst hx
      simp only [gIx] at e
      split at e
      · rename_i hz
        obtain ⟨c, h2, rfl⟩ := Option.map_eq_some_iff.mp e
        exact .inr (.inr ⟨z, i, c, rfl, rfl, lim_le hz, h2, q _ H G (Ext.refl w) (rp_str _)⟩)
      · cases e
    | _ => cases e
  | _ => cases dx <;> cases e
theorem ex_ix (ha : BX X a fa) (hb : BX X b fb) (hs : PlainIx b) : EX X (.Subscript a b pos) (eOp gIx fa fb) := pe_imp (pe_ix ixd ha hb hs) fun _ _ _ q => tOp_imp q

/-! ### slices -/
abbrev Fo := List Sl → Option (Option Int)
def oNo : Fo := fun _ => some none
def oYes (f : Fe) : Fo := fun env => match f env with
  | some (.int i) => some (some i)
  | _ => none
def tO (K : PySem.W.Frag) (f : Fo) : TO := fun σ H Q => ∃ H0 G0 G env d, Ste K H0 G0 H G σ env ∧ f env = some d ∧ ∀ H' G', Ext H G H' G' → Q d H'
theorem po_imp {e : Option Expr} {t t' : TO} (h : PO X e t) (i : ∀ σ H Q, t' σ H Q → t σ H Q) : PO X e t' := ⟨fun pins s σ H Q I q => h.run pins s σ H Q I (i σ H Q q)⟩
abbrev OX (X : Cx) (e : Option Expr) (f : Fo) : Prop := PO X e (tO X.K f)
theorem ox_no : OX X none oNo := po_imp po_none fun σ H Q q => by
  obtain ⟨H0, G0, G, env, d, S, e1, q⟩ := q
  cases e1
  exact q H G (Ext.refl S.wf)
theorem ox_yes (h : BX X e f) : OX X (some e) (oYes f) := po_imp (po_some h) fun σ H Q q => by
  obtain ⟨H0, G0, G, env, d, S, e1, q⟩ := q
  unfold oYes at e1
  cases hf : f env with
  | none => rw [hf] at e1; cases e1
  | some c =>
    rw [hf] at e1
    cases c with
    | int i =>
      cases e1
      exact ⟨H0, G0, G, env, _, S, hf, fun v H1 G1 x1 r1 => ⟨i, rpb_int r1, q H1 G1 x1⟩⟩
    | _ => cases e1
def cutD {α : Type} (xs : List α) (lo hi : Option Int) : List α := (xs.drop (HT.sIx xs.length 0 lo)).take (HT.sIx xs.length xs.length hi - HT.sIx xs.length 0 lo)
theorem RpL.cut {K : PySem.W.Frag} {G : Hp} {ds : List D} {xs : List V} (h : RpL K G ds xs) (lo hi : Option Int) : RpL K G (cutD ds lo hi) (cutV xs lo hi) := by
  unfold cutD cutV
  rw [h.len]
  exact (h.drop _).take _
def gSl : D → Option Int → Option Int → Option D
  | .lst xs, lo, hi => some (.lst (cutD xs lo hi))
  | .tup xs, lo, hi => some (.tup (cutD xs lo hi))
  | .str z, lo, hi => if lim z.length then some (.str (cutS z lo hi)) else none
  | _, _, _ => none
def eSl (f : Fe) (lo hi : Fo) : Fe := fun env => (f env).bind fun x => (lo env).bind fun l => (hi env).bind fun h => gSl x l h
theorem _root_.L2.SlR.imp {r r' : V → Option Int → Option Int → Hp → VK → Prop} (h : SlR X r) (i : ∀ x lo hi H Q, r' x lo hi H Q → r x lo hi H Q) : SlR X r' := fun pins s σ H x v vl vu lo hi sl Q I rx hs pl pu q => h pins s σ H x v vl vu lo hi sl Q I rx hs pl pu (i x lo hi H Q q)
theorem cut_all {α : Type} {xs : List α} {lo hi : Option Int} (h : HT.sIx xs.length 0 lo = 0 ∧ HT.sIx xs.length xs.length hi = xs.length) : cutD xs lo hi = xs := by
  unfold cutD
  rw [h.1, h.2]
  simp
def rSlD (K : PySem.W.Frag) : V → Option Int → Option Int → Hp → VK → Prop := fun x lo hi H Q => ∃ G dx d, Wf H G ∧ RpB K H G dx x ∧ gSl dx lo hi = some d ∧ ∀ v H' G', Ext H G H' G' → Rp K G' d v → Q v H'
theorem sld : SlR X (rSlD X.K) := ((sl_list (X := X)).or (sl_tupA.or sl_str)).imp fun x lo hi H Q q => by
  obtain ⟨G, dx, d, w, rx, e, q⟩ := q
  cases dx with
  | lst ds =>
    obtain ⟨a, xs, rfl, h1, h2⟩ := rx
    cases e
    exact .inl ⟨a, xs, rfl, SqL.of h1, new_lst w (h2.cut lo hi) q⟩
  | tup ds =>
    obtain ⟨a, xs, rfl, h1, h2⟩ := rpb_tup rx
    cases e
    refine .inr (.inl ⟨a, xs, rfl, Same.tup w.sub h1, fun hw => ?_, fun hw => new_tup w (h2.cut lo hi) q⟩)
    refine q _ H G (Ext.refl w) ?_
    rw [← h2.len] at hw
    rw [cut_all hw]
    simp only [Rp]
    exact ⟨a, xs, rfl, h1, h2⟩
  | str z =>
    have hx := rpb_str rx
    subst hx
    simp only [gSl] at e
    split at e
    · rename_i hz
      cases e
      exact .inr (.inr ⟨z, rfl, lim_le hz, q _ H G (Ext.refl w) (rp_str _)⟩)
    · cases e
  | _ => cases e
variable {lo hi : Option Expr} {fo fh : Fo} {p2 : Pos}
theorem ex_sl (ha : BX X a fa) (hl : OX X lo fo) (hh : OX X hi fh) : EX X (.Subscript a (.Slice lo hi none p2) pos) (eSl fa fo fh) := pe_imp (pe_slice sld ha hl hh) fun σ H Q q => by
  obtain ⟨H0, G0, G, env, d, S, e1, q⟩ := q
  obtain ⟨dx, h1, e1⟩ := Option.bind_eq_some_iff.mp e1
  obtain ⟨l, h2, e1⟩ := Option.bind_eq_some_iff.mp e1
  obtain ⟨u, h3, e1⟩ := Option.bind_eq_some_iff.mp e1
  exact ⟨H0, G0, G, env, dx, S, h1, fun v H1 G1 x1 r1 => ⟨H0, G0, G1, env, l, S.ext x1, h2, fun H2 G2 x2 => ⟨H0, G0, G2, env, u, (S.ext x1).ext x2, h3, fun H3 G3 x3 =>
    ⟨G3, dx, d, x3.wf, (r1.ext x2).ext x3, e1, fun w H4 G4 x4 r4 => q w H4 G4 (x1.trans (x2.trans (x3.trans x4))) r4⟩⟩⟩⟩

/-! ### calls of built-ins -/
def rC (K : PySem.W.Frag) (g : List D → Option D) : List V → Hp → VK → Prop := fun vs H Q => ∃ G ds d, Wf H G ∧ RpBL K H G ds vs ∧ g ds = some d ∧ ∀ v H' G', Ext H G H' G' → Rp K G' d v → Q v H'
def eCall (g : List D → Option D) (fl : Fl) : Fe := fun env => (fl env).bind g
theorem tCB_imp {g : List D → Option D} {σ : L2.St} {H : Hp} {Q : VK} (q : tD X.K (eCall g fl) σ H Q) : tCB (rC X.K g) (tAB X.K fl) σ H Q := by
  obtain ⟨H0, G0, G, env, d, S, e1, q⟩ := q
  obtain ⟨ds, h1, e1⟩ := Option.bind_eq_some_iff.mp e1
  exact ⟨H0, G0, G, env, ds, S, h1, fun vs H1 G1 x1 r1 => ⟨G1, ds, d, x1.wf, r1, e1, fun v H2 G2 x2 r2 => q v H2 G2 (x1.trans x2) r2⟩⟩
variable {x : Str} {p : Pos} {id T : String} {g : List D → Option D}
theorem ex_callB (hc : CallR X (.builtin id) (rC X.K g)) (hg : Gl X x) (hm : X.mg x = none) (hv : bootBuiltins x = some (.builtin id)) (ha : ABX X (e :: es) fl) (hn : x ≠ "__name__" := by decide) (hdb : (x == ("__debug__" : Str)) = false := by decide)
    (he : starEach (e :: es) X.env = (false, eval e X.env) :: starEach es X.env := by rfl) (hpl : (backTo pos (starEach es X.env)).any (·.1) = false := by rfl) : EX X (.Call (.Name x p) (e :: es) [] pos) (eCall g fl) :=
  pe_imp (pe_callB hc hg hm hv ha hn hdb he hpl) fun _ _ _ q => tCB_imp q
theorem ex_callTy (hc : CallR X (.type T) (rC X.K g)) (hg : Gl X x) (hm : X.mg x = none) (hv : bootBuiltins x = some (.type T)) (ha : ABX X (e :: es) fl) (hn : x ≠ "__name__" := by decide) (hdb : (x == ("__debug__" : Str)) = false := by decide)
    (he : starEach (e :: es) X.env = (false, eval e X.env) :: starEach es X.env := by rfl) (hpl : (backTo pos (starEach es X.env)).any (·.1) = false := by rfl) : EX X (.Call (.Name x p) (e :: es) [] pos) (eCall g fl) :=
  pe_imp (pe_callTy hc hg hm hv ha hn hdb he hpl) fun _ _ _ q => tCB_imp q
theorem rpbl1 {K : PySem.W.Frag} {H G : Hp} {d : D} {vs : List V} (h : RpBL K H G [d] vs) : ∃ v, vs = [v] ∧ RpB K H G d v := by
  obtain ⟨v, r, rfl, h1, h2⟩ := h
  cases (show r = [] from h2)
  exact ⟨v, rfl, h1⟩
theorem rpbl2 {K : PySem.W.Frag} {H G : Hp} {d d' : D} {vs : List V} (h : RpBL K H G [d, d'] vs) : ∃ v v', vs = [v, v'] ∧ RpB K H G d v ∧ RpB K H G d' v' := by
  obtain ⟨v, r, rfl, h1, h2⟩ := h
  obtain ⟨v', r', rfl, h3, h4⟩ := h2
  cases (show r' = [] from h4)
  exact ⟨v, v', rfl, h1, h3⟩
def gLen : List D → Option D
  | [.lst xs] => some (.int xs.length)
  | [.tup xs] => some (.int xs.length)
  | [.scr xs] => some (.int xs.length)
  | [.str x] => if lim x.length then some (.int x.length) else none
  | _ => none
theorem clen : CallR X (.builtin "len") (rC X.K gLen) := ((call_len_seq (X := X)).or call_len_str).imp fun vs H Q q => by
  obtain ⟨G, ds, d, w, r, e, q⟩ := q
  unfold gLen at e
  split at e
  · cases e
    obtain ⟨v, rfl, a, xs, rfl, h1, h2⟩ := rpbl1 r
    refine .inl ⟨a, xs, rfl, .inl (SqL.of h1), ?_⟩
    rw [← h2.len]
    exact q _ H G (Ext.refl w) (rp_int _)
  · cases e
    obtain ⟨v, rfl, r1⟩ := rpbl1 r
    obtain ⟨a, xs, rfl, h1, h2⟩ := rpb_tup r1
    refine .inl ⟨a, xs, rfl, .inr (Same.tup w.sub h1), ?_⟩
    rw [← h2.len]
    exact q _ H G (Ext.refl w) (rp_int _)
  · cases e
    obtain ⟨v, rfl, r1⟩ := rpbl1 r
    obtain ⟨a, rfl, h1⟩ := rpb_scr r1
    refine .inl ⟨a, _, rfl, .inl (w.sub.seq h1), ?_⟩
    rw [List.length_map]
    exact q _ H G (Ext.refl w) (rp_int _)
  · split at e
    · rename_i hz
      cases e
      obtain ⟨v, rfl, r1⟩ := rpbl1 r
      have hx := rpb_str r1
      subst hx
      exact .inr ⟨_, rfl, lim_le hz, q _ H G (Ext.refl w) (rp_int _)⟩
    · cases e
  · cases e
def gInt : List D → Option D
  | [.int i] => some (.int i)
  | [.bl b] => some (.int (if b then 1 else 0))
  | _ => none
theorem cint : CallR X (.type "int") (rC X.K gInt) := (call_int1 (X := X)).imp fun vs H Q q => by
  obtain ⟨G, ds, d, w, r, e, q⟩ := q
  unfold gInt at e
  split at e
  · cases e
    obtain ⟨v, rfl, r1⟩ := rpbl1 r
    rw [rpb_int r1]
    exact .inl ⟨_, rfl, q _ H G (Ext.refl w) (rp_int _)⟩
  · cases e
    obtain ⟨v, rfl, r1⟩ := rpbl1 r
    rw [rpb_bl r1]
    exact .inr ⟨_, rfl, q _ H G (Ext.refl w) (rp_int _)⟩
  · cases e
def gAbs : List D → Option D
  | [.int i] => some (.int (if i < 0 then -i else i))
  | _ => none
theorem cabs : CallR X (.builtin "abs") (rC X.K gAbs) := (call_abs (X := X)).imp fun vs H Q q => by
  obtain ⟨G, ds, d, w, r, e, q⟩ := q
  unfold gAbs at e
  split at e
  · cases e
    obtain ⟨v, rfl, r1⟩ := rpbl1 r
    rw [rpb_int r1]
    exact ⟨_, rfl, q _ H G (Ext.refl w) (rp_int _)⟩
  · cases e
def intsOf : List D → Option (List Int)
  | [] => some []
  | .int i :: r => (intsOf r).map (i :: ·)
  | _ :: _ => none
theorem intsOf_some : ∀ {ds : List D} {ns : List Int}, intsOf ds = some ns → ds = ns.map D.int
  | [], ns, h => by
    cases h
    rfl
  | .int i :: r, ns, h => by
    obtain ⟨m, h1, rfl⟩ := Option.map_eq_some_iff.mp (show (intsOf r).map (i :: ·) = some ns from h)
    rw [intsOf_some h1]
    rfl
  | .non :: r, ns, h => by cases h
  | .bl _ :: r, ns, h => by cases h
  | .str _ :: r, ns, h => by cases h
  | .tup _ :: r, ns, h => by cases h
  | .lst _ :: r, ns, h => by cases h
  | .dic _ _ :: r, ns, h => by cases h
  | .scr _ :: r, ns, h => by cases h
theorem intsOf_map : ∀ ns : List Int, intsOf (ns.map D.int) = some ns
  | [] => rfl
  | n :: ns => by
    show (intsOf (ns.map D.int)).map (n :: ·) = _
    rw [intsOf_map ns]
    rfl
def blsOf : List D → Option (List Bool)
  | [] => some []
  | .bl i :: r => (blsOf r).map (i :: ·)
  | _ :: _ => none
theorem blsOf_some : ∀ {ds : List D} {ns : List Bool}, blsOf ds = some ns → ds = ns.map D.bl
  | [], ns, h => by
    cases h
    rfl
  | .bl i :: r, ns, h => by
    obtain ⟨m, h1, rfl⟩ := Option.map_eq_some_iff.mp (show (blsOf r).map (i :: ·) = some ns from h)
    rw [blsOf_some h1]
    rfl
  | .non :: r, ns, h => by cases h
  | .int _ :: r, ns, h => by cases h
  | .str _ :: r, ns, h => by cases h
  | .tup _ :: r, ns, h => by cases h
  | .lst _ :: r, ns, h => by cases h
  | .dic _ _ :: r, ns, h => by cases h
  | .scr _ :: r, ns, h => by cases h
theorem blsOf_map : ∀ ns : List Bool, blsOf (ns.map D.bl) = some ns
  | [] => rfl
  | n :: ns => by
    show (blsOf (ns.map D.bl)).map (n :: ·) = _
    rw [blsOf_map ns]
    rfl
theorem rpbl_lst {K : PySem.W.Frag} {H G : Hp} {ds : List D} {vs : List V} (h : RpBL K H G [.lst ds] vs) : ∃ a xs, vs = [.ref a] ∧ H a = some (.lst xs) ∧ RpL K G ds xs := by
  obtain ⟨v, rfl, a, xs, rfl, h1, h2⟩ := rpbl1 h
  exact ⟨a, xs, rfl, h1, h2⟩
theorem rpbl_tup {K : PySem.W.Frag} {H G : Hp} {ds : List D} {vs : List V} (h : RpBL K H G [.tup ds] vs) : ∃ a xs, vs = [.ref a] ∧ G a = some (.tup xs) ∧ RpL K G ds xs := by
  obtain ⟨v, rfl, h3⟩ := rpbl1 h
  obtain ⟨a, xs, rfl, h1, h2⟩ := rpb_tup h3
  exact ⟨a, xs, rfl, h1, h2⟩
/-- the sum of a tuple of ints -/
theorem cr_sumT (hc : X.calm = true) : CallR X (.builtin "sum") (fun vs H Q => ∃ (a : Addr) (ns : List Int), vs = [V.ref a] ∧ SqT X.K H a (ns.map V.int) ∧ Q (.int ns.sum) H) := by
  intro pins s σ H vs us Q I r h
  obtain ⟨a, ns, rfl, hs, q⟩ := h
  obtain ⟨its, rv, hl, _⟩ := I.tuple hs
  rw [Vals.ref1 r]
  obtain ⟨xs, e⟩ := rv.ints.allInts.items
  have hn : numsOf (intItems xs).toList = ns := by rw [← e]; exact rv.ints.numsOf
  rw [nums_intItems] at hn
  rw [e] at hl
  have hl' : s.heap.IsTuple a (intItems xs) := hl
  have hlt : a < s.heap.objs.size := hl.lt
  subst hn
  refine call_sum_walkG (wpAny_pyIter_tuple hl' ?_)
  refine ⟨_, _, _, _, _, _, numAt xs, rfl, Walks.tuple (A := X.A.in1) (I.ok.hd hc) _ a (Nat.ne_of_lt hlt) (intItems xs), ⟨⟨_, Heap.get?_push_size _ rfl, rfl, rfl⟩, (let ⟨o, e, r⟩ := hl'; ⟨o, Heap.get?_push_of_some _ e, r⟩)⟩, fun b hb => ?_, (fun _ _ => intItems_at), fun h' tk t' hk => ?_⟩
  · show b < (s.heap.push _).objs.size
    rw [Heap.size_push]
    rcases List.mem_cons.mp hb with rfl | hb
    · exact Nat.lt_succ_self _
    · rw [List.mem_singleton.mp hb]
      exact Nat.lt_succ_of_lt hlt
  · have hsz : (intItems xs).size = xs.size := by simp [intItems]
    rw [hsz, preSum_eq, List.take_of_length_le (by simp)]
    refine ⟨.int _, H, I.kept (h' := h') (t' := tk) (fun b o e => ?_), ⟨_, rfl⟩, q⟩
    refine hk b o (fun hm => ?_) (Heap.get?_push_of_some _ e)
    have := Heap.lt_size e
    rw [List.mem_singleton.mp hm] at this
    exact Nat.lt_irrefl _ this
end
end PD

set_option Elab.async false
set_option linter.all false
set_option maxRecDepth 100000
namespace PD
open PySem PySem.Spec PyProof.Rows L2

section
variable {X : Cx} {a b e : Expr} {fa fb f : Fe} {pos p : Pos} {es : List Expr} {fl : Fl}
theorem sqt_up {H G : Hp} (w : Wf H G) {K : PySem.W.Frag} {a : Addr} {xs : List V} (h : G a = some (.tup xs)) : SqT K H a xs := Same.tup w.sub h
def gSum : List D → Option D
  | [.lst xs] => (intsOf xs).map fun ns => .int ns.sum
  | [.tup xs] => (intsOf xs).map fun ns => .int ns.sum
  | _ => none
theorem csum (hc : X.calm = true) : CallR X (.builtin "sum") (rC X.K gSum) := ((cr_sum hc).or (cr_sumT hc)).imp fun vs H Q q => by
  obtain ⟨G, ds, d, w, r, e, q⟩ := q
  unfold gSum at e
  split at e
  · obtain ⟨ns, h1, rfl⟩ := Option.map_eq_some_iff.mp e
    obtain ⟨a, xs, rfl, h2, h3⟩ := rpbl_lst r
    rw [intsOf_some h1] at h3
    rw [h3.ints] at h2
    exact .inl ⟨a, ns, rfl, SqL.of h2, q _ H G (Ext.refl w) (rp_int _)⟩
  · obtain ⟨ns, h1, rfl⟩ := Option.map_eq_some_iff.mp e
    obtain ⟨a, xs, rfl, h2, h3⟩ := rpbl_tup r
    rw [intsOf_some h1] at h3
    rw [h3.ints] at h2
    exact .inr ⟨a, ns, rfl, sqt_up w h2, q _ H G (Ext.refl w) (rp_int _)⟩
  · cases e
def gAll : List D → Option D
  | [.lst xs] => (blsOf xs).map fun bs => .bl (bs.all id)
  | _ => none
def gAny : List D → Option D
  | [.lst xs] => (blsOf xs).map fun bs => .bl (bs.any id)
  | _ => none
theorem call (hc : X.calm = true) : CallR X (.builtin "all") (rC X.K gAll) := (cr_all hc).imp fun vs H Q q => by
  obtain ⟨G, ds, d, w, r, e, q⟩ := q
  unfold gAll at e
  split at e
  · obtain ⟨ns, h1, rfl⟩ := Option.map_eq_some_iff.mp e
    obtain ⟨a, xs, rfl, h2, h3⟩ := rpbl_lst r
    rw [blsOf_some h1] at h3
    rw [h3.bls] at h2
    exact ⟨a, ns, rfl, SqL.of h2, q _ H G (Ext.refl w) (rp_bl _)⟩
  · cases e
theorem cany (hc : X.calm = true) : CallR X (.builtin "any") (rC X.K gAny) := (cr_any hc).imp fun vs H Q q => by
  obtain ⟨G, ds, d, w, r, e, q⟩ := q
  unfold gAny at e
  split at e
  · obtain ⟨ns, h1, rfl⟩ := Option.map_eq_some_iff.mp e
    obtain ⟨a, xs, rfl, h2, h3⟩ := rpbl_lst r
    rw [blsOf_some h1] at h3
    rw [h3.bls] at h2
    exact ⟨a, ns, rfl, SqL.of h2, q _ H G (Ext.refl w) (rp_bl _)⟩
  · cases e
def gTuple : List D → Option D
  | [.lst xs] => some (.tup xs)
  | [.tup xs] => some (.tup xs)
  | _ => none
theorem ctuple : CallR X (.type "tuple") (rC X.K gTuple) := (call_tuple_of (X := X)).imp fun vs H Q q => by
  obtain ⟨G, ds, d, w, r, e, q⟩ := q
  unfold gTuple at e
  split at e
  · cases e
    obtain ⟨a, xs, rfl, h2, h3⟩ := rpbl_lst r
    exact ⟨a, xs, rfl, .inl ⟨SqL.of h2, new_tup w h3 q⟩⟩
  · cases e
    obtain ⟨a, xs, rfl, h2, h3⟩ := rpbl_tup r
    refine ⟨a, xs, rfl, .inr ⟨sqt_up w h2, q _ H G (Ext.refl w) ?_⟩⟩
    simp only [Rp]
    exact ⟨a, xs, rfl, h2, h3⟩
  · cases e
def gMax2 : List D → Option D
  | [.int i, .int j] => some (.int (if j > i then j else i))
  | _ => none
def gMin2 : List D → Option D
  | [.int i, .int j] => some (.int (if j < i then j else i))
  | _ => none
theorem cmax2 (hc : X.calm = true) : CallR X (.builtin "max") (rC X.K gMax2) := (call_max2 hc).imp fun vs H Q q => by
  obtain ⟨G, ds, d, w, r, e, q⟩ := q
  unfold gMax2 at e
  split at e
  · cases e
    obtain ⟨u, v, rfl, h1, h2⟩ := rpbl2 r
    rw [rpb_int h1, rpb_int h2]
    exact ⟨_, _, rfl, q _ H G (Ext.refl w) (rp_int _)⟩
  · cases e
theorem cmin2 (hc : X.calm = true) : CallR X (.builtin "min") (rC X.K gMin2) := (call_min2 hc).imp fun vs H Q q => by
  obtain ⟨G, ds, d, w, r, e, q⟩ := q
  unfold gMin2 at e
  split at e
  · cases e
    obtain ⟨u, v, rfl, h1, h2⟩ := rpbl2 r
    rw [rpb_int h1, rpb_int h2]
    exact ⟨_, _, rfl, q _ H G (Ext.refl w) (rp_int _)⟩
  · cases e
/-- the least, the greatest of ints -/
def minL : Int → List Int → Int
  | m, [] => m
  | m, x :: r => minL (min m x) r
def maxL : Int → List Int → Int
  | m, [] => m
  | m, x :: r => maxL (max m x) r
theorem minL_spec : ∀ (r : List Int) (m : Int), minL m r ∈ m :: r ∧ ∀ y ∈ m :: r, minL m r ≤ y
  | [], m => by simp [minL]
  | x :: r, m => by
    obtain ⟨h1, h2⟩ := minL_spec r (min m x)
    simp only [minL]
    constructor
    · rcases List.mem_cons.mp h1 with h | h
      · rw [h]
        rcases Int.le_total m x with q | q
        · rw [Int.min_eq_left q]
          exact List.mem_cons_self
        · rw [Int.min_eq_right q]
          exact List.mem_cons_of_mem _ List.mem_cons_self
      · exact List.mem_cons_of_mem _ (List.mem_cons_of_mem _ h)
    · intro y hy
      have h0 := h2 (min m x) List.mem_cons_self
      rcases List.mem_cons.mp hy with h | h
      · omega
      · rcases List.mem_cons.mp h with h | h
        · omega
        · exact h2 y (List.mem_cons_of_mem _ h)
theorem maxL_spec : ∀ (r : List Int) (m : Int), maxL m r ∈ m :: r ∧ ∀ y ∈ m :: r, y ≤ maxL m r
  | [], m => by simp [maxL]
  | x :: r, m => by
    obtain ⟨h1, h2⟩ := maxL_spec r (max m x)
    simp only [maxL]
    constructor
    · rcases List.mem_cons.mp h1 with h | h
      · rw [h]
        rcases Int.le_total m x with q | q
        · rw [Int.max_eq_right q]
          exact List.mem_cons_of_mem _ List.mem_cons_self
        · rw [Int.max_eq_left q]
          exact List.mem_cons_self
      · exact List.mem_cons_of_mem _ (List.mem_cons_of_mem _ h)
    · intro y hy
      have h0 := h2 (max m x) List.mem_cons_self
      rcases List.mem_cons.mp hy with h | h
      · omega
      · rcases List.mem_cons.mp h with h | h
        · omega
        · exact h2 y (List.mem_cons_of_mem _ h)
def gMinI : List D → Option D
  | [.lst xs] => (intsOf xs).bind fun ns => match ns with
    | [] => none
    | n :: r => some (.int (minL n r))
  | _ => none
def gMaxI : List D → Option D
  | [.lst xs] => (intsOf xs).bind fun ns => match ns with
    | [] => none
    | n :: r => some (.int (maxL n r))
  | _ => none
theorem cminI (hc : X.calm = true) : CallR X (.builtin "min") (rC X.K gMinI) := (cr_min hc).imp fun vs H Q q => by
  obtain ⟨G, ds, d, w, r, e, q⟩ := q
  unfold gMinI at e
  split at e
  · obtain ⟨ns, h1, e⟩ := Option.bind_eq_some_iff.mp e
    obtain ⟨a, xs, rfl, h2, h3⟩ := rpbl_lst r
    rw [intsOf_some h1] at h3
    rw [h3.ints] at h2
    cases ns with
    | nil => cases e
    | cons n r =>
      cases e
      refine ⟨a, n :: r, rfl, SqL.of h2, by simp, fun m hm hle => ?_⟩
      have hs := minL_spec r n
      have : m = minL n r := Int.le_antisymm (hle _ hs.1) (hs.2 m hm)
      subst this
      exact q _ H G (Ext.refl w) (rp_int _)
  · cases e
theorem cmaxI (hc : X.calm = true) : CallR X (.builtin "max") (rC X.K gMaxI) := (cr_max hc).imp fun vs H Q q => by
  obtain ⟨G, ds, d, w, r, e, q⟩ := q
  unfold gMaxI at e
  split at e
  · obtain ⟨ns, h1, e⟩ := Option.bind_eq_some_iff.mp e
    obtain ⟨a, xs, rfl, h2, h3⟩ := rpbl_lst r
    rw [intsOf_some h1] at h3
    rw [h3.ints] at h2
    cases ns with
    | nil => cases e
    | cons n r =>
      cases e
      refine ⟨a, n :: r, rfl, SqL.of h2, by simp, fun m hm hle => ?_⟩
      have hs := maxL_spec r n
      have : m = maxL n r := Int.le_antisymm (hs.2 m hm) (hle _ hs.1)
      subst this
      exact q _ H G (Ext.refl w) (rp_int _)
  · cases e

/-! ### isinstance -/
def tyD : D → String
  | .non => "NoneType"
  | .bl _ => "bool"
  | .int _ => "int"
  | .str _ => "str"
  | .tup _ => "tuple"
  | .lst _ => "list"
  | .scr _ => "list"
  | .dic _ _ => "dict"
def isiD (T : String) (d : D) : Bool := decide (tyD d = T) || (decide (T = "int") && decide (tyD d = "bool"))
def kitOk (T : String) : Prop := ∀ t ∈ ["NoneType", "bool", "int", "str", "tuple", "list", "dict"], kitB t T = some (decide (t = T) || (decide (T = "int") && decide (t = "bool")))
theorem kit_int : kitOk "int" := by
  intro t ht
  simp only [List.mem_cons, List.not_mem_nil, or_false] at ht
  rcases ht with rfl | rfl | rfl | rfl | rfl | rfl | rfl <;> decide +kernel
theorem kit_bool : kitOk "bool" := by
  intro t ht
  simp only [List.mem_cons, List.not_mem_nil, or_false] at ht
  rcases ht with rfl | rfl | rfl | rfl | rfl | rfl | rfl <;> decide +kernel
theorem kit_tuple : kitOk "tuple" := by
  intro t ht
  simp only [List.mem_cons, List.not_mem_nil, or_false] at ht
  rcases ht with rfl | rfl | rfl | rfl | rfl | rfl | rfl <;> decide +kernel
theorem kit_str : kitOk "str" := by
  intro t ht
  simp only [List.mem_cons, List.not_mem_nil, or_false] at ht
  rcases ht with rfl | rfl | rfl | rfl | rfl | rfl | rfl <;> decide +kernel
theorem kit_list : kitOk "list" := by
  intro t ht
  simp only [List.mem_cons, List.not_mem_nil, or_false] at ht
  rcases ht with rfl | rfl | rfl | rfl | rfl | rfl | rfl <;> decide +kernel
theorem tyD_mem (d : D) : tyD d ∈ ["NoneType", "bool", "int", "str", "tuple", "list", "dict"] := by cases d <;> simp [tyD]
theorem rpb_ty {K : PySem.W.Frag} {H G : Hp} (w : Wf H G) {d : D} {v : V} (hd : notDic d = true) (r : RpB K H G d v) : TyX K H v (.type (tyD d)) := by
  cases d with
  | non =>
    rw [rpb_non r]
    exact .base .non
  | bl _ =>
    rw [rpb_bl r]
    exact .base (.bl _)
  | int _ =>
    rw [rpb_int r]
    exact .base (.int _)
  | str _ =>
    rw [rpb_str r]
    exact .base (.str _)
  | tup _ =>
    obtain ⟨a, xs, rfl, h, _⟩ := rpb_tup r
    rcases sqt_up w h with (h | ⟨o, h⟩) | ⟨o, its, n, h, hc, _⟩
    · exact .base (.tup h)
    · exact .fTuple h
    · exact .kTuple h hc
  | lst _ =>
    obtain ⟨a, xs, rfl, h, _⟩ := r
    exact .base (.lst h)
  | scr _ =>
    obtain ⟨a, rfl, h⟩ := rpb_scr r
    rcases w.sub.seq h with (h | ⟨o, h⟩) | ⟨o, its, n, h, hc, _⟩
    · exact .base (.lst h)
    · exact .base (.frz h)
    · exact .kList h hc
  | dic _ _ => cases hd
def isiO (T : String) (d : D) : Option D := if notDic d then some (.bl (isiD T d)) else none
def eIsi (T : String) (f : Fe) : Fe := fun env => (f env).bind (isiO T)
theorem ex_isi {T : String} {x2 : Str} {p2 : Pos} (k : kitOk T) (hg : Gl X "isinstance") (hm : X.mg "isinstance" = none) (ha : BX X e f) (hg2 : Gl X x2) (hm2 : X.mg x2 = none) (hv2 : bootBuiltins x2 = some (.type T)) (hn2 : x2 ≠ "__name__" := by decide) (hd2 : (x2 == ("__debug__" : Str)) = false := by decide)
    (h1 : starEach [e, .Name x2 p2] X.env = (false, eval e X.env) :: starEach [.Name x2 p2] X.env := by rfl) (hpl : (backTo pos (starEach [.Name x2 p2] X.env)).any (·.1) = false := by rfl) : EX X (.Call (.Name "isinstance" p) [e, .Name x2 p2] [] pos) (eIsi T f) :=
  pe_imp (pe_callB (call_isi (X := X)) hg hm boot_isinstance (pa_cons ha (pa_cons (pe_bltn (v := .ty T) hg2 hm2 hv2 rfl hn2 hd2) pa_nil (by rfl)) h1) (by decide) (by decide) h1 hpl) fun σ H Q q => by
    obtain ⟨H0, G0, G, env, d, S, e1, q⟩ := q
    obtain ⟨c, h1, e1⟩ := Option.bind_eq_some_iff.mp e1
    unfold isiO at e1
    split at e1
    rotate_left
    · cases e1
    rename_i hnd
    cases e1
    refine ⟨H0, G0, G, env, c, S, h1, fun v H1 G1 x1 r1 => ?_⟩
    exact ⟨v, .ty T, .type (tyD c), .type T, isiD T c, rfl, .ty T, rpb_ty x1.wf hnd r1, kit_ty (k _ (tyD_mem c)), q _ H1 G1 x1 (rp_bl _)⟩

/-! ### defs of the text -/
def spD (K : PySem.W.Frag) (run : List D → Option D) (n : Nat) : Sp := fun vs H Q _ => vs.length = n ∧ ∃ G ds d, Wf H G ∧ RpL K G ds vs ∧ run ds = some d ∧ ∀ v H' G', Ext H G H' G' → Rp K G' d v → Q v H'
mutual
def noMut : D → Bool
  | .non => true
  | .bl _ => true
  | .int _ => true
  | .str _ => true
  | .tup xs => noMutL xs
  | .lst _ => false
  | .dic _ _ => false
  | .scr _ => false
def noMutL : List D → Bool
  | [] => true
  | x :: xs => noMut x && noMutL xs
end
theorem noMut_tup (xs : List D) : noMut (.tup xs) = xs.all noMut := by
  have : ∀ ys : List D, noMutL ys = ys.all noMut := by
    intro ys
    induction ys with
    | nil => rfl
    | cons y ys ih => simp only [noMutL, List.all_cons, ih]
  simp only [noMut, this]
/-- G' cut back to what G held -/
def back (H G G' : Hp) : Hp := fun b => match H b with
  | some _ => G b
  | none => G' b
theorem back_ext {H G H' G' : Hp} (w : Wf H G) (x : Ext H H H' G') : Ext H G H' (back H G G') := by
  refine ⟨x.hh, fun b o e => ?_, ⟨fun b o e => ?_, fun b o e hh => ?_⟩, fun b o e => ?_⟩
  · unfold back
    rw [w.sub b o e]
    exact e
  · unfold back at e
    cases h : H b with
    | some u =>
      rw [h] at e
      exact x.hh _ _ (w.sub b o e)
    | none =>
      rw [h] at e
      exact x.wf.sub b o e
  · unfold back
    cases h : H b with
    | some u =>
      have := x.hh b u h
      rw [e] at this
      cases this
      exact w.tin b o h hh
    | none => exact x.wf.tin b o e hh
  · unfold back at e
    cases h : H b with
    | some u =>
      rw [h] at e
      exact .inl e
    | none => exact .inr rfl
theorem back_tup {H G H' G' : Hp} (w : Wf H G) (x : Ext H H H' G') {a : Addr} {xs : List V} (h : G' a = some (.tup xs)) : back H G G' a = some (.tup xs) := by
  have key : ∀ o : HO, Hid o = false → G' a = some o → back H G G' a = some o := fun o ho e => by
    unfold back
    cases h : H a with
    | some u =>
      have h1 := x.hh a u h
      rw [x.wf.sub a o e] at h1
      cases h1
      exact w.tin a o h ho
    | none => exact e
  exact key _ rfl h
mutual
theorem back_rp {K : PySem.W.Frag} {H G H' G' : Hp} (w : Wf H G) (x : Ext H H H' G') : ∀ (d : D) (v : V), noMut d = true → Rp K G' d v → Rp K (back H G G') d v
  | .non, _, _, h => by simp only [Rp] at h ⊢; exact h
  | .bl _, _, _, h => by simp only [Rp] at h ⊢; exact h
  | .int _, _, _, h => by simp only [Rp] at h ⊢; exact h
  | .str _, _, _, h => by simp only [Rp] at h ⊢; exact h
  | .tup ds, _, n, h => by
    simp only [Rp] at h ⊢
    obtain ⟨a, xs, e1, e2, e3⟩ := h
    exact ⟨a, xs, e1, back_tup w x e2, back_rpL w x ds xs (by simpa only [noMut] using n) e3⟩
  | .lst ds, _, n, h => by simp [noMut] at n
  | .dic t ds, _, n, h => by simp [noMut] at n
  | .scr _, _, n, h => by simp [noMut] at n
theorem back_rpL {K : PySem.W.Frag} {H G H' G' : Hp} (w : Wf H G) (x : Ext H H H' G') : ∀ (ds : List D) (xs : List V), noMutL ds = true → RpL K G' ds xs → RpL K (back H G G') ds xs
  | [], _, _, h => by simp only [RpL] at h ⊢; exact h
  | d :: ds, _, n, h => by
    simp only [RpL] at h ⊢
    simp only [noMutL, Bool.and_eq_true] at n
    obtain ⟨y, r, e1, e2, e3⟩ := h
    exact ⟨y, r, e1, back_rp w x d y n.1 e2, back_rpL w x ds r n.2 e3⟩
end
theorem RpBL.all {K : PySem.W.Frag} {H G : Hp} (w : Wf H G) : ∀ {ds : List D} {vs : List V}, ds.all notDic = true → RpBL K H G ds vs → RpL K H ds vs
  | [], _, _, h => by
    simp only [RpL]
    exact h
  | d :: ds, _, n, h => by
    rw [List.all_cons, Bool.and_eq_true] at n
    obtain ⟨y, r, rfl, e2, e3⟩ := h
    exact RpL.cons (e2.all w n.1) (RpBL.all w n.2 e3)
/-- f(e, ..): settled arguments -/
def eFn (run : List D → Option D) (fl : Fl) : Fe := fun env => (fl env).bind run
/-- .. where arguments may be lists that still change: what comes back has none -/
def eFnB (run : List D → Option D) (fl : Fl) : Fe := fun env => (fl env).bind fun ds => (run ds).bind fun d => if noMut d && ds.all notDic then some d else none
variable {k n : Nat} {g : Addr} {fd : FuncData} {ps : List Str} {run : List D → Option D} {x : Str}
theorem rpl_len {K : PySem.W.Frag} {G : Hp} {ds : List D} {vs : List V} (h : RpL K G ds vs) : ds.length = vs.length := h.len
theorem ex_fn (F : FnOk X.prog X.w X.K X.mg X.base CX0 k g fd ps (spD X.K run n)) (hn : ∀ ds d, run ds = some d → ds.length = n) (hr : Room k X.A) (hg : Gl X x) (hm : X.mg x = some (.ref g)) (hk : PySem.W.keepIn X.K (.ref g) = true) (hb : Binds X.K fd ps [])
    (ha : AX X (e :: es) fl) (hdb : (x == ("__debug__" : Str)) = false := by decide) (he : starEach (e :: es) X.env = (false, eval e X.env) :: starEach es X.env := by rfl) (hpl : (backTo pos (starEach es X.env)).any (·.1) = false := by rfl) :
    EX X (.Call (.Name x p) (e :: es) [] pos) (eFn run fl) := pe_imp (pe_call F hr hg hm hk hb .nil pass0 ha hdb he hpl) fun σ H Q q => by
  obtain ⟨H0, G0, G, env, d, S, e1, q⟩ := q
  obtain ⟨ds, h1, e1⟩ := Option.bind_eq_some_iff.mp e1
  refine ⟨H0, G0, G, env, ds, S, h1, fun vs H1 G1 x1 r1 => ?_⟩
  show spD X.K run n (vs ++ []) H1 Q E0
  rw [List.append_nil]
  exact ⟨by rw [← r1.len, hn ds d e1], G1, ds, d, x1.wf, r1, e1, fun v H2 G2 x2 r2 => q v H2 G2 (x1.trans x2) r2⟩
theorem ex_fnB (F : FnOk X.prog X.w X.K X.mg X.base CX0 k g fd ps (spD X.K run n)) (hn : ∀ ds d, run ds = some d → ds.length = n) (hr : Room k X.A) (hg : Gl X x) (hm : X.mg x = some (.ref g)) (hk : PySem.W.keepIn X.K (.ref g) = true) (hb : Binds X.K fd ps [])
    (ha : ABX X (e :: es) fl) (hdb : (x == ("__debug__" : Str)) = false := by decide) (he : starEach (e :: es) X.env = (false, eval e X.env) :: starEach es X.env := by rfl) (hpl : (backTo pos (starEach es X.env)).any (·.1) = false := by rfl) :
    EX X (.Call (.Name x p) (e :: es) [] pos) (eFnB run fl) := pe_imp (pe_call F hr hg hm hk hb .nil pass0 ha hdb he hpl) fun σ H Q q => by
  obtain ⟨H0, G0, G, env, d, S, e1, q⟩ := q
  obtain ⟨ds, h1, e1⟩ := Option.bind_eq_some_iff.mp e1
  obtain ⟨d', h2, e1⟩ := Option.bind_eq_some_iff.mp e1
  split at e1
  · rename_i hz
    cases e1
    rw [Bool.and_eq_true] at hz
    obtain ⟨hz, hnd⟩ := hz
    refine ⟨H0, G0, G, env, ds, S, h1, fun vs H1 G1 x1 r1 => ?_⟩
    show spD X.K run n (vs ++ []) H1 Q E0
    rw [List.append_nil]
    refine ⟨by rw [← (r1.all x1.wf hnd).len, hn ds d h2], H1, ds, d, ⟨Same.refl _, fun _ _ e _ => e⟩, r1.all x1.wf hnd, h2, fun v H2 G2 x2 r2 => ?_⟩
    exact q v H2 _ (x1.trans (back_ext x1.wf x2)) (back_rp x1.wf x2 d v hz r2)
  · cases e1
end
end PD

set_option Elab.async false
set_option linter.all false
set_option maxRecDepth 100000
namespace PD
open PySem PySem.Spec PyProof.Rows L2

/-! ### what is walked -/
def ItC (K : PySem.W.Frag) (J : It) (ds : List D) (H1 G1 : Hp) : Prop := ∀ (i : Nat) (H G : Hp), Same H1 H → Same G1 G → Wf H G →
  (ds.length ≤ i → J.stop i H) ∧ ∀ d, ds[i]? = some d → J.go i H ∧ ∀ x H', J.yld i H x H' → ∃ G', Ext H G H' G' ∧ Rp K G' d x
def ItL (K : PySem.W.Frag) (J : It) (ds : List D) (H1 G1 : Hp) : Prop := ∀ (i : Nat) (H G : Hp), Same G1 G → Wf H G →
  (ds.length ≤ i → J.stop i H) ∧ ∀ d, ds[i]? = some d → J.go i H ∧ ∀ x H', J.yld i H x H' → ∃ G', Ext H G H' G' ∧ Rp K G' d x
theorem ItL.c {K : PySem.W.Frag} {J : It} {ds : List D} {H1 G1 : Hp} (h : ItL K J ds H1 G1) : ItC K J ds H1 G1 := fun i H G _ s w => h i H G s w
def iC (K : PySem.W.Frag) (f : Fl) : TI := fun σ H R => ∃ H0 G0 G env ds, Ste K H0 G0 H G σ env ∧ f env = some ds ∧ ∀ J H' G', Ext H G H' G' → ItC K J ds H' G' → R J H'
def iL (K : PySem.W.Frag) (f : Fl) : TI := fun σ H R => ∃ H0 G0 G env ds, Ste K H0 G0 H G σ env ∧ f env = some ds ∧ ∀ J H' G', Ext H G H' G' → ItL K J ds H' G' → R J H'
abbrev ICX (X : Cx) (tg e : Expr) (f : Fl) : Prop := PI X tg e (iC X.K f)
abbrev ILX (X : Cx) (tg e : Expr) (f : Fl) : Prop := PI X tg e (iL X.K f)
theorem pi_imp {X : Cx} {tg e : Expr} {t t' : TI} (h : PI X tg e t) (i : ∀ σ H Q, t' σ H Q → t σ H Q) : PI X tg e t' := ⟨fun pins s σ H Q I q => h.run pins s σ H Q I (i σ H Q q)⟩
theorem ilx_c {X : Cx} {tg e : Expr} {f : Fl} (h : ILX X tg e f) : ICX X tg e f := pi_imp h fun σ H R q => by
  obtain ⟨H0, G0, G, env, ds, S, e1, q⟩ := q
  exact ⟨H0, G0, G, env, ds, S, e1, fun J H' G' x r => q J H' G' x r.c⟩
def iAny (K : PySem.W.Frag) (tl : TE) : TI := fun σ H R => tl σ H fun x H1 => (∃ a, x = .ref a ∧ (∃ xs, SqL K H1 a xs) ∧ R (Itl K a) H1) ∨ (∃ a, x = .ref a ∧ (∃ xs, SqT K H1 a xs) ∧ R (Itt K a) H1) ∨ ∃ z, x = .str z ∧ R (Its z) H1
theorem pi_any {X : Cx} {tg l : Expr} {tl : TE} (hl : PE X l tl) : PI X tg l (iAny X.K tl) := by
  refine ⟨fun pins s σ H R I h => ?_⟩
  refine thn (hl.run pins s σ H _ I h) fun v s1 ⟨x, H1, I1, r1, q1⟩ => ?_
  rcases q1 with ⟨a, e, hq⟩ | ⟨a, e, hq⟩ | ⟨z, e, hq⟩
  · have c : PE X l (fun σ H Q => False) := ⟨fun _ _ _ _ _ _ z => z.elim⟩
    subst e
    cases r1
    obtain ⟨⟨xs, hq⟩, q⟩ := hq
    obtain ⟨its, rv, p, hz⟩ := I1.list hq
    refine wpAny_pyIter_list p.isList ?_
    refine ⟨s1.heap.objs.size, [s1.heap.objs.size], _, _, H1, rfl, I1.kept (t' := s1.toks) fun b o e => Heap.get?_push_of_some _ e, turn_list a _, ⟨_, Heap.get?_push_size _ rfl, rfl, rfl⟩, fun b hb => ?_, q⟩
    have e : b = s1.heap.objs.size := by simpa using hb
    subst e
    exact I1.fpOk (Nat.le_refl _) (I1.hok.fresh (Nat.le_refl _))
  · subst e
    cases r1
    obtain ⟨⟨xs, hq⟩, q⟩ := hq
    obtain ⟨its, rv, p, hz⟩ := I1.tuple hq
    refine wpAny_pyIter_tuple (show s1.heap.IsTuple a its.toArray from p) ?_
    refine ⟨s1.heap.objs.size, [s1.heap.objs.size], _, _, H1, rfl, I1.kept (t' := s1.toks) fun b o e => Heap.get?_push_of_some _ e, turn_tuple a _, ⟨_, Heap.get?_push_size _ rfl, rfl, rfl⟩, fun b hb => ?_, q⟩
    have e : b = s1.heap.objs.size := by simpa using hb
    subst e
    exact I1.fpOk (Nat.le_refl _) (I1.hok.fresh (Nat.le_refl _))
  · subst e
    obtain ⟨t, rfl⟩ := r1
    cases ha : z.cps.all (· < 128)
    · exact wpAny_pyIter_wide ha (pi_one (tk := s1.toks) I1 _ (turn_str _ z t "str_iterator" (.inr rfl)) ⟨_, Heap.get?_push_size _ rfl, rfl, rfl⟩ hq)
    · exact wpAny_pyIter_ascii ha (pi_one (tk := s1.toks) I1 _ (turn_str _ z t "str_ascii_iterator" (.inl rfl)) ⟨_, Heap.get?_push_size _ rfl, rfl, rfl⟩ hq)
/-- what a sequence gives -/
def itemsD : D → Option (List D)
  | .lst xs => some xs
  | .tup xs => some xs
  | .scr ns => some (ns.map D.int)
  | .str z => some (z.cps.toList.map fun c => D.str ⟨#[c]⟩)
  | _ => none
def iSeq (f : Fe) : Fl := fun env => (f env).bind itemsD
section
variable {X : Cx} {tg e : Expr} {f : Fe} {fl : Fl} {pos p : Pos}
theorem itl_ok {K : PySem.W.Frag} {a : Addr} {xs : List V} {ds : List D} {H1 G1 : Hp} (h : ∀ H G : Hp, Same G1 G → Wf H G → Same H1 H → SqL K H a xs) (r : RpL K G1 ds xs) : ItC K (Itl K a) ds H1 G1 := fun i H G sh sg w => by
  have hs := h H G sg w sh
  refine ⟨fun hi => ⟨xs, hs, by rw [← r.len]; exact hi⟩, fun d hd => ?_⟩
  obtain ⟨x, hx, rx⟩ := r.at hd
  refine ⟨⟨xs, x, hs, hx⟩, fun y H' hy => ?_⟩
  obtain ⟨rfl, hy⟩ := hy
  have := hy xs hs
  rw [hx] at this
  cases this
  exact ⟨G, Ext.refl w, Rp.mono sg _ _ rx⟩
theorem itl_okL {K : PySem.W.Frag} {a : Addr} {xs : List V} {ds : List D} {H1 G1 : Hp} (h : ∀ H G : Hp, Same G1 G → Wf H G → SqL K H a xs) (r : RpL K G1 ds xs) : ItL K (Itl K a) ds H1 G1 := fun i H G sg w => by
  have hs := h H G sg w
  refine ⟨fun hi => ⟨xs, hs, by rw [← r.len]; exact hi⟩, fun d hd => ?_⟩
  obtain ⟨x, hx, rx⟩ := r.at hd
  refine ⟨⟨xs, x, hs, hx⟩, fun y H' hy => ?_⟩
  obtain ⟨rfl, hy⟩ := hy
  have := hy xs hs
  rw [hx] at this
  cases this
  exact ⟨G, Ext.refl w, Rp.mono sg _ _ rx⟩
theorem itt_okL {K : PySem.W.Frag} {a : Addr} {xs : List V} {ds : List D} {H1 G1 : Hp} (h : G1 a = some (.tup xs)) (r : RpL K G1 ds xs) : ItL K (Itt K a) ds H1 G1 := fun i H G sg w => by
  have hs := sqt_up (K := K) w (sg _ _ h)
  refine ⟨fun hi => ⟨xs, hs, by rw [← r.len]; exact hi⟩, fun d hd => ?_⟩
  obtain ⟨x, hx, rx⟩ := r.at hd
  refine ⟨⟨xs, x, hs, hx⟩, fun y H' hy => ?_⟩
  obtain ⟨rfl, hy⟩ := hy
  have := hy xs hs
  rw [hx] at this
  cases this
  exact ⟨G, Ext.refl w, Rp.mono sg _ _ rx⟩
theorem its_okL {K : PySem.W.Frag} {z : Str} {H1 G1 : Hp} : ItL K (Its z) (z.cps.toList.map fun c => D.str ⟨#[c]⟩) H1 G1 := fun i H G sg w => by
  refine ⟨fun hi => ?_, fun d hd => ?_⟩
  · rw [List.length_map, Array.length_toList] at hi
    exact hi
  · rw [List.getElem?_map] at hd
    obtain ⟨c, hc, rfl⟩ := Option.map_eq_some_iff.mp hd
    rw [Array.getElem?_toList] at hc
    refine ⟨(Array.getElem?_eq_some_iff.mp hc).1, fun y H' hy => ?_⟩
    obtain ⟨rfl, c', h1, rfl⟩ := hy
    rw [hc] at h1
    cases h1
    exact ⟨G, Ext.refl w, rp_str _⟩
theorem icx_seq (h : BX X e f) : ICX X tg e (iSeq f) := pi_imp (pi_any h) fun σ H R q => by
  obtain ⟨H0, G0, G, env, ds, S, e1, q⟩ := q
  obtain ⟨d, h1, e1⟩ := Option.bind_eq_some_iff.mp e1
  refine ⟨H0, G0, G, env, d, S, h1, fun v H1 G1 x1 r1 => ?_⟩
  cases d with
  | lst xs =>
    cases e1
    obtain ⟨a, xs, rfl, h2, h3⟩ := r1
    exact .inl ⟨a, rfl, ⟨xs, SqL.of h2⟩, q _ H1 G1 x1 (itl_ok (fun H G _ _ sh => SqL.of (sh _ _ h2)) h3)⟩
  | tup xs =>
    cases e1
    obtain ⟨a, xs, rfl, h2, h3⟩ := rpb_tup r1
    exact .inr (.inl ⟨a, rfl, ⟨xs, sqt_up x1.wf h2⟩, q _ H1 G1 x1 (itt_okL h2 h3).c⟩)
  | scr ns =>
    cases e1
    obtain ⟨a, rfl, h2⟩ := rpb_scr r1
    exact .inl ⟨a, rfl, ⟨_, x1.wf.sub.seq h2⟩, q _ H1 G1 x1 (itl_okL (fun H G sg w => w.sub.seq (sg.seq h2)) (RpL.of_ints ns)).c⟩
  | str z =>
    cases e1
    exact .inr (.inr ⟨z, rpb_str r1, q _ H1 G1 x1 its_okL.c⟩)
  | _ => cases e1
theorem ilx_seq (h : EX X e f) : ILX X tg e (iSeq f) := pi_imp (pi_any h) fun σ H R q => by
  obtain ⟨H0, G0, G, env, ds, S, e1, q⟩ := q
  obtain ⟨d, h1, e1⟩ := Option.bind_eq_some_iff.mp e1
  refine ⟨H0, G0, G, env, d, S, h1, fun v H1 G1 x1 r1 => ?_⟩
  cases d with
  | lst xs =>
    cases e1
    simp only [Rp] at r1
    obtain ⟨a, xs, rfl, h2, h3⟩ := r1
    exact .inl ⟨a, rfl, ⟨xs, SqL.of (x1.wf.sub _ _ h2)⟩, q _ H1 G1 x1 (itl_okL (fun H G sg w => SqL.of (w.sub _ _ (sg _ _ h2))) h3)⟩
  | tup xs =>
    cases e1
    simp only [Rp] at r1
    obtain ⟨a, xs, rfl, h2, h3⟩ := r1
    exact .inr (.inl ⟨a, rfl, ⟨xs, sqt_up x1.wf h2⟩, q _ H1 G1 x1 (itt_okL h2 h3)⟩)
  | scr ns =>
    cases e1
    simp only [Rp] at r1
    obtain ⟨a, rfl, h2⟩ := r1
    exact .inl ⟨a, rfl, ⟨_, x1.wf.sub.seq h2⟩, q _ H1 G1 x1 (itl_okL (fun H G sg w => w.sub.seq (sg.seq h2)) (RpL.of_ints ns))⟩
  | str z =>
    cases e1
    simp only [Rp] at r1
    exact .inr (.inr ⟨z, r1, q _ H1 G1 x1 its_okL⟩)
  | _ => cases e1

/-! ### ranges -/
def rngL (lo : Int) (n : Nat) : List D := (List.range n).map fun k => .int (lo + (k : Nat))
def rngOk (i : Int) : Bool := decide (-1000000000 ≤ i) && decide (i ≤ 1000000000)
theorem rngOk_b {i : Int} (h : rngOk i = true) : -(2 ^ 62) ≤ i ∧ i < 2 ^ 62 := by
  unfold rngOk at h
  simp only [Bool.and_eq_true, decide_eq_true_eq] at h
  omega
theorem itr_okL {K : PySem.W.Frag} {lo : Int} {n : Nat} {H1 G1 : Hp} : ItL K (Itr lo n) (rngL lo n) H1 G1 := fun i H G sg w => by
  unfold rngL
  refine ⟨fun hi => ?_, fun d hd => ?_⟩
  · rw [List.length_map, List.length_range] at hi
    exact hi
  · rw [List.getElem?_map] at hd
    obtain ⟨c, hc, rfl⟩ := Option.map_eq_some_iff.mp hd
    obtain ⟨hi, hc⟩ := List.getElem?_eq_some_iff.mp hc
    rw [List.getElem_range] at hc
    subst hc
    rw [List.length_range] at hi
    refine ⟨hi, fun y H' hy => ?_⟩
    obtain ⟨rfl, rfl⟩ := hy
    exact ⟨G, Ext.refl w, rp_int _⟩
def iRg1 (f : Fl) : Fl := fun env => match f env with
  | some [.int j] => if rngOk j then some (rngL 0 j.toNat) else none
  | _ => none
def iRg2 (f : Fl) : Fl := fun env => match f env with
  | some [.int i, .int j] => if rngOk i && rngOk j then some (rngL i (j - i).toNat) else none
  | _ => none
variable {a b c : Expr}
theorem ilx_rg1 (hg : Gl X "range") (hm : X.mg "range" = none) (ha : ABX X [a] fl) (hs : starEach [a] X.env = [(false, eval a X.env)] := by rfl) : ILX X tg (.Call (.Name "range" p) [a] [] pos) (iRg1 fl) := pi_imp (pi_range1 hg hm ha hs) fun σ H R q => by
  obtain ⟨H0, G0, G, env, ds, S, e1, q⟩ := q
  unfold iRg1 at e1
  split at e1
  · rename_i j hj
    split at e1
    · rename_i hz
      cases e1
      refine ⟨H0, G0, G, env, _, S, hj, fun vs H1 G1 x1 r1 => ?_⟩
      obtain ⟨v, rfl, r⟩ := rpbl1 r1
      exact ⟨j, by rw [rpb_int r], (rngOk_b hz).1, (rngOk_b hz).2, q _ H1 G1 x1 itr_okL⟩
    · cases e1
  · cases e1
theorem ilx_rg2 (hg : Gl X "range") (hm : X.mg "range" = none) (ha : ABX X [a, b] fl) (hs : starEach [a, b] X.env = [(false, eval a X.env), (false, eval b X.env)] := by rfl) (hs2 : starEach [b] X.env = [(false, eval b X.env)] := by rfl) : ILX X tg (.Call (.Name "range" p) [a, b] [] pos) (iRg2 fl) := pi_imp (pi_range2 hg hm ha hs hs2) fun σ H R q => by
  obtain ⟨H0, G0, G, env, ds, S, e1, q⟩ := q
  unfold iRg2 at e1
  split at e1
  · rename_i i j hj
    split at e1
    · rename_i hz
      rw [Bool.and_eq_true] at hz
      cases e1
      refine ⟨H0, G0, G, env, _, S, hj, fun vs H1 G1 x1 r1 => ?_⟩
      obtain ⟨v, u, rfl, r, r'⟩ := rpbl2 r1
      exact ⟨i, j, by rw [rpb_int r, rpb_int r'], ⟨(rngOk_b hz.1).1, (rngOk_b hz.1).2, (rngOk_b hz.2).1, (rngOk_b hz.2).2⟩, q _ H1 G1 x1 itr_okL⟩
    · cases e1
  · cases e1

/-! ### targets -/
abbrev Ft := D → List Sl → Option (List Sl)
abbrev Fts := List D → List Sl → Option (List Sl)
def out (S : List Nat) (σ σ' : L2.St) : Prop := σ'.length = σ.length ∧ ∀ i, i ∉ S → σ'[i]? = σ[i]?
def tG (K : PySem.W.Frag) (f : Ft) (S : List Nat) : TG := fun v σ H Q => ∃ H0 G0 G env d env', Ste K H0 G0 H G σ env ∧ Rp K G d v ∧ f d env = some env' ∧ ∀ σ', Ste K H0 G0 H G σ' env' → out S σ σ' → Q σ' H
def tGs (K : PySem.W.Frag) (f : Fts) (S : List Nat) : TGs := fun vs σ H Q => ∃ H0 G0 G env ds env', Ste K H0 G0 H G σ env ∧ RpL K G ds vs ∧ f ds env = some env' ∧ ∀ σ', Ste K H0 G0 H G σ' env' → out S σ σ' → Q σ' H
abbrev GX (X : Cx) (tg : Expr) (f : Ft) (S : List Nat) : Prop := PG X tg (tG X.K f S)
abbrev GsX (X : Cx) (tg : List Expr) (f : Fts) (S : List Nat) : Prop := PGs X tg (tGs X.K f S)
theorem pg_imp {tg : Expr} {t t' : TG} (h : PG X tg t) (i : ∀ v σ H Q, t' v σ H Q → t v σ H Q) : PG X tg t' := ⟨fun pins s σ H v u Q I r q => h.run pins s σ H v u Q I r (i v σ H Q q)⟩
theorem pgs_imp {tg : List Expr} {t t' : TGs} (h : PGs X tg t) (i : ∀ v σ H Q, t' v σ H Q → t v σ H Q) : PGs X tg t' := ⟨fun pins s σ H v u Q I r q => h.run pins s σ H v u Q I r (i v σ H Q q)⟩
def gNm (i : Nat) : Ft := fun d env => some (env.set i (.val d))
def gTp (f : Fts) : Ft := fun d env => match d with
  | .tup xs => f xs env
  | _ => none
def gsNil : Fts := fun ds env => match ds with
  | [] => some env
  | _ => none
def gsCons (f : Ft) (g : Fts) : Fts := fun ds env => match ds with
  | d :: r => (f d env).bind fun env' => g r env'
  | _ => none
theorem gx_nm {i : Nat} {x : Str} (hN : X.N.Nodup) (hi : X.N[i]? = some x) (hx : Loc X.env.scope x) (hf : X.fn x = true ∨ X.env.scope.names.lookup x = some .local := by first | exact .inl rfl | exact .inr rfl | assumption) : GX X (.Name x pos) (gNm i) [i] :=
  pg_imp (pg_name hN hi hx hf) fun v σ H Q q => by
    obtain ⟨H0, G0, G, env, d, env', S, r, e, q⟩ := q
    cases e
    refine q _ (S.setV i rfl ⟨v, rfl, r⟩) ⟨by simp, fun j hj => ?_⟩
    rw [List.getElem?_set_ne]
    intro z
    subst z
    simp at hj
theorem gsx_nil : GsX X [] gsNil [] := pgs_imp pgs_nil fun vs σ H Q q => by
  obtain ⟨H0, G0, G, env, ds, env', S, r, e, q⟩ := q
  cases ds with
  | nil =>
    cases e
    simp only [RpL] at r
    exact ⟨r, q σ S ⟨rfl, fun _ _ => rfl⟩⟩
  | cons _ _ => cases e
theorem gsx_cons {e : Expr} {es : List Expr} {f : Ft} {g : Fts} {S1 S2 : List Nat} (h1 : GX X e f S1) (h2 : GsX X es g S2) (hs : (assignEach (e :: es) X.env).map (·.2) = assign e X.env :: (assignEach es X.env).map (·.2) := by rfl) : GsX X (e :: es) (gsCons f g) (S1 ++ S2) :=
  pgs_imp (pgs_cons h1 h2 hs) fun vs σ H Q q => by
    obtain ⟨H0, G0, G, env, ds, env', S, r, e, q⟩ := q
    cases ds with
    | nil => cases e
    | cons d ds =>
      obtain ⟨env1, h3, h4⟩ := Option.bind_eq_some_iff.mp e
      simp only [RpL] at r
      obtain ⟨x, xr, rfl, r1, r2⟩ := r
      refine ⟨x, xr, rfl, H0, G0, G, env, d, env1, S, r1, h3, fun σ1 T1 o1 => ⟨H0, G0, G, env1, ds, env', T1, r2, h4, fun σ2 T2 o2 => q σ2 T2 ⟨o2.1.trans o1.1, fun i hi => ?_⟩⟩⟩
      rw [List.mem_append, not_or] at hi
      exact (o2.2 i hi.2).trans (o1.2 i hi.1)
theorem gx_tp {es : List Expr} {k : Nat} {f : Fts} {S : List Nat} {n : Nat} (hc : X.calm = true) (h : GsX X es f S) (hl : ∀ ds env env', f ds env = some env' → ds.length = n)
    (hn : (assignEach es X.env).length = n := by rfl) (hst : (assignEach es X.env).findIdx? (·.1) = none := by rfl) : GX X (.Tuple es k pos) (gTp f) S := pg_imp (pg_tup hc h hn hst) fun v σ H Q q => by
  obtain ⟨H0, G0, G, env, d, env', S', r, e, q⟩ := q
  cases d with
  | tup ds =>
    simp only [Rp] at r
    obtain ⟨a, xs, rfl, r1, r2⟩ := r
    have e' : f ds env = some env' := e
    exact ⟨a, xs, rfl, sqt_up S'.wf r1, by rw [← r2.len]; exact hl _ _ _ e', H0, G0, G, env, ds, env', S', r2, e', q⟩
  | _ => cases e
theorem gsl_nil : ∀ ds env env', gsNil ds env = some env' → ds.length = 0 := fun ds env env' h => by
  cases ds with
  | nil => rfl
  | cons _ _ => cases h
theorem gsl_cons {f : Ft} {g : Fts} {n : Nat} (h : ∀ ds env env', g ds env = some env' → ds.length = n) : ∀ ds env env', gsCons f g ds env = some env' → ds.length = n + 1 := fun ds env env' e => by
  cases ds with
  | nil => cases e
  | cons d ds =>
    obtain ⟨env1, h3, h4⟩ := Option.bind_eq_some_iff.mp e
    rw [List.length_cons, h _ _ _ h4]

/-! ### a new list -/
def tF (K : PySem.W.Frag) (f : Fl) : TE := fun σ H Q => ∃ H0 G0 G env ds, Ste K H0 G0 H G σ env ∧ f env = some ds ∧ ∀ p xs H' G', Ext H G H' G' → H p = none → H' p = some (.lst xs) → G' p = none → RpL K G' ds xs → Q (.ref p) H'
abbrev FX (X : Cx) (e : Expr) (f : Fl) : Prop := PE X e (tF X.K f)
def asL (f : Fl) : Fe := fun env => (f env).map .lst
/-- a list that still changed is settled -/
theorem Ext.settle {H G : Hp} (w : Wf H G) {H0 : Hp} {p : Addr} {xs : List V} (h : H p = some (.lst xs)) : Wf H (upd G p (.lst xs)) := by
  refine ⟨fun b o e => ?_, fun b o e hh => ?_⟩
  · by_cases hb : b = p
    · subst hb
      rw [upd_same] at e
      rw [h]
      exact e
    · rw [upd_ne hb] at e
      exact w.sub b o e
  · by_cases hb : b = p
    · subst hb
      rw [h] at e
      cases e
      cases hh
    · rw [upd_ne hb]
      exact w.tin b o e hh
theorem settle_ext {H G H' G' : Hp} (x : Ext H G H' G') {p : Addr} {xs : List V} (h : H' p = some (.lst xs)) (n : H p = none) (g : G' p = none) : Ext H G H' (upd G' p (.lst xs)) := by
  refine ⟨x.hh, fun b o e => ?_, Ext.settle (H0 := H) x.wf h, fun b o e => ?_⟩
  · have hb : b ≠ p := fun z => by
      subst z
      have z := x.gg _ _ e
      rw [g] at z
      cases z
    rw [upd_ne hb]
    exact x.gg b o e
  · by_cases hb : b = p
    · subst hb
      exact .inr n
    · rw [upd_ne hb] at e
      exact x.new b o e
theorem tF_D {K : PySem.W.Frag} {fl : Fl} {σ : L2.St} {H : Hp} {Q : VK} (q : tD K (asL fl) σ H Q) : tF K fl σ H Q := by
  obtain ⟨H0, G0, G, env, d, S, e1, q⟩ := q
  obtain ⟨ds, h1, rfl⟩ := Option.map_eq_some_iff.mp e1
  refine ⟨H0, G0, G, env, ds, S, h1, fun p xs H1 G1 x1 hn hp hg r => ?_⟩
  refine q _ H1 _ (settle_ext x1 hp hn hg) ?_
  simp only [Rp]
  exact ⟨p, xs, rfl, upd_same, RpL.mono (same_updN hg) _ _ r⟩
theorem ex_f (h : FX X e fl) : EX X e (asL fl) := pe_imp h fun _ _ _ q => tF_D q
/-- from HandS's «a list at any new place» -/
theorem tF_new {K : PySem.W.Frag} {H G : Hp} {ds : List D} {xs : List V} {Q : VK} (w : Wf H G) (r : RpL K G ds xs) (q : ∀ p xs H' G', Ext H G H' G' → H p = none → H' p = some (.lst xs) → G' p = none → RpL K G' ds xs → Q (.ref p) H') : ∀ p, H p = none → Q (.ref p) (upd H p (.lst xs)) :=
  fun p hp => q p xs _ G (Ext.fresh w hp rfl) hp upd_same (wf_none w hp) r
theorem fx_lst {es : List Expr} (h : AX X es fl) : FX X (.List es pos) (fun env => (fl env).bind fun ds => if lim ds.length then some ds else none) :=
  pe_imp (pe_lst h) fun σ H Q q => by
    obtain ⟨H0, G0, G, env, d, S, e1, q⟩ := q
    obtain ⟨ds, h1, e1⟩ := Option.bind_eq_some_iff.mp e1
    split at e1
    · rename_i hz
      cases e1
      exact ⟨H0, G0, G, env, _, S, h1, fun vs H1 G1 x1 r1 => ⟨by rw [← r1.len]; exact lim_le hz, tF_new x1.wf r1 fun p xs H2 G2 x2 n2 h2 g2 r2 => q p xs H2 G2 (x1.trans x2) (x1.hh.free n2) h2 g2 r2⟩⟩
    · cases e1

/-! ### comprehensions -/
def wipeE (env : List Sl) : List Nat → List Sl
  | [] => env
  | v :: vs => (wipeE env vs).set v .un
theorem Ste.wipe {K : PySem.W.Frag} {H0 G0 H G : Hp} {σ : L2.St} {env : List Sl} (S : Ste K H0 G0 H G σ env) : ∀ vs : List Nat, Ste K H0 G0 H G (L2.wipe σ vs) (wipeE env vs)
  | [] => S
  | v :: vs => (Ste.wipe S vs).setV v rfl trivial
def compL (t : Ft) (c : Fb) (y : Fe) (env : List Sl) : List D → Option (List D)
  | [] => some []
  | x :: xs => (t x env).bind fun env1 => (c env1).bind fun k => if k then (y env1).bind fun d => (compL t c y env xs).map (d :: ·) else compL t c y env xs
def fLc (own : List Nat) (it : Fl) (t : Ft) (c : Fb) (y : Fe) : Fl := fun env => (it env).bind fun xs => if lim xs.length then compL t c y (wipeE env own) xs else none
def tYesF : Fb := fun _ => some true
theorem out_wipe {σ σ' : L2.St} {S vs : List Nat} (h : out S (L2.wipe σ vs) σ') (hs : ∀ i ∈ S, i ∈ vs) : L2.wipe σ' vs = L2.wipe σ vs := by
  have key : ∀ (τ : L2.St) (ws : List Nat) (i : Nat), i < τ.length → (L2.wipe τ ws)[i]? = if i ∈ ws then some none else τ[i]? := by
    intro τ ws
    induction ws with
    | nil => intro i hi; simp [L2.wipe]
    | cons v ws ih =>
      intro i hi
      unfold L2.wipe
      by_cases hv : v = i
      · subst hv
        rw [List.getElem?_set_self (by rw [wipe_length]; exact hi)]
        simp
      · rw [List.getElem?_set_ne hv, ih i hi]
        simp only [List.mem_cons, (show ¬ i = v from fun e => hv e.symm), false_or]
  apply List.ext_getElem?
  intro i
  have hl : σ'.length = σ.length := by rw [h.1, wipe_length]
  by_cases hi : i < σ.length
  · rw [key σ' vs i (by omega), key σ vs i hi]
    by_cases hm : i ∈ vs
    · simp [hm]
    · rw [if_neg hm, if_neg hm]
      have := h.2 i (fun z => hm (hs i z))
      rw [key σ vs i hi, if_neg hm] at this
      exact this
  · rw [List.getElem?_eq_none (by rw [wipe_length]; omega), List.getElem?_eq_none (by rw [wipe_length]; omega)]
/-- the new list grows -/
theorem Ext.grow {H1 G1 H G : Hp} (x : Ext H1 G1 H G) {p : Addr} {xs : List V} (n : H1 p = none) (g : G p = none) : Ext H1 G1 (upd H p (.lst xs)) G := by
  refine ⟨fun b o e => ?_, x.gg, ⟨fun b o e => ?_, fun b o e hh => ?_⟩, x.new⟩
  · rw [upd_ne (ne_of_none e n)]
    exact x.hh b o e
  · rw [upd_ne (ne_of_none e g)]
    exact x.wf.sub b o e
  · by_cases hb : b = p
    · subst hb
      rw [upd_same] at e
      cases e
      cases hh
    · rw [upd_ne hb] at e
      exact x.wf.tin b o e hh
theorem tLc_of {K : PySem.W.Frag} {it : Fl} {t : Ft} {Sg : List Nat} {ct : Fb} {y : Fe} {vs : List Nat} (hsub : ∀ i ∈ Sg, i ∈ vs) {σ : L2.St} {H : Hp} {Q : VK} (q : tF K (fLc vs it t ct y) σ H Q) : tLc (iC K it) (tG K t Sg) (tT K ct) (tD K y) vs σ H Q := by
  obtain ⟨H0, G0, G, env, ds, S, e1, q⟩ := q
  obtain ⟨xs, h1, e1⟩ := Option.bind_eq_some_iff.mp e1
  split at e1
  · rename_i hz
    refine ⟨H0, G0, G, env, xs, S, h1, fun J H1 G1 x1 hJ Dd hD => ?_⟩
    have S1 := S.ext x1
    have hz' := lim_le hz
    refine ⟨fun i m H2 => m = xs.length - i ∧ i ≤ xs.length ∧ ∃ G2 acc ds1 ds2, Ext H1 G1 H2 G2 ∧ H2 Dd = some (.lst acc) ∧ G2 Dd = none ∧ RpL K G2 ds1 acc ∧ ds1.length ≤ i ∧ compL t ct y (wipeE env vs) (xs.drop i) = some ds2 ∧ ds = ds1 ++ ds2,
      ⟨xs.length, by omega, Nat.zero_le _, G1, [], [], ds, Ext.fresh x1.wf hD rfl, upd_same, wf_none x1.wf hD, RpL.nil, Nat.le_refl _, e1, rfl⟩, ?_⟩
    rintro i m H2 ⟨rfl, hi, G2, acc, ds1, ds2, x2, hD2, gD2, r2, hl2, hc2, rfl⟩
    have hj := hJ i H2 G2 x2.hh x2.gg x2.wf
    by_cases hlt : i < xs.length
    · have hx : xs[i]? = some xs[i] := List.getElem?_eq_getElem hlt
      obtain ⟨go, hy⟩ := hj.2 _ hx
      rw [List.drop_eq_getElem_cons hlt] at hc2
      obtain ⟨env1, h3, h4⟩ := Option.bind_eq_some_iff.mp (show (t xs[i] (wipeE env vs)).bind _ = some ds2 from hc2)
      obtain ⟨k, h5, h6⟩ := Option.bind_eq_some_iff.mp h4
      refine .inr ⟨go, fun H3 => ∃ m', m' < xs.length - i ∧ (m' = xs.length - (i + 1) ∧ i + 1 ≤ xs.length ∧ ∃ G2 acc ds1' ds2', Ext H1 G1 H3 G2 ∧ H3 Dd = some (.lst acc) ∧ G2 Dd = none ∧ RpL K G2 ds1' acc ∧ ds1'.length ≤ i + 1 ∧ compL t ct y (wipeE env vs) (xs.drop (i + 1)) = some ds2' ∧ ds1 ++ ds2 = ds1' ++ ds2'), fun H3 h => h, fun x H3 hyld => ?_⟩
      obtain ⟨G3, x3, r3⟩ := hy x H3 hyld
      have S3 : Ste K H0 G0 H3 G3 (L2.wipe σ vs) (wipeE env vs) := ((S1.ext x2).ext x3).wipe vs
      refine ⟨H0, G0, G3, _, _, env1, S3, r3, h3, fun σ4 S4 o4 => ⟨out_wipe o4 hsub, H0, G0, G3, env1, k, S4, h5, fun H5 G5 x5 => ?_⟩⟩
      have x35 := x3.trans x5
      cases k with
      | true =>
        obtain ⟨d, h7, h8⟩ := Option.bind_eq_some_iff.mp (show (y env1).bind _ = some ds2 from h6)
        obtain ⟨ds3, h9, rfl⟩ := Option.map_eq_some_iff.mp h8
        refine ⟨H0, G0, G5, env1, d, S4.ext x5, h7, fun v H6 G6 x6 r6 => ?_⟩
        have x26 := x35.trans x6
        have hD6 := x26.hh _ _ hD2
        have gD6 := ext_none x26 hD2 gD2
        have hl : acc.length ≤ i := by rw [← r2.len]; exact hl2
        refine ⟨acc, hD6, by omega, xs.length - (i + 1), by omega, rfl, hlt, G6, acc ++ [v], ds1 ++ [d], ds3, (x2.trans x26).grow hD gD6, upd_same, gD6, (RpL.mono x26.gg _ _ r2).snoc r6, ?_, h9, ?_⟩
        · rw [List.length_append, List.length_singleton]
          omega
        · rw [List.append_assoc]
          rfl
      | false =>
        have x25 := x35
        exact ⟨xs.length - (i + 1), by omega, rfl, hlt, G5, acc, ds1, ds2, x2.trans x25, x25.hh _ _ hD2, ext_none x25 hD2 gD2, RpL.mono x25.gg _ _ r2, by omega, h6, rfl⟩
    · have e : i = xs.length := by omega
      subst e
      rw [List.drop_length] at hc2
      cases hc2
      rw [List.append_nil] at q
      exact .inl ⟨hj.1 (Nat.le_refl _), q Dd acc H2 G2 (x1.trans x2) (x1.hh.free hD) hD2 gD2 r2⟩
  · cases e1
variable {elt iter : Expr} {ifs : List Expr} {scope : Scope} {own : List (Str × Nat)} {it : Fl} {t : Ft} {Sg : List Nat} {ct : Fb} {y : Fe}
theorem fx_lc (hc : X.calm = true) (hN : X.N.Nodup) (hi : ICX X tg iter it) (ok : BlkOk X.N X.env.scope scope own) (hsub : ∀ i ∈ Sg, i ∈ own.map (·.2))
    (hg : ∀ (s : Shared) (H : Hp) (C : Addr) (cl : List (Str × Addr)) (fp : List Addr), GX (X.blk s H scope (compEnvC scope cl C X.env) fp) tg t Sg) (ht : ∀ (s : Shared) (H : Hp) (C : Addr) (cl : List (Str × Addr)) (fp : List Addr), PTs (X.blk s H scope (compEnvC scope cl C X.env) fp) ifs (tT X.K ct))
    (he : ∀ (s : Shared) (H : Hp) (C : Addr) (cl : List (Str × Addr)) (fp : List Addr), EX (X.blk s H scope (compEnvC scope cl C X.env) fp) elt y) (hs : ∀ x, foldedSetIterable iter X.env x = pure x := by intro _; rfl) :
    FX X (.ListComp elt [⟨tg, iter, ifs, 0⟩] scope pos) (fLc (own.map (·.2)) it t ct y) :=
  pe_imp (pe_lc hc hN hi ok hg ht he hs) fun _ _ _ q => tLc_of hsub q
theorem pts_no : PTs X [] (tT X.K tYesF) := ⟨fun pins s σ H Q I hw => pts_nil.run pins s σ H Q I (by
  obtain ⟨H0, G0, G, env, b, S, e, q⟩ := hw
  cases e
  exact q H G (Ext.refl S.wf))⟩
theorem pts_if {c : Expr} {ct : Fb} (h : TX X c ct) : PTs X [c] (tT X.K ct) := pts_one h

/-! ### statements -/
inductive Out where
  | nx (e : List Sl) | rt (d : D) | bk (e : List Sl) | ct (e : List Sl)
abbrev Cmd := List Sl → Option Out
def OutOk (K : PySem.W.Frag) (H0 G0 : Hp) (E : Ends) : Out → Prop
  | .nx e => ∀ σ H G, Ste K H0 G0 H G σ e → E.nx σ H
  | .rt d => ∀ v H G, Ext H0 G0 H G → Rp K G d v → E.rt v H
  | .bk e => ∀ σ H G, Ste K H0 G0 H G σ e → E.bk σ H
  | .ct e => ∀ σ H G, Ste K H0 G0 H G σ e → E.ct σ H
def tS (K : PySem.W.Frag) (c : Cmd) : TS := fun E σ H => ∃ H0 G0 G env o, Ste K H0 G0 H G σ env ∧ c env = some o ∧ OutOk K H0 G0 E o
abbrev SX (X : Cx) (st : Stmt) (c : Cmd) : Prop := PS X st (tS X.K c)
abbrev SsX (X : Cx) (st : List Stmt) (c : Cmd) : Prop := PSs X st (tS X.K c)
theorem ps_imp {st : Stmt} {t t' : TS} (h : PS X st t) (i : ∀ E σ H, t' E σ H → t E σ H) : PS X st t' := ⟨fun pins s σ H E I q => h.run pins s σ H E I (i E σ H q)⟩
theorem pss_imp {st : List Stmt} {t t' : TS} (h : PSs X st t) (i : ∀ E σ H, t' E σ H → t E σ H) : PSs X st t' := ⟨fun pins s σ H E I q => h.run pins s σ H E I (i E σ H q)⟩
def sNop : Cmd := fun env => some (.nx env)
def sSeq (a b : Cmd) : Cmd := fun env => match a env with
  | some (.nx e) => b e
  | r => r
variable {st : Stmt} {rest : List Stmt} {ca cb : Cmd}
theorem ssx_nil : SsX X [] sNop := pss_imp pss_nil fun E σ H q => by
  obtain ⟨H0, G0, G, env, o, S, e, q⟩ := q
  cases e
  exact q σ H G S
theorem ssx_cons (h1 : SX X st ca) (h2 : SsX X rest cb) : SsX X (st :: rest) (sSeq ca cb) := pss_imp (pss_cons h1 h2) fun E σ H q => by
  obtain ⟨H0, G0, G, env, o, S, e, q⟩ := q
  unfold sSeq at e
  cases ha : ca env with
  | none => rw [ha] at e; cases e
  | some o1 =>
    rw [ha] at e
    refine ⟨H0, G0, G, env, o1, S, ha, ?_⟩
    cases o1 with
    | nx e1 => exact fun σ1 H1 G1 S1 => ⟨H0, G0, G1, e1, o, S1, e, q⟩
    | rt d =>
      cases e
      exact q
    | bk e1 =>
      cases e
      exact q
    | ct e1 =>
      cases e
      exact q
theorem ssx_one (h1 : SX X st ca) : SsX X [st] ca := pss_one h1
theorem sx_pass : SX X (.Pass pos) sNop := ps_imp ps_pass fun E σ H q => by
  obtain ⟨H0, G0, G, env, o, S, e, q⟩ := q
  cases e
  exact q σ H G S
def sBreak : Cmd := fun env => some (.bk env)
def sCont : Cmd := fun env => some (.ct env)
theorem sx_break : SX X (.Break pos) sBreak := ps_imp ps_break fun E σ H q => by
  obtain ⟨H0, G0, G, env, o, S, e, q⟩ := q
  cases e
  exact q σ H G S
theorem sx_cont : SX X (.Continue pos) sCont := ps_imp ps_continue fun E σ H q => by
  obtain ⟨H0, G0, G, env, o, S, e, q⟩ := q
  cases e
  exact q σ H G S
def sRet (f : Fe) : Cmd := fun env => (f env).map Out.rt
theorem sx_ret (h : EX X e f) : SX X (.Return (some e) pos) (sRet f) := ps_imp (ps_ret h) fun E σ H q => by
  obtain ⟨H0, G0, G, env, o, S, e, q⟩ := q
  obtain ⟨d, h1, rfl⟩ := Option.map_eq_some_iff.mp e
  exact ⟨H0, G0, G, env, d, S, h1, fun v H1 G1 x1 r1 => q v H1 G1 (S.x0.trans x1) r1⟩
def sIf (c : Fb) (a b : Cmd) : Cmd := fun env => (c env).bind fun k => if k then a env else b env
theorem sx_if {c : Expr} {a b : List Stmt} {fc : Fb} (hc : TX X c fc) (ha : SsX X a ca) (hb : SsX X b cb) : SX X (.If c a b pos) (sIf fc ca cb) := ps_imp (ps_if hc ha hb) fun E σ H q => by
  obtain ⟨H0, G0, G, env, o, S, e, q⟩ := q
  obtain ⟨k, h1, e⟩ := Option.bind_eq_some_iff.mp e
  refine ⟨H0, G0, G, env, k, S, h1, fun H1 G1 x1 => ?_⟩
  cases k with
  | true => exact ⟨H0, G0, G1, env, o, S.ext x1, e, q⟩
  | false => exact ⟨H0, G0, G1, env, o, S.ext x1, e, q⟩
/-- name = e -/
def sSet (i : Nat) (f : Fe) : Cmd := fun env => (f env).map fun d => Out.nx (env.set i (.val d))
theorem tAsg_set {i : Nat} {te : TE} {K : PySem.W.Frag} {E : Ends} {σ : L2.St} {H : Hp} (ht : ∀ Q, tD K f σ H Q → te σ H Q) (q : tS K (sSet i f) E σ H) : tAsg te (gName i) E σ H := by
  obtain ⟨H0, G0, G, env, o, S, e, q⟩ := q
  obtain ⟨d, h1, rfl⟩ := Option.map_eq_some_iff.mp e
  exact ht _ ⟨H0, G0, G, env, d, S, h1, fun v H1 G1 x1 r1 => q _ H1 G1 ((S.ext x1).setV i rfl ⟨v, rfl, r1⟩)⟩
theorem sx_set {i : Nat} {x : Str} {pos' : Pos} (hN : X.N.Nodup) (hi : X.N[i]? = some x) (hx : Loc X.env.scope x) (he : EX X e f) (hs : swapsWith e (some (.Name x pos')) pos.line X.env = pure false := by rfl) (hf : X.fn x = true ∨ X.env.scope.names.lookup x = some .local := by first | exact .inl rfl | exact .inr rfl | assumption) :
    SX X (.Assign [.Name x pos'] e pos) (sSet i f) := ps_imp (ps_set hN hi hx he hs hf) fun E σ H q => tAsg_set (fun _ q => q) q
/-- name = a new list, which may be changed later -/
def sSetO (i : Nat) (f : Fl) : Cmd := fun env => (f env).map fun ds => Out.nx (env.set i (.own ds))
theorem tAsg_setO {i : Nat} {te : TE} {K : PySem.W.Frag} {E : Ends} {σ : L2.St} {H : Hp} (ht : ∀ Q, tF K fl σ H Q → te σ H Q) (q : tS K (sSetO i fl) E σ H) : tAsg te (gName i) E σ H := by
  obtain ⟨H0, G0, G, env, o, S, e, q⟩ := q
  obtain ⟨ds, h1, rfl⟩ := Option.map_eq_some_iff.mp e
  refine ht _ ⟨H0, G0, G, env, ds, S, h1, fun p xs H1 G1 x1 hn hp hg r1 => ?_⟩
  refine q _ H1 G1 ((S.ext x1).setO i ⟨p, xs, rfl, hp, hg, S.x0.hh.free hn, r1⟩ fun j s hj ej ho ev => ?_)
  obtain ⟨v, h2, h3⟩ := S.at ej
  rw [ev] at h2
  cases h2
  cases s with
  | own es =>
    obtain ⟨a, ys, h4, h5, _⟩ := h3
    cases h4
    rw [hn] at h5
    cases h5
  | ownD t es =>
    obtain ⟨a, h4, _, _, h5⟩ := h3
    cases h4
    rcases h5 with ⟨ht, ks, h5, _⟩ | ⟨ht, ks, h5, _⟩ <;> (rw [hn] at h5; cases h5)
  | un => cases ho
  | val _ => cases ho
theorem sx_setO {i : Nat} {x : Str} {pos' : Pos} (hN : X.N.Nodup) (hi : X.N[i]? = some x) (hx : Loc X.env.scope x) (he : FX X e fl) (hs : swapsWith e (some (.Name x pos')) pos.line X.env = pure false := by rfl) (hf : X.fn x = true ∨ X.env.scope.names.lookup x = some .local := by first | exact .inl rfl | exact .inr rfl | assumption) :
    SX X (.Assign [.Name x pos'] e pos) (sSetO i fl) := ps_imp (ps_set hN hi hx he hs hf) fun E σ H q => tAsg_setO (fun _ q => q) q
/-- name = [.. for ..] -/
theorem sx_setLc {i : Nat} {z : Str} {py spos : Pos} (hc : X.calm = true) (hN : X.N.Nodup) (hz : X.N[i]? = some z) (hzl : X.env.scope.names.lookup z = some .local)
    (hsw : swapsWith (.ListComp elt [⟨tg, iter, ifs, 0⟩] scope pos) (some (.Name z py)) spos.line X.env = pure true) (hi : ICX X tg iter it) (ok : BlkOk X.N X.env.scope scope own) (hsub : ∀ i ∈ Sg, i ∈ own.map (·.2))
    (hg : ∀ (s : Shared) (H : Hp) (C : Addr) (cl : List (Str × Addr)) (fp : List Addr), GX (X.blk s H scope (compEnvC scope cl C X.env) fp) tg t Sg) (ht : ∀ (s : Shared) (H : Hp) (C : Addr) (cl : List (Str × Addr)) (fp : List Addr), PTs (X.blk s H scope (compEnvC scope cl C X.env) fp) ifs (tT X.K ct))
    (he : ∀ (s : Shared) (H : Hp) (C : Addr) (cl : List (Str × Addr)) (fp : List Addr), EX (X.blk s H scope (compEnvC scope cl C X.env) fp) elt y) (hs : ∀ x, foldedSetIterable iter X.env x = pure x := by intro _; rfl) :
    SX X (.Assign [.Name z py] (.ListComp elt [⟨tg, iter, ifs, 0⟩] scope pos) spos) (sSet i (asL (fLc (own.map (·.2)) it t ct y))) :=
  ps_imp (ps_setLc hc hN hz hzl hsw hi ok hg ht he hs) fun E σ H q => tAsg_set (fun _ q => tLc_of hsub (tF_D q)) q
theorem sx_setLcO {i : Nat} {z : Str} {py spos : Pos} (hc : X.calm = true) (hN : X.N.Nodup) (hz : X.N[i]? = some z) (hzl : X.env.scope.names.lookup z = some .local)
    (hsw : swapsWith (.ListComp elt [⟨tg, iter, ifs, 0⟩] scope pos) (some (.Name z py)) spos.line X.env = pure true) (hi : ICX X tg iter it) (ok : BlkOk X.N X.env.scope scope own) (hsub : ∀ i ∈ Sg, i ∈ own.map (·.2))
    (hg : ∀ (s : Shared) (H : Hp) (C : Addr) (cl : List (Str × Addr)) (fp : List Addr), GX (X.blk s H scope (compEnvC scope cl C X.env) fp) tg t Sg) (ht : ∀ (s : Shared) (H : Hp) (C : Addr) (cl : List (Str × Addr)) (fp : List Addr), PTs (X.blk s H scope (compEnvC scope cl C X.env) fp) ifs (tT X.K ct))
    (he : ∀ (s : Shared) (H : Hp) (C : Addr) (cl : List (Str × Addr)) (fp : List Addr), EX (X.blk s H scope (compEnvC scope cl C X.env) fp) elt y) (hs : ∀ x, foldedSetIterable iter X.env x = pure x := by intro _; rfl) :
    SX X (.Assign [.Name z py] (.ListComp elt [⟨tg, iter, ifs, 0⟩] scope pos) spos) (sSetO i (fLc (own.map (·.2)) it t ct y)) :=
  ps_imp (ps_setLc hc hN hz hzl hsw hi ok hg ht he hs) fun E σ H q => tAsg_setO (fun _ q => tLc_of hsub q) q
/-- any target of names = e -/
def sAsg (t : Ft) (f : Fe) : Cmd := fun env => (f env).bind fun d => (t d env).map Out.nx
theorem sx_asg {tge : Expr} {S : List Nat} (he : EX X e f) (hg : GX X tge t S) (hs : swapsWithSole [tge] e pos.line X.env = pure false := by rfl) (hw : swappedStores [tge] e X.env = pure none := by rfl)
    (h1 : (assignEach [tge] X.env).map (·.2) = [assign tge X.env] := by rfl) : SX X (.Assign [tge] e pos) (sAsg t f) := ps_imp (ps_asg he hg hs hw h1) fun E σ H q => by
  obtain ⟨H0, G0, G, env, o, S, e, q⟩ := q
  obtain ⟨d, h1, e⟩ := Option.bind_eq_some_iff.mp e
  obtain ⟨env', h2, rfl⟩ := Option.map_eq_some_iff.mp e
  exact ⟨H0, G0, G, env, d, S, h1, fun v H1 G1 x1 r1 => ⟨H0, G0, G1, env, d, env', S.ext x1, r1, h2, fun σ' S' _ => q σ' H1 G1 S'⟩⟩
/-- a, b = e1, e2 -/
def sPar (i j : Nat) (fl : Fl) : Cmd := fun env => match fl env with
  | some [a, b] => some (.nx ((env.set i (.val a)).set j (.val b)))
  | _ => none
theorem sx_par {i j : Nat} {x y : Str} {a b : Expr} {px py pt : Pos} {kt k2 pt2} (hc : X.calm = true) (hN : X.N.Nodup) (hi : X.N[i]? = some x) (hj : X.N[j]? = some y) (hij : i ≠ j)
    (hx : X.env.scope.names.lookup x = some .local) (hy : X.env.scope.names.lookup y = some .local) (ha : AX X [a, b] fl)
    (hw : swappedStores [.Tuple [.Name x px, .Name y py] kt pt] (.Tuple [a, b] k2 pt2) X.env = pure (some [x, y]))
    (hs : swapsWithSole [.Tuple [.Name x px, .Name y py] kt pt] (.Tuple [a, b] k2 pt2) pos.line X.env = pure false := by rfl) :
    SX X (.Assign [.Tuple [.Name x px, .Name y py] kt pt] (.Tuple [a, b] k2 pt2) pos) (sPar i j fl) := ps_imp (ps_par hc hN hi hj hij hx hy ha hw hs) fun E σ H q => by
  obtain ⟨H0, G0, G, env, o, S, e, q⟩ := q
  unfold sPar at e
  split at e
  · rename_i d1 d2 hf
    cases e
    refine ⟨H0, G0, G, env, _, S, hf, fun vs H1 G1 x1 r1 => ?_⟩
    simp only [RpL] at r1
    obtain ⟨v, r, rfl, r1, w, r', rfl, r2, rfl⟩ := r1
    have S1 := (S.ext x1).setV i (s := .val d1) (x := some v) rfl ⟨v, rfl, r1⟩
    have S2 := S1.setV j (s := .val d2) (x := some w) rfl ⟨w, rfl, r2⟩
    exact ⟨v, w, rfl, q _ H1 G1 S2⟩
  · cases e
/-- a name op= e -/
def sAug (i : Nat) (g : D → D → Option D) (f : Fe) : Cmd := fun env => (bVar i env).bind fun x => (f env).bind fun y => (g x y).map fun d => Out.nx (env.set i (.val d))
def PipD (X : Cx) (op : Operator) (g : D → D → Option D) : Prop := OpR X (inplaceOp op) (rD X.K g)
theorem sx_aug {i : Nat} {x : Str} {op : Operator} {g : D → D → Option D} {pos' : Pos} (hN : X.N.Nodup) (hi : X.N[i]? = some x) (hx : Loc X.env.scope x) (he : BX X e f) (ho : PipD X op g) (hf : X.fn x = true ∨ X.env.scope.names.lookup x = some .local := by first | exact .inl rfl | exact .inr rfl | assumption) :
    SX X (.AugAssign (.Name x pos') op e pos) (sAug i g f) := ps_imp (ps_aug hN hi hx he (ti := rD X.K g) (fun pins s σ H x y v u Q I rx ry q => ho pins s σ H x y v u Q I rx ry q) hf) fun E σ H q => by
  obtain ⟨H0, G0, G, env, o, S, e, q⟩ := q
  obtain ⟨dx, h1, e⟩ := Option.bind_eq_some_iff.mp e
  obtain ⟨dy, h2, e⟩ := Option.bind_eq_some_iff.mp e
  obtain ⟨d, h3, rfl⟩ := Option.map_eq_some_iff.mp e
  have hv : ∃ v, σ[i]? = some (some v) ∧ RpB X.K H G dx v := by
    unfold bVar at h1
    cases hs : env[i]? with
    | none => rw [hs] at h1; cases h1
    | some s =>
      rw [hs] at h1
      obtain ⟨y, h1', h4⟩ := S.at hs
      cases s with
      | val d' =>
        simp only [Option.some.injEq] at h1
        subst h1
        obtain ⟨v, h2, h3⟩ := h4
        subst h2
        exact ⟨v, h1', RpB.of S.wf h3⟩
      | own ds =>
        simp only [Option.some.injEq] at h1
        subst h1
        obtain ⟨a, xs, h2, h3, h5, h6, h7⟩ := h4
        subst h2
        exact ⟨_, h1', ⟨a, xs, rfl, h3, h7⟩⟩
      | ownD t ds =>
        simp only [Option.some.injEq] at h1
        subst h1
        obtain ⟨a, h2, h5, h6, h7⟩ := h4
        subst h2
        exact ⟨_, h1', ⟨a, rfl, rd_own h7⟩⟩
      | un => cases h1
  obtain ⟨v, hv, rv⟩ := hv
  exact ⟨v, hv, H0, G0, G, env, dy, S, h2, fun w H1 G1 x1 r1 => ⟨G1, dx, dy, d, x1.wf, rv.ext x1, r1, h3, fun u H2 G2 x2 r2 => q _ H2 G2 (((S.ext x1).ext x2).setV i rfl ⟨u, rfl, r2⟩)⟩⟩
theorem iadd : PipD X .Add (gI (fun _ _ => true) fun i j => .int (i + j)) := op_gI0 iop_add fun _ _ _ _ => rp_int _
theorem isub : PipD X .Sub gSub := op_gI0 iop_sub fun _ _ _ _ => rp_int _
theorem imul : PipD X .Mult (gI mulOk fun i j => .int (i * j)) := op_gI iop_mul (fun i j h => mulOk_C h) fun _ _ _ _ => rp_int _
theorem idiv : PipD X .FloorDiv gDiv := op_gI iop_fdiv (fun i j h => by
  simp only [Bool.and_eq_true, decide_eq_true_eq] at h
  exact h) fun _ _ _ _ => rp_int _
end
end PD

set_option Elab.async false
set_option linter.all false
set_option maxRecDepth 100000
namespace PD
open PySem PySem.Spec PyProof.Rows L2

/-! ### settling a slot -/
def frz1 (i : Nat) (env : List Sl) : List Sl := match env[i]? with
  | some (.own ds) => env.set i (.val (.lst ds))
  | some (.ownD t ks) => env.set i (.val (.dic t ks))
  | _ => env
def frzL : List Nat → List Sl → List Sl
  | [], env => env
  | i :: is, env => frzL is (frz1 i env)
theorem set_at {α : Type} {l : List α} {i j : Nat} {x y : α} (h : (l.set i x)[j]? = some y) : (i = j ∧ y = x) ∨ (i ≠ j ∧ l[j]? = some y) := by
  by_cases hj : i = j
  · subst hj
    obtain ⟨hi, e⟩ := List.getElem?_eq_some_iff.mp h
    rw [List.getElem_set_self] at e
    exact .inl ⟨rfl, e.symm⟩
  · rw [List.getElem?_set_ne hj] at h
    exact .inr ⟨hj, h⟩
section
variable {K : PySem.W.Frag} {H0 G0 H G : Hp} {σ : L2.St} {env : List Sl}
/-- an own object at a is settled as o -/
theorem Ste.settle (S : Ste K H0 G0 H G σ env) {i : Nat} {s s' : Sl} {a : Addr} {o : HO} (e : env[i]? = some s) (ow : s.isOwn = true) (ns : s'.isOwn = false) (hv : σ[i]? = some (some (.ref a))) (hH : H a = some o) (hG : G a = none) (h0 : H0 a = none)
    (ok : SlOk K H0 H (upd G a o) s' (some (.ref a))) : Ste K H0 G0 H (upd G a o) σ (env.set i s') := by
  have sg : Same G (upd G a o) := same_updN hG
  refine ⟨⟨S.x0.hh, S.x0.gg.trans sg, ⟨fun b u q => ?_, fun b u q hh => ?_⟩, fun b u q => ?_⟩, by rw [List.length_set]; exact S.len, fun j t x e1 e2 => ?_, fun j k t u b e1 e2 o1 o2 v1 v2 => ?_⟩
  · by_cases hb : b = a
    · subst hb
      rw [upd_same] at q
      cases q
      exact hH
    · rw [upd_ne hb] at q
      exact S.wf.sub b u q
  · by_cases hb : b = a
    · subst hb
      rw [upd_same]
      rw [hH] at q
      exact q
    · rw [upd_ne hb]
      exact S.wf.tin b u q hh
  · by_cases hb : b = a
    · subst hb
      exact .inr h0
    · rw [upd_ne hb] at q
      exact S.x0.new b u q
  · rcases set_at e1 with ⟨rfl, rfl⟩ | ⟨hj, e1⟩
    · rw [hv] at e2
      cases e2
      exact ok
    · have q := S.sl j t x e1 e2
      cases t with
      | un => trivial
      | val d =>
        obtain ⟨v, h1, h2⟩ := q
        exact ⟨v, h1, Rp.mono sg _ _ h2⟩
      | own ds =>
        obtain ⟨b, xs, h1, h2, h3, h4, h5⟩ := q
        have hb : b ≠ a := fun z => by
          subst z
          rw [h1] at e2
          exact hj (S.dis i j s _ b e e1 ow rfl hv e2)
        exact ⟨b, xs, h1, h2, by rw [upd_ne hb]; exact h3, h4, RpL.mono sg _ _ h5⟩
      | ownD t ds =>
        obtain ⟨b, h1, h3, h4, h5⟩ := q
        have hb : b ≠ a := fun z => by
          subst z
          rw [h1] at e2
          exact hj (S.dis i j s _ b e e1 ow rfl hv e2)
        refine ⟨b, h1, by rw [upd_ne hb]; exact h3, h4, ?_⟩
        rcases h5 with ⟨ht, ks, h6, h7⟩ | ⟨ht, ks, h6, h7⟩
        · exact .inl ⟨ht, ks, h6, RpK.mono sg _ _ h7⟩
        · exact .inr ⟨ht, ks, h6, RpT.mono sg _ _ h7⟩
  · rcases set_at e1 with ⟨rfl, rfl⟩ | ⟨hj, e1⟩
    · rw [ns] at o1
      cases o1
    · rcases set_at e2 with ⟨rfl, rfl⟩ | ⟨hk, e2⟩
      · rw [ns] at o2
        cases o2
      · exact S.dis j k t u b e1 e2 o1 o2 v1 v2
/-- an own dict at a is settled, and locked -/
theorem Ste.settleD (S : Ste K H0 G0 H G σ env) {i : Nat} {s s' : Sl} {a : Addr} {o u : HO} (e : env[i]? = some s) (ow : s.isOwn = true) (ns : s'.isOwn = false) (hv : σ[i]? = some (some (.ref a))) (hH : H a = some o) (hG : G a = none) (h0 : H0 a = none)
    (ok : SlOk K H0 (upd H a u) (upd G a u) s' (some (.ref a))) : Ste K H0 G0 (upd H a u) (upd G a u) σ (env.set i s') := by
  have sg : Same G (upd G a u) := same_updN hG
  refine ⟨⟨fun b v q => ?_, S.x0.gg.trans sg, ⟨fun b v q => ?_, fun b v q hh => ?_⟩, fun b v q => ?_⟩, by rw [List.length_set]; exact S.len, fun j t x e1 e2 => ?_, fun j k t v b e1 e2 o1 o2 v1 v2 => ?_⟩
  · rw [upd_ne (ne_of_none q h0)]
    exact S.x0.hh b v q
  · by_cases hb : b = a
    · subst hb
      rw [upd_same] at q ⊢
      exact q
    · rw [upd_ne hb] at q ⊢
      exact S.wf.sub b v q
  · by_cases hb : b = a
    · subst hb
      rw [upd_same] at q ⊢
      exact q
    · rw [upd_ne hb] at q ⊢
      exact S.wf.tin b v q hh
  · by_cases hb : b = a
    · subst hb
      exact .inr h0
    · rw [upd_ne hb] at q
      exact S.x0.new b v q
  · rcases set_at e1 with ⟨rfl, rfl⟩ | ⟨hj, e1⟩
    · rw [hv] at e2
      cases e2
      exact ok
    · have q := S.sl j t x e1 e2
      cases t with
      | un => trivial
      | val d =>
        obtain ⟨v, h1, h2⟩ := q
        exact ⟨v, h1, Rp.mono sg _ _ h2⟩
      | own ds =>
        obtain ⟨b, xs, h1, h2, h3, h4, h5⟩ := q
        have hb : b ≠ a := fun z => by
          subst z
          rw [h1] at e2
          exact hj (S.dis i j s _ b e e1 ow rfl hv e2)
        exact ⟨b, xs, h1, by rw [upd_ne hb]; exact h2, by rw [upd_ne hb]; exact h3, h4, RpL.mono sg _ _ h5⟩
      | ownD t ds =>
        obtain ⟨b, h1, h3, h4, h5⟩ := q
        have hb : b ≠ a := fun z => by
          subst z
          rw [h1] at e2
          exact hj (S.dis i j s _ b e e1 ow rfl hv e2)
        refine ⟨b, h1, by rw [upd_ne hb]; exact h3, h4, ?_⟩
        rw [upd_ne hb]
        rcases h5 with ⟨ht, ks, h6, h7⟩ | ⟨ht, ks, h6, h7⟩
        · exact .inl ⟨ht, ks, h6, RpK.mono sg _ _ h7⟩
        · exact .inr ⟨ht, ks, h6, RpT.mono sg _ _ h7⟩
  · rcases set_at e1 with ⟨rfl, rfl⟩ | ⟨hj, e1⟩
    · rw [ns] at o1
      cases o1
    · rcases set_at e2 with ⟨rfl, rfl⟩ | ⟨hk, e2⟩
      · rw [ns] at o2
        cases o2
      · exact S.dis j k t v b e1 e2 o1 o2 v1 v2
theorem frz1_inv {X : Cx} {pins : List (Addr × Obj)} {s : Shared} (I : Inv X pins σ H s) (S : Ste X.K H0 G0 H G σ env) (i : Nat) : ∃ H' G', Inv X pins σ H' s ∧ Ste X.K H0 G0 H' G' σ (frz1 i env) := by
  unfold PD.frz1
  cases e : env[i]? with
  | none => exact ⟨H, G, I, S⟩
  | some s =>
    obtain ⟨x, hx, hs⟩ := S.at e
    cases s with
    | un => exact ⟨H, G, I, S⟩
    | val d => exact ⟨H, G, I, S⟩
    | own ds =>
      obtain ⟨a, xs, rfl, h2, h3, h4, h5⟩ := hs
      refine ⟨H, upd G a (.lst xs), I, S.settle e rfl rfl hx h2 h3 h4 ⟨_, rfl, ?_⟩⟩
      simp only [Rp]
      exact ⟨a, xs, rfl, upd_same, RpL.mono (same_updN h3) _ _ h5⟩
    | ownD t ds =>
      obtain ⟨a, rfl, h3, h4, h5⟩ := hs
      rcases h5 with ⟨ht, ks, h6, h7⟩ | ⟨ht, ks, h6, h7⟩
      · obtain ⟨od, I'⟩ := I.lock h6 trivial
        refine ⟨_, upd G a (.frz od (.dK ks)), I', S.settleD e rfl rfl hx h6 h3 h4 ⟨_, rfl, ?_⟩⟩
        simp only [Rp]
        exact ⟨a, rfl, .inl ⟨ht, od, ks, upd_same, RpK.mono (same_updN h3) _ _ h7⟩⟩
      · obtain ⟨od, I'⟩ := I.lock h6 trivial
        refine ⟨_, upd G a (.frz od (.dT ks)), I', S.settleD e rfl rfl hx h6 h3 h4 ⟨_, rfl, ?_⟩⟩
        simp only [Rp]
        exact ⟨a, rfl, .inr ⟨ht, od, ks, upd_same, RpT.mono (same_updN h3) _ _ h7⟩⟩
theorem frzL_inv {X : Cx} {pins : List (Addr × Obj)} {s : Shared} : ∀ (is : List Nat) {H G : Hp} {env : List Sl}, Inv X pins σ H s → Ste X.K H0 G0 H G σ env → ∃ H' G', Inv X pins σ H' s ∧ Ste X.K H0 G0 H' G' σ (frzL is env)
  | [], H, G, _, I, S => ⟨H, G, I, S⟩
  | i :: is, _, _, _, I, S => by
    obtain ⟨H1, G1, I1, S1⟩ := frz1_inv I S i
    exact frzL_inv is I1 S1
/-- an own object is changed -/
theorem Ste.change (S : Ste K H0 G0 H G σ env) {i : Nat} {s s' : Sl} {a : Addr} {o u : HO} (e : env[i]? = some s) (ow : s.isOwn = true) (hv : σ[i]? = some (some (.ref a))) (hH : H a = some o) (hG : G a = none) (h0 : H0 a = none) (hu : Hid u = true)
    (ok : SlOk K H0 (upd H a u) G s' (some (.ref a))) : Ste K H0 G0 (upd H a u) G σ (env.set i s') := by
  refine ⟨⟨fun b v q => ?_, S.x0.gg, ⟨fun b v q => ?_, fun b v q hh => ?_⟩, S.x0.new⟩, by rw [List.length_set]; exact S.len, fun j t x e1 e2 => ?_, fun j k t t' b e1 e2 o1 o2 v1 v2 => ?_⟩
  · rw [upd_ne (ne_of_none q h0)]
    exact S.x0.hh b v q
  · rw [upd_ne (ne_of_none q hG)]
    exact S.wf.sub b v q
  · by_cases hb : b = a
    · subst hb
      rw [upd_same] at q
      cases q
      rw [hu] at hh
      cases hh
    · rw [upd_ne hb] at q
      exact S.wf.tin b v q hh
  · rcases set_at e1 with ⟨rfl, rfl⟩ | ⟨hj, e1⟩
    · rw [hv] at e2
      cases e2
      exact ok
    · have q := S.sl j t x e1 e2
      cases t with
      | un => trivial
      | val d => exact q
      | own ds =>
        obtain ⟨b, xs, h1, h2, h3, h4, h5⟩ := q
        have hb : b ≠ a := fun z => by
          subst z
          rw [h1] at e2
          exact hj (S.dis i j s _ b e e1 ow rfl hv e2)
        exact ⟨b, xs, h1, by rw [upd_ne hb]; exact h2, h3, h4, h5⟩
      | ownD t ds =>
        obtain ⟨b, h1, h3, h4, h5⟩ := q
        have hb : b ≠ a := fun z => by
          subst z
          rw [h1] at e2
          exact hj (S.dis i j s _ b e e1 ow rfl hv e2)
        refine ⟨b, h1, h3, h4, ?_⟩
        rw [upd_ne hb]
        exact h5
  · rcases set_at e1 with ⟨z1, _⟩ | ⟨hj, f1⟩
    · rcases set_at e2 with ⟨z2, _⟩ | ⟨hk, f2⟩
      · exact z1.symm.trans z2
      · rw [← z1] at v1 ⊢
        rw [hv] at v1
        cases v1
        exact S.dis i k s t' _ e f2 ow o2 hv v2
    · rcases set_at e2 with ⟨z2, _⟩ | ⟨hk, f2⟩
      · rw [← z2] at v2 ⊢
        rw [hv] at v2
        cases v2
        exact S.dis j i t s _ f1 e o1 ow v1 hv
      · exact S.dis j k t t' b f1 f2 o1 o2 v1 v2
end
def sFrz (is : List Nat) (c : Cmd) : Cmd := fun env => c (frzL is env)
section
variable {X : Cx} {st : Stmt} {c cb : Cmd} {e a b : Expr} {f fi : Fe} {fl : Fl} {pos : Pos} {is : List Nat}
theorem sx_frz (h : SX X st c) : SX X st (sFrz is c) := ⟨fun pins s σ H E I q => by
  obtain ⟨H0, G0, G, env, o, S, e, q⟩ := q
  obtain ⟨H', G', I', S'⟩ := frzL_inv is I S
  exact h.run pins s σ H' E I' ⟨H0, G0, G', _, o, S', e, q⟩⟩

/-! ### methods that change a list -/
def sApp (i : Nat) (f : Fe) : Cmd := fun env => (f env).bind fun d => match env[i]? with
  | some (.own ds) => if lim (ds.length + 1) then some (.nx (env.set i (.own (ds ++ [d])))) else none
  | _ => none
variable {i : Nat} {x : Str} {p apos cpos : Pos}
theorem sx_app (hN : X.N[i]? = some x) (hv : Vis X.env.scope x) (he : EX X e f) (hd : (x == ("__debug__" : Str)) = false := by decide) (hcd : (x == ("__classdict__" : Str)) = false := by decide)
    (hbase : attributeBase (.Name x p) "append" X.env (eval (.Name x p) X.env) = eval (.Name x p) X.env := by rfl)
    (hfew : ((backTo cpos (starEach (e :: []) X.env)).all (fun x => !x.1) && (backToKw cpos (keywordEach [] X.env)).all (fun x => x.1.isSome)
      && decide ((e :: []).length + ([] : List Keyword).length + (if ([] : List Keyword).isEmpty then 0 else 1) < 30)) = true := by rfl)
    (hline : (apos.endLine == cpos.line) = true := by rfl) (hs : starEach (e :: []) X.env = (false, eval e X.env) :: starEach [] X.env := by rfl) (hplain : (backTo cpos (starEach [] X.env)).any (·.1) = false := by rfl)
    (hsw : swapsWith (.Call (.Attribute (.Name x p) "append" apos) [e] [] cpos) none pos.line X.env = pure false := by rfl) :
    SX X (.Expr (.Call (.Attribute (.Name x p) "append" apos) [e] [] cpos) pos) (sApp i f) :=
  ps_imp (ps_expr (pe_bm PySem.F.plainAttrs_list PySem.F.slot_list_append PySem.F.type_list_append (show MtR X "list.append" rAppend from mt_append) (pe_var hN hv hd hcd) (pa_cons he pa_nil hs) hbase hfew hline hs hplain) hsw) fun E σ H q => by
    obtain ⟨H0, G0, G, env, o, S, e1, q⟩ := q
    obtain ⟨d, h1, e1⟩ := Option.bind_eq_some_iff.mp e1
    split at e1
    · rename_i ds hi
      split at e1
      · rename_i hz
        cases e1
        obtain ⟨y, hy, a, xs, rfl, h2, h3, h4, h5⟩ := S.at hi
        refine ⟨.ref a, hy, .inl ⟨rfl, xs, SqL.of h2⟩, H0, G0, G, env, d, S, h1, fun v H1 G1 x1 r1 => ?_⟩
        have S1 := S.ext x1
        have g1 := ext_none x1 h2 h3
        have l1 := RpL.mono x1.gg _ _ h5
        refine ⟨a, xs, v, rfl, rfl, x1.hh _ _ h2, ?_, ?_⟩
        · have := lim_le hz
          rw [← h5.len]
          omega
        · exact q σ _ G1 (S1.change hi rfl hy (x1.hh _ _ h2) g1 h4 rfl ⟨a, _, rfl, upd_same, g1, h4, l1.snoc r1⟩)
      · cases e1
    · cases e1
def sExt (i : Nat) (f : Fe) : Cmd := fun env => (f env).bind fun d => match d, env[i]? with
  | .lst es, some (.own ds) => if lim (ds.length + es.length) then some (.nx (env.set i (.own (ds ++ es)))) else none
  | _, _ => none
theorem sx_ext (hN : X.N[i]? = some x) (hv : Vis X.env.scope x) (he : EX X e f) (hd : (x == ("__debug__" : Str)) = false := by decide) (hcd : (x == ("__classdict__" : Str)) = false := by decide)
    (hbase : attributeBase (.Name x p) "extend" X.env (eval (.Name x p) X.env) = eval (.Name x p) X.env := by rfl)
    (hfew : ((backTo cpos (starEach (e :: []) X.env)).all (fun x => !x.1) && (backToKw cpos (keywordEach [] X.env)).all (fun x => x.1.isSome)
      && decide ((e :: []).length + ([] : List Keyword).length + (if ([] : List Keyword).isEmpty then 0 else 1) < 30)) = true := by rfl)
    (hline : (apos.endLine == cpos.line) = true := by rfl) (hs : starEach (e :: []) X.env = (false, eval e X.env) :: starEach [] X.env := by rfl) (hplain : (backTo cpos (starEach [] X.env)).any (·.1) = false := by rfl)
    (hsw : swapsWith (.Call (.Attribute (.Name x p) "extend" apos) [e] [] cpos) none pos.line X.env = pure false := by rfl) :
    SX X (.Expr (.Call (.Attribute (.Name x p) "extend" apos) [e] [] cpos) pos) (sExt i f) :=
  ps_imp (ps_expr (pe_bm PySem.F.plainAttrs_list PySem.F.slot_list_extend PySem.F.type_list_extend (show MtR X "list.extend" rExtend from mt_extend) (pe_var hN hv hd hcd) (pa_cons he pa_nil hs) hbase hfew hline hs hplain) hsw) fun E σ H q => by
    obtain ⟨H0, G0, G, env, o, S, e1, q⟩ := q
    obtain ⟨d, h1, e1⟩ := Option.bind_eq_some_iff.mp e1
    split at e1
    · rename_i es ds hi
      split at e1
      · rename_i hz
        cases e1
        obtain ⟨y, hy, a, xs, rfl, h2, h3, h4, h5⟩ := S.at hi
        refine ⟨.ref a, hy, .inl ⟨rfl, xs, SqL.of h2⟩, H0, G0, G, env, _, S, h1, fun v H1 G1 x1 r1 => ?_⟩
        have S1 := S.ext x1
        have g1 := ext_none x1 h2 h3
        have l1 := RpL.mono x1.gg _ _ h5
        simp only [Rp] at r1
        obtain ⟨b, zs, rfl, h6, h7⟩ := r1
        refine ⟨a, b, xs, zs, rfl, rfl, x1.hh _ _ h2, x1.wf.sub _ _ h6, ?_, ?_⟩
        · have := lim_le hz
          rw [← h5.len, ← h7.len]
          exact this
        · exact q σ _ G1 (S1.change hi rfl hy (x1.hh _ _ h2) g1 h4 rfl ⟨a, _, rfl, upd_same, g1, h4, l1.append h7⟩)
      · cases e1
    · cases e1
/-- x.pop() alone -/
def sPop (i : Nat) : Cmd := fun env => match env[i]? with
  | some (.own ds) => if ds.isEmpty then none else some (.nx (env.set i (.own ds.dropLast)))
  | _ => none
theorem sx_pop (hN : X.N[i]? = some x) (hv : Vis X.env.scope x) (hd : (x == ("__debug__" : Str)) = false := by decide) (hcd : (x == ("__classdict__" : Str)) = false := by decide)
    (hbase : attributeBase (.Name x p) "pop" X.env (eval (.Name x p) X.env) = eval (.Name x p) X.env := by rfl) (hline : (apos.endLine == cpos.line) = true := by rfl)
    (hsw : swapsWith (.Call (.Attribute (.Name x p) "pop" apos) [] [] cpos) none pos.line X.env = pure false := by rfl) :
    SX X (.Expr (.Call (.Attribute (.Name x p) "pop" apos) [] [] cpos) pos) (sPop i) :=
  ps_imp (ps_expr (pe_bm0 PySem.F.plainAttrs_list PySem.F.slot_list_pop PySem.F.type_list_pop (show MtR X "list.pop" rPop from mt_pop) (pe_var hN hv hd hcd) hbase hline) hsw) fun E σ H q => by
    obtain ⟨H0, G0, G, env, o, S, e1, q⟩ := q
    unfold sPop at e1
    split at e1
    · rename_i ds hi
      split at e1
      · cases e1
      · rename_i hz
        cases e1
        obtain ⟨y, hy, a, xs, rfl, h2, h3, h4, h5⟩ := S.at hi
        have hl := h5.len
        have hne : ds ≠ [] := fun z => by
          subst z
          exact hz rfl
        have hpos : 0 < ds.length := List.length_pos_iff.mpr hne
        refine ⟨.ref a, hy, .inl ⟨rfl, xs, SqL.of h2⟩, a, xs, xs[xs.length - 1]'(by omega), rfl, rfl, h2, List.getElem?_eq_getElem _, ?_⟩
        refine q σ _ G (S.change hi rfl hy h2 h3 h4 rfl ⟨a, _, rfl, upd_same, h3, h4, ?_⟩)
        rw [List.dropLast_eq_take, List.dropLast_eq_take, hl]
        exact h5.take _
    · cases e1

/-! ### x[i] = e -/
def sSetI (i : Nat) (fi f : Fe) : Cmd := fun env => (f env).bind fun d => (fi env).bind fun k => match k, env[i]? with
  | .int z, some (.own ds) => (ixN ds.length z).map fun j => Out.nx (env.set i (.own (ds.set j d)))
  | _, _ => none
theorem sx_setI {sp : Pos} (hN : X.N[i]? = some x) (hv : Vis X.env.scope x) (hb : BX X b fi) (he : EX X e f) (hd : (x == ("__debug__" : Str)) = false := by decide) (hcd : (x == ("__classdict__" : Str)) = false := by decide)
    (ha : ∀ v, assign (.Subscript (.Name x p) b sp) X.env v = (do
      let ov ← holding [v] (eval (.Name x p) X.env)
      let iv ← holding [v, ov] (eval b X.env)
      standAt sp
      holding [v, ov, iv] (setItem ov iv v)
      release [v, ov, iv] []) := by intro _; rfl)
    (hs : swapsWithSole [.Subscript (.Name x p) b sp] e pos.line X.env = pure false := by rfl) (hw : swappedStores [.Subscript (.Name x p) b sp] e X.env = pure none := by rfl)
    (h1 : (assignEach [.Subscript (.Name x p) b sp] X.env).map (·.2) = [assign (.Subscript (.Name x p) b sp) X.env] := by rfl) :
    SX X (.Assign [.Subscript (.Name x p) b sp] e pos) (sSetI i fi f) :=
  ps_imp (ps_asg he (pg_sub (pe_var hN hv hd hcd) hb set_list ha) hs hw h1) fun E σ H q => by
    obtain ⟨H0, G0, G, env, o, S, e1, q⟩ := q
    obtain ⟨d, h2, e1⟩ := Option.bind_eq_some_iff.mp e1
    obtain ⟨k, h3, e1⟩ := Option.bind_eq_some_iff.mp e1
    split at e1
    · rename_i z ds hi
      obtain ⟨j, h4, rfl⟩ := Option.map_eq_some_iff.mp e1
      refine ⟨H0, G0, G, env, d, S, h2, fun v H1 G1 x1 r1 => ?_⟩
      have S1 := S.ext x1
      obtain ⟨y, hy, a, xs, rfl, h5, h6, h7, h8⟩ := S1.at hi
      refine ⟨.ref a, hy, H0, G0, G1, env, _, S1, h3, fun u H2 G2 x2 r2 => ?_⟩
      have S2 := S1.ext x2
      have g2 := ext_none x2 h5 h6
      have l2 := RpL.mono x2.gg _ _ h8
      refine ⟨a, xs, z, j, rfl, rpb_int r2, x2.hh _ _ h5, by rw [← h8.len]; exact h4, ?_⟩
      exact q σ _ G2 (S2.change hi rfl hy (x2.hh _ _ h5) g2 h7 rfl ⟨a, _, rfl, upd_same, g2, h7, RpL.set (Rp.mono x2.gg _ _ r1) _ l2⟩)
    · cases e1

/-! ### loops -/
def forL (t : Ft) (c : Cmd) : List D → List Sl → Option Out
  | [], env => some (.nx env)
  | x :: xs, env => (t x env).bind fun env1 => match c env1 with
    | some (.nx e) => forL t c xs e
    | some (.ct e) => forL t c xs e
    | some (.bk e) => some (.nx e)
    | some (.rt d) => some (.rt d)
    | none => none
def sFor (it : Fl) (t : Ft) (c : Cmd) : Cmd := fun env => (it env).bind fun xs => forL t c xs env
/-- what is wanted, from a later settled heap -/
theorem Ext.later {H0 G0 H G H' G' : Hp} (x : Ext H0 G0 H G) (y : Ext H0 G H' G') : Ext H0 G0 H' G' := ⟨y.hh, x.gg.trans y.gg, y.wf, fun b o e => by
  rcases y.new b o e with h | h
  · exact x.new b o h
  · exact .inr h⟩
theorem Ste.base {K : PySem.W.Frag} {H0 G0 H G : Hp} {σ : L2.St} {env : List Sl} (S : Ste K H0 G0 H G σ env) : Ste K H0 G H G σ env := ⟨⟨S.x0.hh, Same.refl G, S.x0.wf, fun _ _ e => .inl e⟩, S.len, S.sl, S.dis⟩
theorem Ste.unbase {K : PySem.W.Frag} {H0 G0 H1 G1 H G : Hp} {σ : L2.St} {env : List Sl} (x : Ext H0 G0 H1 G1) (S : Ste K H0 G1 H G σ env) : Ste K H0 G0 H G σ env := ⟨x.later S.x0, S.len, S.sl, S.dis⟩
theorem OutOk.later {K : PySem.W.Frag} {H0 G0 H1 G1 : Hp} (x : Ext H0 G0 H1 G1) {E : Ends} {o : Out} (h : OutOk K H0 G0 E o) : OutOk K H0 G1 E o := by
  cases o with
  | nx e => exact fun σ H G S => h σ H G (S.unbase x)
  | rt d => exact fun v H G y r => h v H G (x.later y) r
  | bk e => exact fun σ H G S => h σ H G (S.unbase x)
  | ct e => exact fun σ H G S => h σ H G (S.unbase x)
theorem sx_for {tg iter : Expr} {body : List Stmt} {it : Fl} {t : Ft} {Sg : List Nat} (hp : PassesOwn (model X.prog X.w) X.A X.env X.xe) (hc : X.calm = true) (hi : ILX X tg iter it) (hg : GX X tg t Sg) (hb : SsX X body c)
    (hs : ∀ x, foldedSetIterable iter X.env x = pure x := by intro _; rfl) : SX X (.For tg iter body [] pos) (sFor it t c) := ps_imp (ps_for hp hc hi hg hb hs) fun E σ H q => by
  obtain ⟨H0, G0, G, env, o, S, e1, q⟩ := q
  obtain ⟨xs, h1, e1⟩ := Option.bind_eq_some_iff.mp e1
  refine ⟨H0, G0, G, env, xs, S, h1, fun J H1 G1 x1 hJ => ?_⟩
  have S1 := S.ext x1
  have q := q.later S1.x0
  refine ⟨fun i m σ2 H2 => m = xs.length - i ∧ i ≤ xs.length ∧ ∃ G2 env2, Ste X.K H0 G1 H2 G2 σ2 env2 ∧ forL t c (xs.drop i) env2 = some o,
    ⟨xs.length, by omega, Nat.zero_le _, G1, env, S1.base, e1⟩, ?_⟩
  rintro i m σ2 H2 ⟨rfl, hi, G2, env2, S2, h2⟩
  have hj := hJ i H2 G2 S2.x0.gg S2.wf
  by_cases hlt : i < xs.length
  · have hx : xs[i]? = some xs[i] := List.getElem?_eq_getElem hlt
    obtain ⟨go, hy⟩ := hj.2 _ hx
    rw [List.drop_eq_getElem_cons hlt] at h2
    obtain ⟨env3, h3, h4⟩ := Option.bind_eq_some_iff.mp (show (t xs[i] env2).bind _ = some o from h2)
    refine .inr ⟨go, fun σ3 H3 => ∃ m', m' < xs.length - i ∧ (m' = xs.length - (i + 1) ∧ i + 1 ≤ xs.length ∧ ∃ G2 env2, Ste X.K H0 G1 H3 G2 σ3 env2 ∧ forL t c (xs.drop (i + 1)) env2 = some o), fun _ _ h => h, fun v H3 hyld => ?_⟩
    obtain ⟨G3, x3, r3⟩ := hy v H3 hyld
    refine ⟨H0, G1, G3, env2, _, env3, S2.ext x3, r3, h3, fun σ4 S4 _ => ?_⟩
    cases hcc : c env3 with
    | none => rw [hcc] at h4; cases h4
    | some o4 =>
      rw [hcc] at h4
      refine ⟨H0, G1, G3, env3, o4, S4, hcc, ?_⟩
      cases o4 with
      | nx e => exact fun σ5 H5 G5 S5 => ⟨xs.length - (i + 1), by omega, rfl, hlt, G5, e, S5, h4⟩
      | ct e => exact fun σ5 H5 G5 S5 => ⟨xs.length - (i + 1), by omega, rfl, hlt, G5, e, S5, h4⟩
      | bk e =>
        cases h4
        exact q
      | rt d =>
        cases h4
        exact q
  · have e : i = xs.length := by omega
    subst e
    rw [List.drop_length] at h2
    cases h2
    exact .inl ⟨hj.1 (Nat.le_refl _), q σ2 H2 G2 S2⟩
def whL (t : Fb) (c : Cmd) : Nat → List Sl → Option Out
  | 0, _ => none
  | n + 1, env => (t env).bind fun k => if k then (match c env with
    | some (.nx e) => whL t c n e
    | some (.ct e) => whL t c n e
    | some (.bk e) => some (.nx e)
    | some (.rt d) => some (.rt d)
    | none => none) else some (.nx env)
def sWhile (n : Nat) (t : Fb) (c : Cmd) : Cmd := whL t c n
theorem sx_while {n : Nat} {tst : Expr} {body : List Stmt} {t : Fb} (hp : PassesOwn (model X.prog X.w) X.A X.env X.xe) (hc : TX X tst t) (hb : SsX X body c) : SX X (.While tst body [] pos) (sWhile n t c) := ps_imp (ps_while hp hc hb) fun E σ H q => by
  obtain ⟨H0, G0, G, env, o, S, e1, q⟩ := q
  refine ⟨fun m σ2 H2 => ∃ G2 env2, Ste X.K H0 G0 H2 G2 σ2 env2 ∧ whL t c m env2 = some o, ⟨n, G, env, S, e1⟩, ?_⟩
  rintro m σ2 H2 ⟨G2, env2, S2, h2⟩
  cases m with
  | zero => cases h2
  | succ m =>
    obtain ⟨k, h3, h4⟩ := Option.bind_eq_some_iff.mp (show (t env2).bind _ = some o from h2)
    refine ⟨H0, G0, G2, env2, k, S2, h3, fun H3 G3 x3 => ?_⟩
    cases k with
    | false =>
      cases h4
      exact q σ2 H3 G3 (S2.ext x3)
    | true =>
      refine ⟨fun σ3 H3 => ∃ m', m' < m + 1 ∧ ∃ G2 env2, Ste X.K H0 G0 H3 G2 σ3 env2 ∧ whL t c m' env2 = some o, fun _ _ h => h, ?_⟩
      cases hcc : c env2 with
      | none => rw [hcc] at h4; cases h4
      | some o4 =>
        rw [hcc] at h4
        refine ⟨H0, G0, G3, env2, o4, S2.ext x3, hcc, ?_⟩
        cases o4 with
        | nx e => exact fun σ5 H5 G5 S5 => ⟨m, Nat.lt_succ_self _, G5, e, S5, h4⟩
        | ct e => exact fun σ5 H5 G5 S5 => ⟨m, Nat.lt_succ_self _, G5, e, S5, h4⟩
        | bk e =>
          cases h4
          exact q
        | rt d =>
          cases h4
          exact q
end

/-! ### a def -/
def runC (n k : Nat) (c : Cmd) (ds : List D) : Option D := if ds.length = n then (match c (ds.map .val ++ List.replicate k .un) with
  | some (.nx _) => some .non
  | some (.rt d) => some d
  | _ => none) else none
theorem runC_len {n k : Nat} {c : Cmd} {ds : List D} {d : D} (h : runC n k c ds = some d) : ds.length = n := by
  unfold runC at h
  split at h
  · assumption
  · cases h
section
variable {P : Program} {w : World} {K : PySem.W.Frag} {mg : Str → Option Value} {base : Heap}
theorem ste_start {H G : Hp} {vs : List V} {ds : List D} {N : List Str} {k : Nat} (wf : Wf H G) (r : RpL K G ds vs) (hk : N.length = ds.length + k) : Ste K H G H G (L2.start N vs) (ds.map Sl.val ++ List.replicate k .un) := by
  have hl := r.len
  unfold L2.start
  have e : N.length - vs.length = k := by omega
  rw [e]
  refine ⟨Ext.refl wf, by simp [hl], fun i s x e1 e2 => ?_, fun i j s t a e1 e2 o1 o2 _ _ => ?_⟩
  · by_cases hi : i < ds.length
    · rw [List.getElem?_append_left (by simpa using hi), List.getElem?_map] at e1
      rw [List.getElem?_append_left (by simpa using (by omega : i < vs.length)), List.getElem?_map] at e2
      obtain ⟨d, h1, rfl⟩ := Option.map_eq_some_iff.mp e1
      obtain ⟨v, h2, rfl⟩ := Option.map_eq_some_iff.mp e2
      exact ⟨v, rfl, r.get h1 h2⟩
    · rw [List.getElem?_append_right (by simpa using hi)] at e1
      obtain ⟨h, rfl⟩ := List.mem_replicate.mp (List.mem_of_getElem? e1)
      trivial
  · exfalso
    by_cases hi : i < ds.length
    · rw [List.getElem?_append_left (by simpa using hi), List.getElem?_map] at e1
      obtain ⟨d, h1, rfl⟩ := Option.map_eq_some_iff.mp e1
      cases o1
    · rw [List.getElem?_append_right (by simpa using hi)] at e1
      obtain ⟨h, rfl⟩ := List.mem_replicate.mp (List.mem_of_getElem? e1)
      cases o1
theorem fn_ok {x qual : Str} {st : Stmt} {f : Addr} {fd : FuncData} {N ps : List Str} {lv k n : Nat} {c : Cmd} (F : Fun K x qual st f fd) (S : FnScope N ps (defScope st)) (hn : ps.length = n) (hk : N.length = n + k)
    (hbody : ∀ (cdv : Value) (A : Around) (outer : List Env) (s : Shared) (H : Hp) (E : XK), Room lv (A.deeper (envOfC qual (defScope st) s.heap.objs.size f cdv)) →
      SsX (cxOf CX0 P w K mg base N qual (defScope st) f cdv A outer s H E).nox (defBody st) c) : FnOk P w K mg base CX0 (lv + 1) f fd ps (spD K (runC n k c) n) := by
  refine F.ok S (fun vs H Q E h => by rw [hn]; exact h.1) (fun cdv A outer s H vs Q E hr h => ?_)
  obtain ⟨hl, G, ds, d, wf, r, e, q⟩ := h
  refine ⟨_, hbody cdv A outer s H E hr, ?_⟩
  have hd := runC_len e
  unfold runC at e
  rw [if_pos hd] at e
  have S0 := ste_start (N := N) (k := k) wf r (by omega)
  cases hc : c (ds.map Sl.val ++ List.replicate k .un) with
  | none => rw [hc] at e; cases e
  | some o =>
    rw [hc] at e
    refine ⟨H, G, G, _, o, S0, hc, ?_⟩
    cases o with
    | nx e1 =>
      cases e
      exact fun σ H' G' S' => q _ H' G' S'.x0 rp_non
    | rt d' =>
      cases e
      exact fun v H' G' x' r' => q v H' G' x' r'
    | bk e1 => cases e
    | ct e1 => cases e
/-- a def of the text, as callers take it -/
structure FunT (K : PySem.W.Frag) (mg : Str → Option Value) (x : Str) (st : Stmt) : Prop where
  ex : ∃ (f : Addr) (fd : FuncData), Fun K x x st f fd ∧ mg x = some (.ref f)
structure FnT (P : Program) (w : World) (K : PySem.W.Frag) (mg : Str → Option Value) (base : Heap) (x : Str) (lv n : Nat) (run : List D → Option D) : Prop where
  ex : ∃ (f : Addr) (fd : FuncData) (ps : List Str), FnOk P w K mg base CX0 lv f fd ps (spD K run n) ∧ mg x = some (.ref f) ∧ PySem.W.keepIn K (.ref f) = true ∧ L2.Binds K fd ps []
  len : ∀ ds d, run ds = some d → ds.length = n
theorem fnt_mk {x : Str} {st : Stmt} {N ps : List Str} {lv k n : Nat} {c : Cmd} (F : FunT K mg x st) (S : FnScope N ps (defScope st)) (hn : ps.length = n) (hk : N.length = n + k)
    (hb : ∀ (kV doc pm : Value) (an : Option Addr) (cdv ct : Value) (us : List Value), us.length = ps.length → bindArgs (PySem.W.fnOf x x (defArgs st) (defBody st) (defScope st) .none kV doc pm an cdv ct) ⟨us, []⟩ = pure (ps.zip us))
    (hbody : ∀ (f : Addr) (cdv : Value) (A : Around) (outer : List Env) (s : Shared) (H : Hp) (E : XK), Room lv (A.deeper (envOfC x (defScope st) s.heap.objs.size f cdv)) →
      SsX (cxOf CX0 P w K mg base N x (defScope st) f cdv A outer s H E).nox (defBody st) c) : FnT P w K mg base x (lv + 1) n (runC n k c) := by
  obtain ⟨f, fd, F, hm⟩ := F.ex
  exact ⟨⟨f, fd, ps, fn_ok F S hn hk (hbody f), hm, F.kp, F.binds hb⟩, fun _ _ h => runC_len h⟩
/-- a def that may not be called at all -/
theorem fnt_zero {x : Str} {st : Stmt} {n lv : Nat} {ps : List Str} (F : FunT K mg x st)
    (hb : ∀ (kV doc pm : Value) (an : Option Addr) (cdv ct : Value) (us : List Value), us.length = ps.length → bindArgs (PySem.W.fnOf x x (defArgs st) (defBody st) (defScope st) .none kV doc pm an cdv ct) ⟨us, []⟩ = pure (ps.zip us)) :
    FnT P w K mg base x lv n (fun _ => none) := by
  obtain ⟨f, fd, F, hm⟩ := F.ex
  refine ⟨⟨f, fd, ps, ⟨fun vs H Q E h => ?_, fun A outer s H args us vs Q E _ _ _ _ h => ?_⟩, hm, F.kp, F.binds hb⟩, fun _ _ h => nomatch h⟩
  · obtain ⟨_, _, _, _, _, _, h, _⟩ := h
    cases h
  · obtain ⟨_, _, _, _, _, _, h, _⟩ := h
    cases h
theorem room65 {k : Nat} {A : Around} (hr : Room k A) : A.units + 65 < cLine := by
  have := hr.un
  omega
end
section
variable {X : Cx} {x : Str} {lv lv' n : Nat} {run : List D → Option D} {e : Expr} {es : List Expr} {fl : Fl} {p pos : Pos}
theorem ex_fnT (F : FnT X.prog X.w X.K X.mg X.base x lv n run) (hr : Room lv' X.A) (hl : lv ≤ lv') (hg : Gl X x) (ha : AX X (e :: es) fl) (hdb : (x == ("__debug__" : Str)) = false := by decide)
    (he : starEach (e :: es) X.env = (false, eval e X.env) :: starEach es X.env := by rfl) (hpl : (backTo pos (starEach es X.env)).any (·.1) = false := by rfl) : EX X (.Call (.Name x p) (e :: es) [] pos) (eFn run fl) := by
  obtain ⟨f, fd, ps, F1, hm, hk, hb⟩ := F.ex
  exact ex_fn F1 F.len (hr.mono hl) hg hm hk hb ha hdb he hpl
theorem ex_fnTB (F : FnT X.prog X.w X.K X.mg X.base x lv n run) (hr : Room lv' X.A) (hl : lv ≤ lv') (hg : Gl X x) (ha : ABX X (e :: es) fl) (hdb : (x == ("__debug__" : Str)) = false := by decide)
    (he : starEach (e :: es) X.env = (false, eval e X.env) :: starEach es X.env := by rfl) (hpl : (backTo pos (starEach es X.env)).any (·.1) = false := by rfl) : EX X (.Call (.Name x p) (e :: es) [] pos) (eFnB run fl) := by
  obtain ⟨f, fd, ps, F1, hm, hk, hb⟩ := F.ex
  exact ex_fnB F1 F.len (hr.mono hl) hg hm hk hb ha hdb he hpl
end
end PD

set_option Elab.async false
set_option linter.all false
set_option maxRecDepth 100000
namespace PD
open PySem PySem.Spec PyProof.Rows L2
section
variable {X : Cx} {a b c e : Expr} {fa fb fc f : Fe} {pos p : Pos} {es : List Expr} {fl : Fl}
def wmax : Nat := 1000000000000
/-! ### a op1 b op2 c -/
def eChain (g g' : D → D → Option D) (fa fb fc : Fe) : Fe := fun env => (fa env).bind fun x => (fb env).bind fun y => match g x y with
  | some (.bl true) => (fc env).bind fun z => g' y z
  | some (.bl false) => some (.bl false)
  | _ => none
theorem tChain_imp {g g' : D → D → Option D} {σ : L2.St} {H : Hp} {Q : VK} (q : tD X.K (eChain g g' fa fb fc) σ H Q) : tChain (rD X.K g) (rD X.K g') (tB X.K fa) (tB X.K fb) (tB X.K fc) σ H Q := by
  obtain ⟨H0, G0, G, env, d, S, e1, q⟩ := q
  obtain ⟨dx, h1, e1⟩ := Option.bind_eq_some_iff.mp e1
  obtain ⟨dy, h2, e1⟩ := Option.bind_eq_some_iff.mp e1
  refine ⟨H0, G0, G, env, dx, S, h1, fun v H1 G1 x1 r1 => ⟨H0, G0, G1, env, dy, S.ext x1, h2, fun u H2 G2 x2 r2 => ?_⟩⟩
  cases hg : g dx dy with
  | none => rw [hg] at e1; cases e1
  | some k =>
    rw [hg] at e1
    cases k with
    | bl k =>
      refine ⟨G2, dx, dy, _, x2.wf, r1.ext x2, r2, hg, fun w H3 G3 x3 r3 => ?_⟩
      simp only [Rp] at r3
      refine ⟨k, r3, ?_⟩
      have x13 := x1.trans (x2.trans x3)
      cases k with
      | true =>
        obtain ⟨dz, h3, h4⟩ := Option.bind_eq_some_iff.mp e1
        exact ⟨H0, G0, G3, env, dz, S.ext x13, h3, fun w' H4 G4 x4 r4 => ⟨G4, dy, dz, d, x4.wf, (r2.ext x3).ext x4, r4, h4, fun u' H5 G5 x5 r5 => q u' H5 G5 (x13.trans (x4.trans x5)) r5⟩⟩
      | false =>
        cases e1
        exact q _ H3 G3 x13 (rp_bl _)
    | _ => cases e1
theorem ex_chain {op op' : CmpOp} {g g' : D → D → Option D} (ho : OpR X (compareOp op) (rD X.K g)) (ho' : OpR X (compareOp op') (rD X.K g')) (ha : BX X a fa) (hb : BX X b fb) (hc : BX X c fc)
    (hm : lastMarks [op, op'] [b, c] = false := by with_unfolding_all rfl) : EX X (.Compare a [op, op'] [b, c] pos) (eChain g g' fa fb fc) := pe_imp (pe_chain ho ho' ha hb hc hm) fun _ _ _ q => tChain_imp q
theorem tx_chain {op op' : CmpOp} {g g' : D → D → Option D} (ho : OpR X (compareOp op) (rD X.K g)) (ho' : OpR X (compareOp op') (rD X.K g')) (ha : BX X a fa) (hb : BX X b fb) (hc : BX X c fc)
    (hm : lastMarks [op, op'] [b, c] = false := by with_unfolding_all rfl) : TX X (.Compare a [op, op'] [b, c] pos) (asB (eChain g g' fa fb fc)) := pt_imp (pt_chain ho ho' ha hb hc hm) fun _ _ _ q => tChain_imp (asB_imp q)

/-! ### new lists -/
def rCF (K : PySem.W.Frag) (g : List D → Option (List D)) : List V → Hp → VK → Prop := fun vs H Q => ∃ G ds r, Wf H G ∧ RpBL K H G ds vs ∧ g ds = some r ∧ ∀ p xs H' G', Ext H G H' G' → H p = none → H' p = some (.lst xs) → G' p = none → RpL K G' r xs → Q (.ref p) H'
def gListF : List D → Option (List D)
  | [.lst xs] => some xs
  | [.tup xs] => some xs
  | _ => none
theorem clistF : CallR X (.type "list") (rCF X.K gListF) := (call_list_of (X := X)).imp fun vs H Q q => by
  obtain ⟨G, ds, d, w, r, e, q⟩ := q
  unfold gListF at e
  split at e
  · cases e
    obtain ⟨a, xs, rfl, h2, h3⟩ := rpbl_lst r
    exact ⟨a, xs, rfl, .inl (SqL.of h2), tF_new w h3 q⟩
  · cases e
    obtain ⟨a, xs, rfl, h2, h3⟩ := rpbl_tup r
    exact ⟨a, xs, rfl, .inr (sqt_up w h2), tF_new w h3 q⟩
  · cases e
/-- the sorted ints -/
def sortI (ns : List Int) : List Int := ns.mergeSort (fun a b => decide (a ≤ b))
theorem sortI_perm (ns : List Int) : (sortI ns).Perm ns := List.mergeSort_perm ns _
theorem sortI_sorted (ns : List Int) : (sortI ns).Pairwise (· ≤ ·) := by
  have h := List.pairwise_mergeSort (le := fun a b : Int => decide (a ≤ b)) (fun a b c h1 h2 => by
    simp only [decide_eq_true_eq] at *
    omega) (fun a b => by
    simp only [Bool.or_eq_true, decide_eq_true_eq]
    omega) ns
  exact h.imp fun h => by simpa using h
theorem sorted_unique : ∀ {as bs : List Int}, as.Perm bs → as.Pairwise (· ≤ ·) → bs.Pairwise (· ≤ ·) → as = bs
  | [], bs, p, _, _ => (List.Perm.nil_eq p)
  | a :: as, bs, p, h1, h2 => by
    cases bs with
    | nil => exact absurd p.length_eq (by simp)
    | cons b bs =>
      have ha : a ∈ b :: bs := p.mem_iff.mp List.mem_cons_self
      have hb : b ∈ a :: as := p.mem_iff.mpr List.mem_cons_self
      have e : a = b := by
        have q1 : a ≤ b := by
          rcases List.mem_cons.mp hb with z | z
          · omega
          · exact (List.pairwise_cons.mp h1).1 b z
        have q2 : b ≤ a := by
          rcases List.mem_cons.mp ha with z | z
          · omega
          · exact (List.pairwise_cons.mp h2).1 a z
        omega
      subst e
      rw [sorted_unique (List.Perm.cons_inv p) (List.pairwise_cons.mp h1).2 (List.pairwise_cons.mp h2).2]
def gSortF : List D → Option (List D)
  | [.lst xs] => (intsOf xs).map fun ns => (sortI ns).map D.int
  | _ => none
theorem csortF : CallR X (.builtin "sorted") (rCF X.K gSortF) := (cr_sortedI (X := X)).imp fun vs H Q q => by
  obtain ⟨G, ds, d, w, r, e, q⟩ := q
  unfold gSortF at e
  split at e
  · obtain ⟨ns, h1, rfl⟩ := Option.map_eq_some_iff.mp e
    obtain ⟨a, xs, rfl, h2, h3⟩ := rpbl_lst r
    rw [intsOf_some h1] at h3
    rw [h3.ints] at h2
    refine ⟨a, ns, rfl, SqL.of h2, fun ns' p pm so hp => ?_⟩
    have := sorted_unique (pm.trans (sortI_perm ns).symm) so (sortI_sorted ns)
    subst this
    exact tF_new w (RpL.of_ints _) q p hp
  · cases e
def fCall (g : List D → Option (List D)) (fl : Fl) : Fl := fun env => (fl env).bind g
theorem tCB_impF {g : List D → Option (List D)} {σ : L2.St} {H : Hp} {Q : VK} (q : tF X.K (fCall g fl) σ H Q) : tCB (rCF X.K g) (tAB X.K fl) σ H Q := by
  obtain ⟨H0, G0, G, env, d, S, e1, q⟩ := q
  obtain ⟨ds, h1, e1⟩ := Option.bind_eq_some_iff.mp e1
  exact ⟨H0, G0, G, env, ds, S, h1, fun vs H1 G1 x1 r1 => ⟨G1, ds, d, x1.wf, r1, e1, fun p xs H2 G2 x2 n2 h2 g2 r2 => q p xs H2 G2 (x1.trans x2) (x1.hh.free n2) h2 g2 r2⟩⟩
variable {x : Str} {id T : String} {g : List D → Option (List D)}
theorem fx_callB (hc : CallR X (.builtin id) (rCF X.K g)) (hg : Gl X x) (hm : X.mg x = none) (hv : bootBuiltins x = some (.builtin id)) (ha : ABX X (e :: es) fl) (hn : x ≠ "__name__" := by decide) (hdb : (x == ("__debug__" : Str)) = false := by decide)
    (he : starEach (e :: es) X.env = (false, eval e X.env) :: starEach es X.env := by rfl) (hpl : (backTo pos (starEach es X.env)).any (·.1) = false := by rfl) : FX X (.Call (.Name x p) (e :: es) [] pos) (fCall g fl) :=
  pe_imp (pe_callB hc hg hm hv ha hn hdb he hpl) fun _ _ _ q => tCB_impF q
theorem fx_callTy (hc : CallR X (.type T) (rCF X.K g)) (hg : Gl X x) (hm : X.mg x = none) (hv : bootBuiltins x = some (.type T)) (ha : ABX X (e :: es) fl) (hn : x ≠ "__name__" := by decide) (hdb : (x == ("__debug__" : Str)) = false := by decide)
    (he : starEach (e :: es) X.env = (false, eval e X.env) :: starEach es X.env := by rfl) (hpl : (backTo pos (starEach es X.env)).any (·.1) = false := by rfl) : FX X (.Call (.Name x p) (e :: es) [] pos) (fCall g fl) :=
  pe_imp (pe_callTy hc hg hm hv ha hn hdb he hpl) fun _ _ _ q => tCB_impF q
/-- list * int, list + list, as new lists -/
def rDF (K : PySem.W.Frag) (g : D → D → Option (List D)) : R2 := fun x y H Q => ∃ G dx dy r, Wf H G ∧ RpB K H G dx x ∧ RpB K H G dy y ∧ g dx dy = some r ∧ ∀ p xs H' G', Ext H G H' G' → H p = none → H' p = some (.lst xs) → G' p = none → RpL K G' r xs → Q (.ref p) H'
def fOp (g : D → D → Option (List D)) (fa fb : Fe) : Fl := fun env => (fa env).bind fun x => (fb env).bind fun y => g x y
theorem fx_op {op : Operator} {g : D → D → Option (List D)} (ho : OpR X (binaryOp op) (rDF X.K g)) (ha : BX X a fa) (hb : BX X b fb) : FX X (.BinOp a op b pos) (fOp g fa fb) :=
  pe_imp (pe_op ho ha hb) fun σ H Q q => by
    obtain ⟨H0, G0, G, env, d, S, e1, q⟩ := q
    obtain ⟨dx, h1, e1⟩ := Option.bind_eq_some_iff.mp e1
    obtain ⟨dy, h2, e1⟩ := Option.bind_eq_some_iff.mp e1
    exact ⟨H0, G0, G, env, dx, S, h1, fun v H1 G1 x1 r1 => ⟨H0, G0, G1, env, dy, S.ext x1, h2, fun w H2 G2 x2 r2 =>
      ⟨G2, dx, dy, d, x2.wf, r1.ext x2, r2, e1, fun p xs H3 G3 x3 n3 h3 g3 r3 => q p xs H3 G3 (x1.trans (x2.trans x3)) (x1.hh.free (x2.hh.free n3)) h3 g3 r3⟩⟩⟩
def gRepF : D → D → Option (List D)
  | .lst xs, .int k => if decide (-1000000000 ≤ k) && decide (k ≤ 1000000000) && lim (xs.length * k.toNat) then some (List.replicate k.toNat xs).flatten else none
  | _, _ => none
theorem orepF : OpR X (binaryOp .Mult) (rDF X.K gRepF) := (op_rep (X := X)).imp fun x y H Q q => by
  obtain ⟨G, dx, dy, d, w, rx, ry, e, q⟩ := q
  unfold gRepF at e
  split at e
  · split at e
    · rename_i hz
      cases e
      simp only [Bool.and_eq_true, decide_eq_true_eq] at hz
      obtain ⟨⟨h5, h6⟩, h7⟩ := hz
      obtain ⟨a, xs, rfl, h1, h2⟩ := rx
      refine ⟨a, _, xs, rfl, rpb_int ry, h1, by omega, by omega, ?_, tF_new w (h2.rep _) q⟩
      rw [← h2.len]
      exact lim_le h7
    · cases e
  · cases e
def gCatF : D → D → Option (List D)
  | .lst xs, .lst ys => if lim (xs ++ ys).length then some (xs ++ ys) else none
  | _, _ => none
theorem ocatF : OpR X (binaryOp .Add) (rDF X.K gCatF) := (op_cat (X := X)).imp fun x y H Q q => by
  obtain ⟨G, dx, dy, d, w, rx, ry, e, q⟩ := q
  unfold gCatF at e
  split at e
  · split at e
    · rename_i hz
      cases e
      obtain ⟨a, xs, rfl, h1, h2⟩ := rx
      obtain ⟨b, ys, rfl, h3, h4⟩ := ry
      refine ⟨a, b, xs, ys, rfl, rfl, h1, h3, ?_, tF_new w (h2.append h4) q⟩
      have := lim_le hz
      rw [List.length_append, h2.len, h4.len] at this
      exact this
    · cases e
  · cases e
/-- list(range(..)) -/
def iRg1' (f : Fe) : Fl := fun env => match f env with
  | some (.int j) => if decide (-1000000000 ≤ j) && decide (j ≤ 16000000) then some (rngL 0 j.toNat) else none
  | _ => none
def iRg2' (f f' : Fe) : Fl := fun env => match f env, f' env with
  | some (.int i), some (.int j) => if rngOk i && rngOk j && lim (j - i).toNat then some (rngL i (j - i).toNat) else none
  | _, _ => none
theorem rgV_rp {K : PySem.W.Frag} {G : Hp} (i j : Int) : RpL K G (rngL i (j - i).toNat) (rgV i j) := by
  unfold rngL rgV
  have : ∀ ns : List Nat, RpL K G (ns.map fun k => D.int (i + (k : Nat))) (ns.map fun k => V.int (i + (k : Nat))) := by
    intro ns
    induction ns with
    | nil => exact RpL.nil
    | cons n ns ih => exact RpL.cons (rp_int _) ih
  exact this _
theorem fx_lrg1 {p2 : Pos} (hc : X.calm = true) (hg : Gl X "list") (hm : X.mg "list" = none) (hg2 : Gl X "range") (hm2 : X.mg "range" = none) (ha : BX X a f)
    (na : starEach [a] X.env = (false, eval a X.env) :: starEach [] X.env := by rfl) (na2 : starEach [.Call (.Name "range" p2) [a] [] pos] X.env = (false, eval (.Call (.Name "range" p2) [a] [] pos) X.env) :: starEach [] X.env := by rfl) {pos' : Pos} :
    FX X (.Call (.Name "list" p) [.Call (.Name "range" p2) [a] [] pos] [] pos') (iRg1' f) := pe_imp (pe_listRg hc hg hm (prg_1 hg2 hm2 ha na) na2) fun σ H Q q => by
  obtain ⟨H0, G0, G, env, d, S, e1, q⟩ := q
  unfold iRg1' at e1
  split at e1
  · rename_i j hj
    split at e1
    · rename_i hz
      cases e1
      simp only [Bool.and_eq_true, decide_eq_true_eq] at hz
      refine ⟨H0, G0, G, env, _, S, hj, fun v H1 G1 x1 r1 => ⟨j, rpb_int r1, ⟨by omega, by omega, by omega, by omega, by omega⟩, ?_⟩⟩
      refine tF_new (K := X.K) x1.wf (rgV_rp 0 j) fun p xs H2 G2 x2 n2 h2 g2 r2 => q p xs H2 G2 (x1.trans x2) (x1.hh.free n2) h2 g2 ?_
      simpa using r2
    · cases e1
  · cases e1
theorem fx_lrg2 {p2 : Pos} (hc : X.calm = true) (hg : Gl X "list") (hm : X.mg "list" = none) (hg2 : Gl X "range") (hm2 : X.mg "range" = none) (ha : BX X a fa) (hb : BX X b fb)
    (na : starEach [a, b] X.env = (false, eval a X.env) :: starEach [b] X.env := by rfl) (nb : starEach [b] X.env = (false, eval b X.env) :: starEach [] X.env := by rfl) (hpp : (backTo pos (starEach [b] X.env)).any (·.1) = false := by rfl)
    (na2 : starEach [.Call (.Name "range" p2) [a, b] [] pos] X.env = (false, eval (.Call (.Name "range" p2) [a, b] [] pos) X.env) :: starEach [] X.env := by rfl) {pos' : Pos} :
    FX X (.Call (.Name "list" p) [.Call (.Name "range" p2) [a, b] [] pos] [] pos') (iRg2' fa fb) := pe_imp (pe_listRg hc hg hm (prg_2 hg2 hm2 ha hb na nb hpp) na2) fun σ H Q q => by
  obtain ⟨H0, G0, G, env, d, S, e1, q⟩ := q
  unfold iRg2' at e1
  split at e1
  · rename_i i j hi hj
    split at e1
    · rename_i hz
      cases e1
      simp only [Bool.and_eq_true] at hz
      obtain ⟨⟨h1, h2⟩, h3⟩ := hz
      have b1 := rngOk_b h1
      have b2 := rngOk_b h2
      have b3 := of_decide_eq_true h3
      refine ⟨H0, G0, G, env, _, S, hi, fun v H1 G1 x1 r1 => ⟨H0, G0, G1, env, _, S.ext x1, hj, fun u H2 G2 x2 r2 => ⟨i, j, rpb_int r1, rpb_int r2, ⟨by omega, by omega, by omega, by omega, by omega⟩, ?_⟩⟩⟩
      exact tF_new x2.wf (rgV_rp i j) fun p xs H3 G3 x3 n3 h3 g3 r3 => q p xs H3 G3 (x1.trans (x2.trans x3)) (x1.hh.free (x2.hh.free n3)) h3 g3 r3
    · cases e1
  · cases e1
end
/-- a constant of the module -/
structure CI (mg : Str → Option Value) (x : Str) (i : Int) : Prop where
  ex : ∃ t, mg x = some (.int i t)
theorem ex_ci {X : Cx} {x : Str} {i : Int} {pos : Pos} (C : CI X.mg x i) (hg : Gl X x) (hd : (x == ("__debug__" : Str)) = false := by decide) : EX X (.Name x pos) (eC (.int i)) := by
  obtain ⟨t, h⟩ := C.ex
  exact ex_globI hg h ⟨t, rfl⟩ hd

/-! ### what a name is given: a settled value or a new object -/
def NewOk (K : PySem.W.Frag) (H H' G' : Hp) : Sl → V → Prop
  | .un, _ => False
  | .val d, v => Rp K G' d v
  | .own ds, v => ∃ p xs, v = .ref p ∧ H p = none ∧ H' p = some (.lst xs) ∧ G' p = none ∧ RpL K G' ds xs
  | .ownD t ds, v => ∃ p, v = .ref p ∧ H p = none ∧ G' p = none ∧ ((t = false ∧ ∃ ks, H' p = some (.dK ks) ∧ RpK K G' ds ks) ∨ (t = true ∧ ∃ ks, H' p = some (.dT ks) ∧ RpT K G' ds ks))
abbrev Fn := List Sl → Option Sl
def tN (K : PySem.W.Frag) (s : Fn) : TE := fun σ H Q => ∃ H0 G0 G env sl, Ste K H0 G0 H G σ env ∧ s env = some sl ∧ ∀ v H' G', Ext H G H' G' → NewOk K H H' G' sl v → Q v H'
abbrev NX (X : Cx) (e : Expr) (s : Fn) : Prop := PE X e (tN X.K s)
def vN (f : Fe) : Fn := fun env => (f env).map .val
def oN (f : Fl) : Fn := fun env => (f env).map .own
theorem tN_D {K : PySem.W.Frag} {f : Fe} {σ : L2.St} {H : Hp} {Q : VK} (q : tN K (vN f) σ H Q) : tD K f σ H Q := by
  obtain ⟨H0, G0, G, env, sl, S, e1, q⟩ := q
  obtain ⟨d, h1, rfl⟩ := Option.map_eq_some_iff.mp e1
  exact ⟨H0, G0, G, env, d, S, h1, fun v H' G' x r => q v H' G' x r⟩
theorem tN_F {K : PySem.W.Frag} {f : Fl} {σ : L2.St} {H : Hp} {Q : VK} (q : tN K (oN f) σ H Q) : tF K f σ H Q := by
  obtain ⟨H0, G0, G, env, sl, S, e1, q⟩ := q
  obtain ⟨d, h1, rfl⟩ := Option.map_eq_some_iff.mp e1
  exact ⟨H0, G0, G, env, d, S, h1, fun p xs H' G' x n h g r => q _ H' G' x ⟨p, xs, rfl, n, h, g, r⟩⟩
theorem nx_v {X : Cx} {e : Expr} {f : Fe} (h : EX X e f) : NX X e (vN f) := pe_imp h fun _ _ _ q => tN_D q
theorem nx_f {X : Cx} {e : Expr} {f : Fl} (h : FX X e f) : NX X e (oN f) := pe_imp h fun _ _ _ q => tN_F q
theorem NewOk.ext {K : PySem.W.Frag} {H H1 G1 H2 G2 : Hp} (x : Ext H1 G1 H2 G2) {s : Sl} {v : V} (h : NewOk K H H1 G1 s v) : NewOk K H H2 G2 s v := by
  cases s with
  | un => exact h
  | val d => exact Rp.mono x.gg _ _ h
  | own ds =>
    obtain ⟨p, xs, h1, h2, h3, h4, h5⟩ := h
    exact ⟨p, xs, h1, h2, x.hh _ _ h3, ext_none x h3 h4, RpL.mono x.gg _ _ h5⟩
  | ownD t ds =>
    obtain ⟨p, h1, h2, h4, h5⟩ := h
    rcases h5 with ⟨ht, ks, h6, h7⟩ | ⟨ht, ks, h6, h7⟩
    · exact ⟨p, h1, h2, ext_none x h6 h4, .inl ⟨ht, ks, x.hh _ _ h6, RpK.mono x.gg _ _ h7⟩⟩
    · exact ⟨p, h1, h2, ext_none x h6 h4, .inr ⟨ht, ks, x.hh _ _ h6, RpT.mono x.gg _ _ h7⟩⟩
/-- a slot that holds an object at a knows it in the heap -/
theorem Ste.own_at {K : PySem.W.Frag} {H0 G0 H G : Hp} {σ : L2.St} {env : List Sl} (S : Ste K H0 G0 H G σ env) {i : Nat} {s : Sl} {a : Addr} (e : env[i]? = some s) (o : s.isOwn = true) (v : σ[i]? = some (some (.ref a))) : ∃ u, H a = some u := by
  obtain ⟨x, hx, hs⟩ := S.at e
  rw [v] at hx
  cases hx
  cases s with
  | un => cases o
  | val _ => cases o
  | own ds =>
    obtain ⟨b, xs, h1, h2, _⟩ := hs
    cases h1
    exact ⟨_, h2⟩
  | ownD t ds =>
    obtain ⟨b, h1, _, _, h5⟩ := hs
    cases h1
    rcases h5 with ⟨ht, ks, h6, _⟩ | ⟨ht, ks, h6, _⟩
    · exact ⟨_, h6⟩
    · exact ⟨_, h6⟩
/-- the object is new where H is the heap ahead -/
theorem Ste.setN {K : PySem.W.Frag} {H0 G0 H G : Hp} {σ : L2.St} {env : List Sl} (S : Ste K H0 G0 H G σ env) (i : Nat) {Hb : Hp} (hb : Same H0 Hb) {s : Sl} {v : V} (h : NewOk K Hb H G s v)
    (fr : s.isOwn = true → ∀ (j : Nat) (t : Sl) (a : Addr), j ≠ i → v = .ref a → env[j]? = some t → t.isOwn = true → σ[j]? ≠ some (some (.ref a))) : Ste K H0 G0 H G (σ.set i (some v)) (env.set i s) := by
  cases s with
  | un => exact h.elim
  | val d => exact S.setV i rfl ⟨v, rfl, h⟩
  | own ds =>
    obtain ⟨p, xs, rfl, h2, h3, h4, h5⟩ := h
    exact S.setO i ⟨p, xs, rfl, h3, h4, hb.free h2, h5⟩ fun j t hj e o => fr rfl j t p hj rfl e o
  | ownD t ds =>
    obtain ⟨p, rfl, h2, h4, h5⟩ := h
    exact S.setO i ⟨p, rfl, h4, hb.free h2, h5⟩ fun j t hj e o => fr rfl j t p hj rfl e o
theorem newok_none {K : PySem.W.Frag} {H H' G' : Hp} {s : Sl} {a : Addr} (o : s.isOwn = true) (h : NewOk K H H' G' s (.ref a)) : H a = none := by
  cases s with
  | un => cases o
  | val _ => cases o
  | own ds =>
    obtain ⟨p, xs, e, h2, _⟩ := h
    cases e
    exact h2
  | ownD t ds =>
    obtain ⟨p, e, h2, _⟩ := h
    cases e
    exact h2
theorem newok_some {K : PySem.W.Frag} {H H' G' : Hp} {s : Sl} {a : Addr} (o : s.isOwn = true) (h : NewOk K H H' G' s (.ref a)) : ∃ u, H' a = some u := by
  cases s with
  | un => cases o
  | val _ => cases o
  | own ds =>
    obtain ⟨p, xs, e, h2, h3, _⟩ := h
    cases e
    exact ⟨_, h3⟩
  | ownD t ds =>
    obtain ⟨p, e, h2, h4, h5⟩ := h
    cases e
    rcases h5 with ⟨ht, ks, h6, _⟩ | ⟨ht, ks, h6, _⟩
    · exact ⟨_, h6⟩
    · exact ⟨_, h6⟩
section
variable {X : Cx} {a b c e : Expr} {s s1 s2 s3 : Fn} {pos : Pos}
/-- name = e -/
def sSetN (i : Nat) (s : Fn) : Cmd := fun env => (s env).map fun sl => Out.nx (env.set i sl)
theorem tAsg_setN {i : Nat} {te : TE} {K : PySem.W.Frag} {E : Ends} {σ : L2.St} {H : Hp} (ht : ∀ Q, tN K s σ H Q → te σ H Q) (q : tS K (sSetN i s) E σ H) : tAsg te (gName i) E σ H := by
  obtain ⟨H0, G0, G, env, o, S, e, q⟩ := q
  obtain ⟨sl, h1, rfl⟩ := Option.map_eq_some_iff.mp e
  refine ht _ ⟨H0, G0, G, env, sl, S, h1, fun v H1 G1 x1 r1 => q _ H1 G1 ((S.ext x1).setN i S.x0.hh r1 fun ho j t a hj hv ej ot sv => ?_)⟩
  subst hv
  obtain ⟨u, hu⟩ := S.own_at ej ot sv
  rw [newok_none ho r1] at hu
  cases hu
theorem sx_setN {i : Nat} {x : Str} {pos' : Pos} (hN : X.N.Nodup) (hi : X.N[i]? = some x) (hx : Loc X.env.scope x) (he : NX X e s) (hs : swapsWith e (some (.Name x pos')) pos.line X.env = pure false := by rfl) (hf : X.fn x = true ∨ X.env.scope.names.lookup x = some .local := by first | exact .inl rfl | exact .inr rfl | assumption) :
    SX X (.Assign [.Name x pos'] e pos) (sSetN i s) := ps_imp (ps_set hN hi hx he hs hf) fun E σ H q => tAsg_setN (fun _ q => q) q
/-- a, b = e1, e2 -/
def sParN (i j : Nat) (s1 s2 : Fn) : Cmd := fun env => (s1 env).bind fun u => (s2 env).map fun v => Out.nx ((env.set i u).set j v)
theorem get_set_ne {α : Type} {l : List α} {i j : Nat} {x : α} (h : i ≠ j) : (l.set i x)[j]? = l[j]? := List.getElem?_set_ne h
theorem sx_parN {i j : Nat} {x y : Str} {px py pt : Pos} {kt k2 pt2} (hc : X.calm = true) (hN : X.N.Nodup) (hi : X.N[i]? = some x) (hj : X.N[j]? = some y) (hij : i ≠ j)
    (hx : X.env.scope.names.lookup x = some .local) (hy : X.env.scope.names.lookup y = some .local) (ha : NX X a s1) (hb : NX X b s2)
    (hw : swappedStores [.Tuple [.Name x px, .Name y py] kt pt] (.Tuple [a, b] k2 pt2) X.env = pure (some [x, y]))
    (hs : swapsWithSole [.Tuple [.Name x px, .Name y py] kt pt] (.Tuple [a, b] k2 pt2) pos.line X.env = pure false := by rfl)
    (h1 : starEach [a, b] X.env = (false, eval a X.env) :: starEach [b] X.env := by rfl) (h2 : starEach [b] X.env = (false, eval b X.env) :: starEach [] X.env := by rfl) :
    SX X (.Assign [.Tuple [.Name x px, .Name y py] kt pt] (.Tuple [a, b] k2 pt2) pos) (sParN i j s1 s2) := ps_imp (ps_par hc hN hi hj hij hx hy (pa_cons ha (pa_cons hb pa_nil h2) h1) hw hs) fun E σ H q => by
  obtain ⟨H0, G0, G, env, o, S, e, q⟩ := q
  obtain ⟨u, h1, e⟩ := Option.bind_eq_some_iff.mp e
  obtain ⟨v, h2, rfl⟩ := Option.map_eq_some_iff.mp e
  refine ⟨H0, G0, G, env, u, S, h1, fun p H1 G1 x1 r1 => ⟨H0, G0, G1, env, v, S.ext x1, h2, fun w H2 G2 x2 r2 => ⟨p, w, rfl, ?_⟩⟩⟩
  have S1 := S.ext x1
  have S2 := S1.ext x2
  have T1 : Ste X.K H0 G0 H2 G2 (σ.set i (some p)) (env.set i u) := S2.setN i S.x0.hh (r1.ext x2) fun ho k t a hk hv ek ot sv => by
    subst hv
    obtain ⟨z, hz⟩ := S.own_at ek ot sv
    rw [newok_none ho r1] at hz
    cases hz
  refine q _ H2 G2 (T1.setN j S1.x0.hh r2 fun ho k t a hk hv ek ot sv => ?_)
  subst hv
  have hn := newok_none ho r2
  by_cases hki : i = k
  · subst hki
    obtain ⟨hl, ek'⟩ := List.getElem?_eq_some_iff.mp ek
    rw [List.getElem_set_self] at ek'
    subst ek'
    obtain ⟨hl2, sv'⟩ := List.getElem?_eq_some_iff.mp sv
    rw [List.getElem_set_self] at sv'
    cases sv'
    obtain ⟨z, hz⟩ := newok_some ot r1
    rw [hn] at hz
    cases hz
  · rw [get_set_ne hki] at ek sv
    obtain ⟨z, hz⟩ := S1.own_at ek ot sv
    rw [hn] at hz
    cases hz
/-- a, b, c = e1, e2, e3 -/
def sPar3N (i j l : Nat) (s1 s2 s3 : Fn) : Cmd := fun env => (s1 env).bind fun u => (s2 env).bind fun v => (s3 env).map fun w => Out.nx (((env.set i u).set j v).set l w)
theorem sx_par3N {i j l : Nat} {x y z : Str} {px py pz pt : Pos} {kt k2 pt2} (hc : X.calm = true) (hN : X.N.Nodup) (hi : X.N[i]? = some x) (hj : X.N[j]? = some y) (hl : X.N[l]? = some z) (hij : i ≠ j) (hil : i ≠ l) (hjl : j ≠ l)
    (hx : X.env.scope.names.lookup x = some .local) (hy : X.env.scope.names.lookup y = some .local) (hz : X.env.scope.names.lookup z = some .local) (ha : NX X a s1) (hb : NX X b s2) (hcc : NX X c s3)
    (hw : swappedStores [.Tuple [.Name x px, .Name y py, .Name z pz] kt pt] (.Tuple [a, b, c] k2 pt2) X.env = pure (some [x, y, z]))
    (hs : swapsWithSole [.Tuple [.Name x px, .Name y py, .Name z pz] kt pt] (.Tuple [a, b, c] k2 pt2) pos.line X.env = pure false := by rfl)
    (h1 : starEach [a, b, c] X.env = (false, eval a X.env) :: starEach [b, c] X.env := by rfl) (h2 : starEach [b, c] X.env = (false, eval b X.env) :: starEach [c] X.env := by rfl) (h3 : starEach [c] X.env = (false, eval c X.env) :: starEach [] X.env := by rfl) :
    SX X (.Assign [.Tuple [.Name x px, .Name y py, .Name z pz] kt pt] (.Tuple [a, b, c] k2 pt2) pos) (sPar3N i j l s1 s2 s3) := ps_imp (ps_par3 hc hN hi hj hl hij hil hjl hx hy hz (pa_cons ha (pa_cons hb (pa_cons hcc pa_nil h3) h2) h1) hw hs) fun E σ H q => by
  obtain ⟨H0, G0, G, env, o, S, e, q⟩ := q
  obtain ⟨u, h1, e⟩ := Option.bind_eq_some_iff.mp e
  obtain ⟨v, h2, e⟩ := Option.bind_eq_some_iff.mp e
  obtain ⟨w, h3, rfl⟩ := Option.map_eq_some_iff.mp e
  refine ⟨H0, G0, G, env, u, S, h1, fun p H1 G1 x1 r1 => ⟨H0, G0, G1, env, v, S.ext x1, h2, fun p' H2 G2 x2 r2 => ⟨H0, G0, G2, env, w, (S.ext x1).ext x2, h3, fun p'' H3 G3 x3 r3 => ⟨p, p', p'', rfl, ?_⟩⟩⟩⟩
  have S1 := S.ext x1
  have S2 := S1.ext x2
  have S3 := S2.ext x3
  have T1 : Ste X.K H0 G0 H3 G3 (σ.set i (some p)) (env.set i u) := S3.setN i S.x0.hh ((r1.ext x2).ext x3) fun ho k t a hk hv ek ot sv => by
    subst hv
    obtain ⟨z, hz⟩ := S.own_at ek ot sv
    rw [newok_none ho r1] at hz
    cases hz
  have T2 : Ste X.K H0 G0 H3 G3 ((σ.set i (some p)).set j (some p')) ((env.set i u).set j v) := T1.setN j S1.x0.hh (r2.ext x3) fun ho k t a hk hv ek ot sv => by
    subst hv
    have hn := newok_none ho r2
    by_cases hki : i = k
    · subst hki
      obtain ⟨hl, ek'⟩ := List.getElem?_eq_some_iff.mp ek
      rw [List.getElem_set_self] at ek'
      subst ek'
      obtain ⟨hl2, sv'⟩ := List.getElem?_eq_some_iff.mp sv
      rw [List.getElem_set_self] at sv'
      cases sv'
      obtain ⟨z, hz⟩ := newok_some ot r1
      rw [hn] at hz
      cases hz
    · rw [get_set_ne hki] at ek sv
      obtain ⟨z, hz⟩ := S1.own_at ek ot sv
      rw [hn] at hz
      cases hz
  refine q _ H3 G3 (T2.setN l S2.x0.hh r3 fun ho k t a hk hv ek ot sv => ?_)
  subst hv
  have hn := newok_none ho r3
  by_cases hkj : j = k
  · subst hkj
    obtain ⟨hl, ek'⟩ := List.getElem?_eq_some_iff.mp ek
    rw [List.getElem_set_self] at ek'
    subst ek'
    obtain ⟨hl2, sv'⟩ := List.getElem?_eq_some_iff.mp sv
    rw [List.getElem_set_self] at sv'
    cases sv'
    obtain ⟨z, hz⟩ := newok_some ot r2
    rw [hn] at hz
    cases hz
  · rw [get_set_ne hkj] at ek sv
    by_cases hki : i = k
    · subst hki
      obtain ⟨hl, ek'⟩ := List.getElem?_eq_some_iff.mp ek
      rw [List.getElem_set_self] at ek'
      subst ek'
      obtain ⟨hl2, sv'⟩ := List.getElem?_eq_some_iff.mp sv
      rw [List.getElem_set_self] at sv'
      cases sv'
      obtain ⟨z, hz⟩ := newok_some ot (r1.ext x2)
      rw [hn] at hz
      cases hz
    · rw [get_set_ne hki] at ek sv
      obtain ⟨z, hz⟩ := S2.own_at ek ot sv
      rw [hn] at hz
      cases hz
end
end PD

set_option Elab.async false
set_option linter.all false
set_option maxRecDepth 100000
namespace PD
open PySem PySem.Spec PyProof.Rows L2
section
variable {X : Cx} {tg a b e : Expr} {f : Fe} {fl : Fl} {pos p tpos : Pos} {elts : List Expr} {kk : Nat}
def enumL (xs : List D) : List D := xs.zipIdx.map fun q => D.tup [.int (q.2 : Nat), q.1]
theorem enumL_get (xs : List D) (i : Nat) : (enumL xs)[i]? = xs[i]?.map fun x => D.tup [.int (i : Nat), x] := by
  unfold enumL
  rw [List.getElem?_map, List.getElem?_zipIdx]
  cases xs[i]? with
  | none => rfl
  | some x => simp
theorem enumL_len (xs : List D) : (enumL xs).length = xs.length := by
  unfold enumL
  rw [List.length_map, List.length_zipIdx]
theorem new_pair {K : PySem.W.Frag} {H G : Hp} (w : Wf H G) {T : Addr} (hT : H T = none) {x y : V} {d d' : D} (r : Rp K G d x) (r' : Rp K G d' y) : ∃ G', Ext H G (upd H T (.tup [x, y])) G' ∧ Rp K G' (.tup [d, d']) (.ref T) := by
  have e : Ext H G (upd H T (.tup [x, y])) (upd G T (.tup [x, y])) := Ext.alloc w hT
  refine ⟨_, e, ?_⟩
  simp only [Rp]
  exact ⟨T, _, rfl, upd_same, RpL.mono e.gg _ _ (RpL.cons r (RpL.cons r' RpL.nil))⟩
theorem ite_ok {K : PySem.W.Frag} {a : Addr} {xs : List V} {ds : List D} {H1 G1 : Hp} (h : ∀ H G : Hp, Same G1 G → Wf H G → Same H1 H → SqL K H a xs) (r : RpL K G1 ds xs) : ItC K (Ite K a) (enumL ds) H1 G1 := fun i H G sh sg w => by
  have hs := h H G sg w sh
  refine ⟨fun hi => ⟨xs, hs, by rw [enumL_len] at hi; rw [← r.len]; exact hi⟩, fun d hd => ?_⟩
  rw [enumL_get] at hd
  obtain ⟨d0, hd0, rfl⟩ := Option.map_eq_some_iff.mp hd
  obtain ⟨x, hx, rx⟩ := r.at hd0
  refine ⟨⟨xs, x, hs, hx⟩, fun y H' hy => ?_⟩
  obtain ⟨T, x', rfl, hT, rfl, hy⟩ := hy
  have := hy xs hs
  rw [hx] at this
  cases this
  exact new_pair w hT (rp_int _) (Rp.mono sg _ _ rx)
theorem ite_okL {K : PySem.W.Frag} {a : Addr} {xs : List V} {ds : List D} {H1 G1 : Hp} (h : G1 a = some (.lst xs)) (r : RpL K G1 ds xs) : ItL K (Ite K a) (enumL ds) H1 G1 := fun i H G sg w =>
  ite_ok (H1 := fun _ => none) (fun H G sg w _ => SqL.of (w.sub _ _ (sg _ _ h))) r i H G (fun _ _ e => nomatch e) sg w
def iEnumD (fl : Fl) : Fl := fun env => match fl env with
  | some [.lst xs] => some (enumL xs)
  | _ => none
theorem icx_enum (hg : Gl X "enumerate") (hm : X.mg "enumerate" = none) (ha : ABX X [e] fl) (hs : starEach [e] X.env = [(false, eval e X.env)] := by rfl) : ICX X (.Tuple elts kk tpos) (.Call (.Name "enumerate" p) [e] [] pos) (iEnumD fl) := pi_imp (pi_enum hg hm ha hs) fun σ H R q => by
  obtain ⟨H0, G0, G, env, ds, S, e1, q⟩ := q
  unfold iEnumD at e1
  split at e1
  · rename_i xs hf
    cases e1
    refine ⟨H0, G0, G, env, _, S, hf, fun vs H1 G1 x1 r1 => ?_⟩
    obtain ⟨a, ys, rfl, h1, h2⟩ := rpbl_lst r1
    exact ⟨a, ys, rfl, SqL.of h1, q _ H1 G1 x1 (ite_ok (fun H G _ _ sh => SqL.of (sh _ _ h1)) h2)⟩
  · cases e1
theorem ilx_enum (hg : Gl X "enumerate") (hm : X.mg "enumerate" = none) (ha : AX X [e] fl) (hs : starEach [e] X.env = [(false, eval e X.env)] := by rfl) : ILX X (.Tuple elts kk tpos) (.Call (.Name "enumerate" p) [e] [] pos) (iEnumD fl) := pi_imp (pi_enum hg hm ha hs) fun σ H R q => by
  obtain ⟨H0, G0, G, env, ds, S, e1, q⟩ := q
  unfold iEnumD at e1
  split at e1
  · rename_i xs hf
    cases e1
    refine ⟨H0, G0, G, env, _, S, hf, fun vs H1 G1 x1 r1 => ?_⟩
    simp only [RpL, Rp] at r1
    obtain ⟨v, r, rfl, ⟨a, ys, rfl, h1, h2⟩, rfl⟩ := r1
    exact ⟨a, ys, rfl, SqL.of (x1.wf.sub _ _ h1), q _ H1 G1 x1 (ite_okL h1 h2)⟩
  · cases e1
/-! ### zip -/
def zipL : List D → List D → List D
  | x :: xs, y :: ys => .tup [x, y] :: zipL xs ys
  | _, _ => []
theorem zipL_get : ∀ (xs ys : List D) (i : Nat) (d : D), (zipL xs ys)[i]? = some d → ∃ x y, xs[i]? = some x ∧ ys[i]? = some y ∧ d = .tup [x, y]
  | [], ys, i, d, h => by simp [zipL] at h
  | x :: xs, [], i, d, h => by simp [zipL] at h
  | x :: xs, y :: ys, 0, d, h => by
    simp only [zipL, List.getElem?_cons_zero, Option.some.injEq] at h
    exact ⟨x, y, rfl, rfl, h.symm⟩
  | x :: xs, y :: ys, i + 1, d, h => by
    simp only [zipL, List.getElem?_cons_succ] at h
    exact zipL_get xs ys i d h
theorem zipL_len : ∀ (xs ys : List D), (zipL xs ys).length = min xs.length ys.length
  | [], ys => by simp [zipL]
  | x :: xs, [] => by simp [zipL]
  | x :: xs, y :: ys => by
    simp only [zipL, List.length_cons, zipL_len xs ys]
    omega
/-- a list or a tuple, as it stands in H -/
def seqD : D → Option (List D)
  | .lst xs => some xs
  | .tup xs => some xs
  | _ => none
theorem rpb_seq {K : PySem.W.Frag} {H G : Hp} (w : Wf H G) {d : D} {ds : List D} {v : V} (e : seqD d = some ds) (r : RpB K H G d v) : ∃ k a xs, v = .ref a ∧ SqK k K H a xs ∧ RpL K G ds xs ∧ ∀ H' G', Same H H' → Same G G' → Wf H' G' → SqK k K H' a xs := by
  unfold seqD at e
  split at e
  · cases e
    obtain ⟨a, xs, rfl, h1, h2⟩ := r
    exact ⟨.l, a, xs, rfl, SqL.of h1, h2, fun H' G' sh sg w' => SqL.of (sh _ _ h1)⟩
  · cases e
    obtain ⟨a, xs, rfl, h1, h2⟩ := rpb_tup r
    exact ⟨.t, a, xs, rfl, sqt_up w h1, h2, fun H' G' sh sg w' => sqt_up w' (sg _ _ h1)⟩
  · cases e
theorem rp_seq {K : PySem.W.Frag} {H G : Hp} (w : Wf H G) {d : D} {ds : List D} {v : V} (e : seqD d = some ds) (r : Rp K G d v) : ∃ k a xs, v = .ref a ∧ SqK k K H a xs ∧ RpL K G ds xs ∧ ∀ H' G', Same G G' → Wf H' G' → SqK k K H' a xs := by
  unfold seqD at e
  split at e
  · cases e
    simp only [Rp] at r
    obtain ⟨a, xs, rfl, h1, h2⟩ := r
    exact ⟨.l, a, xs, rfl, SqL.of (w.sub _ _ h1), h2, fun H' G' sg w' => SqL.of (w'.sub _ _ (sg _ _ h1))⟩
  · cases e
    simp only [Rp] at r
    obtain ⟨a, xs, rfl, h1, h2⟩ := r
    exact ⟨.t, a, xs, rfl, sqt_up w h1, h2, fun H' G' sg w' => sqt_up w' (sg _ _ h1)⟩
  · cases e
theorem itzx_at {K : PySem.W.Frag} {k k' : SK} {a b : Addr} {xs ys : List V} {ds es : List D} {G1 : Hp} (r : RpL K G1 ds xs) (r' : RpL K G1 es ys) (i : Nat) {H G : Hp} (sg : Same G1 G) (w : Wf H G) (s1 : SqK k K H a xs) (s2 : SqK k' K H b ys) :
    ((zipL ds es).length ≤ i → (ItzX K k k' a b).stop i H) ∧ ∀ d, (zipL ds es)[i]? = some d → (ItzX K k k' a b).go i H ∧ ∀ x H', (ItzX K k k' a b).yld i H x H' → ∃ G', Ext H G H' G' ∧ Rp K G' d x := by
  refine ⟨fun hi => ⟨xs, ys, s1, s2, ?_⟩, fun d hd => ?_⟩
  · rw [zipL_len] at hi
    rw [← r.len, ← r'.len]
    omega
  · obtain ⟨d1, d2, h1, h2, rfl⟩ := zipL_get _ _ _ _ hd
    obtain ⟨x, hx, rx⟩ := r.at h1
    obtain ⟨y, hy, ry⟩ := r'.at h2
    refine ⟨⟨xs, ys, x, y, s1, s2, hx, hy⟩, fun z H' hz => ?_⟩
    obtain ⟨T, x', y', rfl, hT, rfl, q1, q2⟩ := hz
    have z1 := q1 xs s1
    have z2 := q2 ys s2
    rw [hx] at z1
    rw [hy] at z2
    cases z1
    cases z2
    exact new_pair w hT (Rp.mono sg _ _ rx) (Rp.mono sg _ _ ry)
def iZipD (fl : Fl) : Fl := fun env => match fl env with
  | some [x, y] => (seqD x).bind fun xs => (seqD y).bind fun ys => some (zipL xs ys)
  | _ => none
theorem icx_zip (hg : Gl X "zip") (hm : X.mg "zip" = none) (ha : ABX X [a, b] fl) (hs : starEach [a, b] X.env = (false, eval a X.env) :: starEach [b] X.env := by rfl) (hpl : (backTo pos (starEach [b] X.env)).any (·.1) = false := by rfl) : ICX X (.Tuple elts kk tpos) (.Call (.Name "zip" p) [a, b] [] pos) (iZipD fl) := pi_imp (pi_zx hg hm ha hs hpl) fun σ H R q => by
  obtain ⟨H0, G0, G, env, ds, S, e1, q⟩ := q
  unfold iZipD at e1
  split at e1
  · rename_i x y hf
    obtain ⟨xs, hx, e1⟩ := Option.bind_eq_some_iff.mp e1
    obtain ⟨ys, hy, e1⟩ := Option.bind_eq_some_iff.mp e1
    cases e1
    refine ⟨H0, G0, G, env, _, S, hf, fun vs H1 G1 x1 r1 => ?_⟩
    obtain ⟨u, v, rfl, ru, rv⟩ := rpbl2 r1
    obtain ⟨k, a, xs', rfl, s1, h1, t1⟩ := rpb_seq x1.wf hx ru
    obtain ⟨k', b, ys', rfl, s2, h2, t2⟩ := rpb_seq x1.wf hy rv
    exact ⟨k, k', a, b, xs', ys', rfl, s1, s2, q _ H1 G1 x1 fun i H G sh sg w => itzx_at h1 h2 i sg w (t1 H G sh sg w) (t2 H G sh sg w)⟩
  · cases e1
theorem ilx_zip (hg : Gl X "zip") (hm : X.mg "zip" = none) (ha : AX X [a, b] fl) (hs : starEach [a, b] X.env = (false, eval a X.env) :: starEach [b] X.env := by rfl) (hpl : (backTo pos (starEach [b] X.env)).any (·.1) = false := by rfl) : ILX X (.Tuple elts kk tpos) (.Call (.Name "zip" p) [a, b] [] pos) (iZipD fl) := pi_imp (pi_zx hg hm ha hs hpl) fun σ H R q => by
  obtain ⟨H0, G0, G, env, ds, S, e1, q⟩ := q
  unfold iZipD at e1
  split at e1
  · rename_i x y hf
    obtain ⟨xs, hx, e1⟩ := Option.bind_eq_some_iff.mp e1
    obtain ⟨ys, hy, e1⟩ := Option.bind_eq_some_iff.mp e1
    cases e1
    refine ⟨H0, G0, G, env, _, S, hf, fun vs H1 G1 x1 r1 => ?_⟩
    simp only [RpL] at r1
    obtain ⟨u, r, rfl, ru, v, r', rfl, rv, rfl⟩ := r1
    obtain ⟨k, a, xs', rfl, s1, h1, t1⟩ := rp_seq x1.wf hx ru
    obtain ⟨k', b, ys', rfl, s2, h2, t2⟩ := rp_seq x1.wf hy rv
    exact ⟨k, k', a, b, xs', ys', rfl, s1, s2, q _ H1 G1 x1 fun i H G sg w => itzx_at h1 h2 i sg w (t1 H G sg w) (t2 H G sg w)⟩
  · cases e1
end
end PD

set_option Elab.async false
set_option linter.all false
set_option maxRecDepth 100000
namespace PD
open PySem PySem.Spec PyProof.Rows L2
open PySem.W (EachIs AllAlike Sortable dataLe)

/-! ### sorted of data -/
def alikeD (x y : D) : Bool := PySem.W.alike (py x) (py y)
def isTup1 : D → Bool
  | .tup _ => true
  | _ => false
def notTN : D → Bool
  | .tup _ => false
  | .non => false
  | .dic _ _ => false
  | _ => true
def leD (x y : D) : Bool := dataLe false py x y
def sortD (xs : List D) : List D := xs.mergeSort leD
def sortOk (xs : List D) : Bool := xs.all (okN 62) && (xs.all isTup1 || xs.all notTN) && xs.all fun a => xs.all fun b => alikeD a b
theorem sortOk_s {xs : List D} (h : sortOk xs = true) : (∀ x ∈ xs, okN 62 x = true) ∧ Sortable2 (xs.map py) ∧ AllAlike (xs.map py) := by
  unfold sortOk at h
  rw [Bool.and_eq_true, Bool.and_eq_true, Bool.or_eq_true] at h
  obtain ⟨⟨h1, h2⟩, h3⟩ := h
  refine ⟨List.all_eq_true.mp h1, ?_, ?_⟩
  · rcases h2 with h2 | h2
    · left
      intro d hd
      obtain ⟨x, hx, rfl⟩ := List.mem_map.mp hd
      have := List.all_eq_true.mp h2 x hx
      cases x with
      | tup ys => exact ⟨pyL ys, by simp only [py]⟩
      | _ => cases this
    · right
      intro d hd
      obtain ⟨x, hx, rfl⟩ := List.mem_map.mp hd
      have := List.all_eq_true.mp h2 x hx
      cases x <;> first | (cases this; done) | exact ⟨by simp [py], by simp [py]⟩
  · intro d hd d' hd'
    obtain ⟨x, hx, rfl⟩ := List.mem_map.mp hd
    obtain ⟨y, hy, rfl⟩ := List.mem_map.mp hd'
    exact List.all_eq_true.mp (List.all_eq_true.mp h3 x hx) y hy
/-- a value that stands for d -/
def Sv (K : PySem.W.Frag) (G : Hp) (v : Value) (d : D) : Prop := ∃ x, Rp K G d x ∧ RelV x v
theorem sv_each {K : PySem.W.Frag} {G : Hp} : ∀ {ds : List D} {xs : List V} {us : List Value}, RpL K G ds xs → Vals xs us → EachIs (Sv K G) us ds
  | [], _, _, h, r => by
    simp only [RpL] at h
    subst h
    cases r
    exact .nil
  | d :: ds, _, _, h, r => by
    simp only [RpL] at h
    obtain ⟨x, q, rfl, h1, h2⟩ := h
    cases r with
    | cons r1 r2 => exact .cons ⟨x, h1, r1⟩ (sv_each h2 r2)
theorem sv_back {K : PySem.W.Frag} {G : Hp} : ∀ {ds : List D} {us : List Value}, EachIs (Sv K G) us ds → ∃ xs, RpL K G ds xs ∧ Vals xs us
  | _, _, .nil => ⟨[], RpL.nil, .nil⟩
  | _, _, .cons ⟨x, h1, r1⟩ t => by
    obtain ⟨xs, h2, r2⟩ := sv_back t
    exact ⟨x :: xs, RpL.cons h1 h2, .cons r1 r2⟩
theorem sv_reads {X : Cx} {pins : List (Addr × Obj)} {σ : L2.St} {H G : Hp} {s : Shared} (I : Inv X pins σ H s) (w : Wf H G) : ∀ {ds : List D} {us : List Value}, (∀ x ∈ ds, okN 62 x = true) → EachIs (Sv X.K G) us ds → EachIs (fun v b => ∃ as, Reads s.heap v (py b) as) us ds
  | _, _, _, .nil => .nil
  | _, _, o, .cons ⟨x, h1, r1⟩ t => .cons (Dp.reads I _ x _ (Rp.dp _ x 62 (o _ List.mem_cons_self) (Rp.mono w.sub _ _ h1)) r1) (sv_reads I w (fun y hy => o y (List.mem_cons_of_mem _ hy)) t)
def rSortD (K : PySem.W.Frag) : List V → Hp → VK → Prop := fun vs H Q => ∃ a xs ds G, vs = [V.ref a] ∧ SqL K H a xs ∧ Wf H G ∧ RpL K G ds xs ∧ sortOk ds = true ∧ ∀ p ys, RpL K G (sortD ds) ys → H p = none → Q (.ref p) (upd H p (.lst ys))
theorem call_sortD {X : Cx} (hu : X.A.units + 65 < cLine) : CallR X (.builtin "sorted") (rSortD X.K) := by
  intro pins s σ H vs us Q I r h
  obtain ⟨a, xs, ds, G, rfl, hs, w, hr, hk, q⟩ := h
  obtain ⟨its, rv, hl, hz⟩ := I.list hs
  rw [Vals.ref1 r]
  obtain ⟨o1, o2, o3⟩ := sortOk_s hk
  have e := sv_each hr rv
  refine sorted_all hl.isList e (sv_reads I w o1 e) o3 o2 ?_ (fun b hb => ?_) fun out h1 h2 => ?_
  · rw [← e.length, ← rv.length]
    exact hz
  · have := (okN_lay 62 b (o1 b hb)).2
    omega
  · obtain ⟨ys, hy, ry⟩ := sv_back h2
    obtain ⟨ep, he'⟩ := PyProof.Rows.sortedAll_at s.heap its out.toArray
    have hlen : ys.length ≤ sizeLine := by
      rw [ry.length, h1, ← e.length, ← rv.length]
      exact hz
    exact ⟨.ref _, upd H (s.heap.objs.size + 1) (.lst ys), I.laid (t' := s.toks) (fun _ _ => PyProof.Rows.sortedAll_old) (Nat.le_succ _) ⟨hlen, out, ep, ry, he'⟩, rfl, q _ _ hy (I.hok.fresh (Nat.le_succ _))⟩
/-- sorted: whole numbers, or other data that are alike -/
def gSortA : List D → Option (List D)
  | [.lst xs] => match intsOf xs with
    | some ns => some ((sortI ns).map D.int)
    | none => if sortOk xs then some (sortD xs) else none
  | _ => none
theorem csortA {X : Cx} (hu : X.A.units + 65 < cLine) : CallR X (.builtin "sorted") (rCF X.K gSortA) := (csortF.or (call_sortD hu)).imp fun vs H Q q => by
  obtain ⟨G, ds, d, w, r, e, q⟩ := q
  unfold gSortA at e
  split at e
  · rename_i xs
    split at e
    · rename_i ns hns
      cases e
      refine .inl ⟨G, _, _, w, r, ?_, q⟩
      unfold gSortF
      simp only [hns, Option.map_some]
    · split at e
      · rename_i hk
        cases e
        obtain ⟨a, ys, rfl, h2, h3⟩ := rpbl_lst r
        exact .inr ⟨a, ys, xs, G, rfl, SqL.of h2, w, h3, hk, fun p zs hz hp => tF_new w hz q p hp⟩
      · cases e
  · cases e

/-! ### is, is not -/
def gIsB : D → D → Option D := fun x y => match x, y with
  | d, .non => some (.bl (isNon d))
  | .bl a, .bl b => some (.bl (decide (a = b)))
  | _, _ => none
def gIsNotB : D → D → Option D := fun x y => match x, y with
  | d, .non => some (.bl (!isNon d))
  | .bl a, .bl b => some (.bl (!decide (a = b)))
  | _, _ => none
theorem oisB {X : Cx} : OpR X (compareOp .Is) (rD X.K gIsB) := (ois.or op_is_bl).imp fun x y H Q q => by
  obtain ⟨G, dx, dy, d, w, rx, ry, e, q⟩ := q
  unfold gIsB at e
  split at e
  · exact .inl ⟨G, _, _, _, w, rx, ry, by simpa only [gIs] using e, q⟩
  · cases e
    exact .inr ⟨_, _, rpb_bl rx, rpb_bl ry, q _ H G (Ext.refl w) (rp_bl _)⟩
  · cases e
theorem oisnB {X : Cx} : OpR X (compareOp .IsNot) (rD X.K gIsNotB) := (oisn.or op_isnot_bl).imp fun x y H Q q => by
  obtain ⟨G, dx, dy, d, w, rx, ry, e, q⟩ := q
  unfold gIsNotB at e
  split at e
  · exact .inl ⟨G, _, _, _, w, rx, ry, by simpa only [gIsNot] using e, q⟩
  · cases e
    exact .inr ⟨_, _, rpb_bl rx, rpb_bl ry, q _ H G (Ext.refl w) (rp_bl _)⟩
  · cases e

/-! ### (a, b, ..) = a list -/
def gTl (f : Fts) : Ft := fun d env => match d with
  | .lst xs => f xs env
  | _ => none
theorem gx_tl {X : Cx} {pos : Pos} {es : List Expr} {k : Nat} {f : Fts} {S : List Nat} {n : Nat} (hc : X.calm = true) (h : GsX X es f S) (hl : ∀ ds env env', f ds env = some env' → ds.length = n)
    (hn : (assignEach es X.env).length = n := by rfl) (hst : (assignEach es X.env).findIdx? (·.1) = none := by rfl) : GX X (.Tuple es k pos) (gTl f) S := pg_imp (pg_unl hc h hn hst) fun v σ H Q q => by
  obtain ⟨H0, G0, G, env, d, env', S', r, e, q⟩ := q
  cases d with
  | lst ds =>
    simp only [Rp] at r
    obtain ⟨a, xs, rfl, r1, r2⟩ := r
    have e' : f ds env = some env' := e
    exact ⟨a, xs, rfl, SqL.of (S'.wf.sub _ _ r1), by rw [← r2.len]; exact hl _ _ _ e', H0, G0, G, env, ds, env', S', r2, e', q⟩
  | _ => cases e

/-! ### tuple * 1 -/
set_option maxHeartbeats 4000000 in
theorem tuple_mul1 (l : Addr) (items : Array Value) (n : Nat) (dd : Option Addr) (sl : Array (Option Value)) (u : Tok) :
    Meets (Builtin.«tuple.__mul__» ⟨[.ref l, .int 1 u], []⟩) (fun _ R s => s.heap.get? l = some { cls := .type "tuple", dict := dd, data := .seq items n, slots := sl } ∧
      R (.ok (.ret (Value.ref l))) s) :=
  .of_wp fun prog w A R s h => by
    obtain ⟨hp, g, d, tk, os⟩ := s
    obtain ⟨hl, h⟩ := h
    have f1 := AutoSeq1.idx_int
    wp_walk using wpAny_loadPart' hl
    exact ⟨_, rfl, h⟩
theorem op_repT1 {X : Cx} : OpR X (binaryOp .Mult) (fun x y H Q => ∃ l xs, x = .ref l ∧ y = .int 1 ∧ SqT X.K H l xs ∧ Q (.ref l) H) := by
  intro pins s σ H x y v u Q I rx ry h
  obtain ⟨l, xs, rfl, rfl, hT, q⟩ := h
  cases rx
  obtain ⟨t, rfl⟩ := ry
  obtain ⟨its, r, ⟨⟨cls, dd, data, sl⟩, ho, hc, n, hd⟩, hs⟩ := I.tuple hT
  simp only at hc hd
  subst hc hd
  exact wpAny_binaryOp_repeat_ref (T := "tuple") (U := "int") (by decide) ⟨_, ho, rfl⟩ (fun s' => typeIs_int s' 1 t) noFill_tuple_mul F.fills_int_mul F.slot_int_rmul repeat_tuple F.slot_int_index.lookup
    (call_meets F.slot_int_rmul (typeIs_int s 1 t) F.entry_int_rmul (F.args_int_rmul_2 _ _) (int_rmul_tuple 1 t l its.toArray n dd sl)
      ⟨ho, rfl, ⟨_, ho, rfl⟩, call_meets F.slot_tuple_mul ⟨_, ho, rfl⟩ F.entry_tuple_mul (F.args_tuple_mul_2 _ _) (tuple_mul1 l its.toArray n dd sl t) ⟨ho, ⟨.ref l, H, I, rfl, q⟩⟩⟩)
def gMulA : D → D → Option D := fun x y => match x, y with
  | .tup xs, .int 1 => some (.tup xs)
  | x, y => gMul x y
theorem omulA {X : Cx} : OpR X (binaryOp .Mult) (rD X.K gMulA) := (op_repT1.or omul).imp fun x y H Q q => by
  obtain ⟨G, dx, dy, d, w, rx, ry, e, q⟩ := q
  unfold gMulA at e
  split at e
  · cases e
    obtain ⟨a, xs, rfl, h2, h3⟩ := rpb_tup rx
    refine .inl ⟨a, xs, rfl, rpb_int ry, Same.tup w.sub h2, q _ H G (Ext.refl w) ?_⟩
    simp only [Rp]
    exact ⟨a, xs, rfl, h2, h3⟩
  · exact .inr ⟨G, _, _, _, w, rx, ry, e, q⟩
end PD

set_option Elab.async false
set_option linter.all false
set_option maxRecDepth 100000
namespace PD
open PySem PySem.Spec PyProof.Rows L2
/-! ### comprehensions with two fors -/
def compL2 (t : Ft) (c : Fb) (it1 : Fl) (t1 : Ft) (c1 : Fb) (y : Fe) (vs1 : List Nat) (env : List Sl) : List D → Option (List D)
  | [] => some []
  | x :: xs => (t x env).bind fun e => (c e).bind fun k => (if k then (it1 e).bind fun zs => compL t1 c1 y (wipeE e vs1) zs else some []).bind fun ds => (compL2 t c it1 t1 c1 y vs1 env xs).map (ds ++ ·)
def fLc2 (own vs1 : List Nat) (it : Fl) (t : Ft) (c : Fb) (it1 : Fl) (t1 : Ft) (c1 : Fb) (y : Fe) : Fl := fun env => (it env).bind fun xs => (compL2 t c it1 t1 c1 y vs1 (wipeE env own) xs).bind fun ds => if lim ds.length then some ds else none
/-- a target gives no place a list of its own -/
def NoOwn (t : Ft) : Prop := ∀ d env env', t d env = some env' → ∀ (i : Nat) (s : Sl), env'[i]? = some s → s.isOwn = true → env[i]? = some s
def NoOwns (t : Fts) : Prop := ∀ ds env env', t ds env = some env' → ∀ (i : Nat) (s : Sl), env'[i]? = some s → s.isOwn = true → env[i]? = some s
theorem no_nm {j : Nat} : NoOwn (gNm j) := fun d env env' h i s e o => by
  cases h
  rcases set_at e with ⟨_, rfl⟩ | ⟨_, e⟩
  · cases o
  · exact e
theorem nos_nil : NoOwns gsNil := fun ds env env' h i s e o => by
  cases ds with
  | nil =>
    cases h
    exact e
  | cons _ _ => cases h
theorem nos_cons {f : Ft} {g : Fts} (h1 : NoOwn f) (h2 : NoOwns g) : NoOwns (gsCons f g) := fun ds env env' h i s e o => by
  cases ds with
  | nil => cases h
  | cons d r =>
    obtain ⟨e1, h3, h4⟩ := Option.bind_eq_some_iff.mp (show (f d env).bind _ = some env' from h)
    exact h1 d env e1 h3 i s (h2 r e1 env' h4 i s e o) o
theorem no_tp {g : Fts} (h : NoOwns g) : NoOwn (gTp g) := fun d env env' q i s e o => by
  cases d with
  | tup xs => exact h xs env env' q i s e o
  | _ => cases q
theorem wipe_own {env : List Sl} : ∀ {vs : List Nat} {i : Nat} {s : Sl}, (wipeE env vs)[i]? = some s → s.isOwn = true → env[i]? = some s ∧ i ∉ vs
  | [], i, s, e, _ => ⟨e, by simp⟩
  | v :: vs, i, s, e, o => by
    rcases set_at e with ⟨_, rfl⟩ | ⟨hn, e⟩
    · cases o
    · have := wipe_own e o
      exact ⟨this.1, by
        rw [List.mem_cons, not_or]
        exact ⟨fun z => hn z.symm, this.2⟩⟩
theorem wipe_at {σ : L2.St} : ∀ {vs : List Nat} {i : Nat}, i ∉ vs → (L2.wipe σ vs)[i]? = σ[i]?
  | [], i, _ => rfl
  | v :: vs, i, h => by
    rw [List.mem_cons, not_or] at h
    unfold L2.wipe
    rw [List.getElem?_set_ne (fun z => h.1 z.symm)]
    exact wipe_at h.2
/-- a list that no place holds may grow -/
theorem Ste.grown {K : PySem.W.Frag} {H0 G0 H G : Hp} {σ : L2.St} {env : List Sl} (S : Ste K H0 G0 H G σ env) {D : Addr} {acc acc' : List V} (hD : H D = some (.lst acc)) (gD : G D = none) (h0 : H0 D = none)
    (hn : ∀ (i : Nat) (s : Sl) (a : Addr), env[i]? = some s → s.isOwn = true → σ[i]? = some (some (.ref a)) → a ≠ D) : Ste K H0 G0 (upd H D (.lst acc')) G σ env := by
  refine ⟨S.x0.grow h0 gD, S.len, fun i s x e1 e2 => ?_, S.dis⟩
  have := S.sl i s x e1 e2
  cases s with
  | un => trivial
  | val d => exact this
  | own ds =>
    obtain ⟨a, xs, rfl, h1, h2⟩ := this
    exact ⟨a, xs, rfl, by rw [upd_ne (hn i _ a e1 rfl e2)]; exact h1, h2⟩
  | ownD t ds =>
    obtain ⟨a, rfl, h1, h2, h3⟩ := this
    exact ⟨a, rfl, h1, h2, by rw [upd_ne (hn i _ a e1 rfl e2)]; exact h3⟩
theorem tLc2_of {K : PySem.W.Frag} {it it1 : Fl} {t t1 : Ft} {Sg Sg1 : List Nat} {ct ct1 : Fb} {y : Fe} {vs vs1 : List Nat} (hsub : ∀ i ∈ Sg, i ∈ vs) (hsub1 : ∀ i ∈ Sg1, i ∈ vs1) (hno : NoOwn t) {σ : L2.St} {H : Hp} {Q : VK} (q : tF K (fLc2 vs vs1 it t ct it1 t1 ct1 y) σ H Q) :
    tLc2 (iC K it) (tG K t Sg) (tT K ct) (iL K it1) (tG K t1 Sg1) (tT K ct1) (tD K y) vs vs1 σ H Q := by
  obtain ⟨H0, G0, G, env, ds, S, e1, q⟩ := q
  obtain ⟨xs, h1, e1⟩ := Option.bind_eq_some_iff.mp e1
  obtain ⟨ds', e0, e1⟩ := Option.bind_eq_some_iff.mp e1
  split at e1
  · rename_i hz
    cases e1
    refine ⟨H0, G0, G, env, xs, S, h1, fun J H1 G1 x1 hJ Dd hD => ?_⟩
    have S1 := S.ext x1
    have hz' := lim_le hz
    refine ⟨fun i m H2 => m = xs.length - i ∧ i ≤ xs.length ∧ ∃ G2 acc ds1 ds2, Ext H1 G1 H2 G2 ∧ H2 Dd = some (.lst acc) ∧ G2 Dd = none ∧ RpL K G2 ds1 acc ∧ compL2 t ct it1 t1 ct1 y vs1 (wipeE env vs) (xs.drop i) = some ds2 ∧ ds = ds1 ++ ds2,
      ⟨xs.length, by omega, Nat.zero_le _, G1, [], [], ds, Ext.fresh x1.wf hD rfl, upd_same, wf_none x1.wf hD, RpL.nil, e0, rfl⟩, ?_⟩
    rintro i m H2 ⟨rfl, hi, G2, acc, ds1, ds2, x2, hD2, gD2, r2, hc2, hds⟩
    have hj := hJ i H2 G2 x2.hh x2.gg x2.wf
    by_cases hlt : i < xs.length
    · have hx : xs[i]? = some xs[i] := List.getElem?_eq_getElem hlt
      obtain ⟨go, hy⟩ := hj.2 _ hx
      rw [List.drop_eq_getElem_cons hlt] at hc2
      obtain ⟨env1, h3, h4⟩ := Option.bind_eq_some_iff.mp (show (t xs[i] (wipeE env vs)).bind _ = some ds2 from hc2)
      obtain ⟨k, h5, h6⟩ := Option.bind_eq_some_iff.mp h4
      obtain ⟨dsA, hA, h7⟩ := Option.bind_eq_some_iff.mp h6
      obtain ⟨dsR, h8, rfl⟩ := Option.map_eq_some_iff.mp h7
      refine .inr ⟨go, fun H3 => ∃ m', m' < xs.length - i ∧ (m' = xs.length - (i + 1) ∧ i + 1 ≤ xs.length ∧ ∃ G2 acc ds1' ds2', Ext H1 G1 H3 G2 ∧ H3 Dd = some (.lst acc) ∧ G2 Dd = none ∧ RpL K G2 ds1' acc ∧ compL2 t ct it1 t1 ct1 y vs1 (wipeE env vs) (xs.drop (i + 1)) = some ds2' ∧ ds = ds1' ++ ds2'), fun H3 h => h, fun x H3 hyld => ?_⟩
      obtain ⟨G3, x3, r3⟩ := hy x H3 hyld
      have S3 : Ste K H0 G0 H3 G3 (L2.wipe σ vs) (wipeE env vs) := ((S1.ext x2).ext x3).wipe vs
      refine ⟨H0, G0, G3, _, _, env1, S3, r3, h3, fun σ4 S4 o4 => ⟨out_wipe o4 hsub, H0, G0, G3, env1, k, S4, h5, fun H5 G5 x5 => ?_⟩⟩
      have x35 := x3.trans x5
      cases k with
      | true =>
        obtain ⟨zs, hz1, hz2⟩ := Option.bind_eq_some_iff.mp (show (it1 env1).bind _ = some dsA from hA)
        have S5 := S4.ext x5
        refine ⟨H0, G0, G5, env1, zs, S5, hz1, fun J1 H6 G6 x6 hJ1 => ?_⟩
        have x26 := x35.trans x6
        have S6 := S5.ext x6
        have apart : ∀ (i : Nat) (s : Sl) (a : Addr), env1[i]? = some s → s.isOwn = true → σ4[i]? = some (some (.ref a)) → a ≠ Dd := fun i s a e o v z => by
          obtain ⟨e', hv⟩ := wipe_own (hno _ _ _ h3 i s e o) o
          have v' : σ[i]? = some (some (.ref a)) := by
            rw [← v, ← wipe_at hv]
            exact (o4.2 i (fun q => hv (hsub i q))).symm
          obtain ⟨u, hu⟩ := S1.own_at e' o v'
          rw [z, hD] at hu
          cases hu
        refine ⟨fun j k H7 => k = zs.length - j ∧ j ≤ zs.length ∧ ∃ G7 acc1 da db, Ext H1 G1 H7 G7 ∧ Same G6 G7 ∧ Ste K H0 G0 H7 G7 σ4 env1 ∧ H7 Dd = some (.lst acc1) ∧ G7 Dd = none ∧ RpL K G7 da acc1 ∧ compL t1 ct1 y (wipeE env1 vs1) (zs.drop j) = some db ∧ ds = da ++ (db ++ dsR), ?_, ?_⟩
        · exact ⟨zs.length, by omega, Nat.zero_le _, G6, acc, ds1, dsA, x2.trans x26, Same.refl _, S6, x26.hh _ _ hD2, ext_none x26 hD2 gD2, RpL.mono x26.gg _ _ r2, hz2, hds⟩
        · rintro j m1 H7 ⟨rfl, hjl, G7, acc1, da, db, x7, sg7, S7, hD7, gD7, r7, hc7, hds7⟩
          have hj1 := hJ1 j H7 G7 sg7 x7.wf
          by_cases hlt1 : j < zs.length
          · obtain ⟨go1, hy1⟩ := hj1.2 _ (List.getElem?_eq_getElem hlt1)
            rw [List.drop_eq_getElem_cons hlt1] at hc7
            obtain ⟨env3, g3, g4⟩ := Option.bind_eq_some_iff.mp (show (t1 zs[j] (wipeE env1 vs1)).bind _ = some db from hc7)
            obtain ⟨k3, g5, g6⟩ := Option.bind_eq_some_iff.mp g4
            refine .inr ⟨go1, fun H' => ∃ k', k' < zs.length - j ∧ (k' = zs.length - (j + 1) ∧ j + 1 ≤ zs.length ∧ ∃ G7 acc1 da db, Ext H1 G1 H' G7 ∧ Same G6 G7 ∧ Ste K H0 G0 H' G7 σ4 env1 ∧ H' Dd = some (.lst acc1) ∧ G7 Dd = none ∧ RpL K G7 da acc1 ∧ compL t1 ct1 y (wipeE env1 vs1) (zs.drop (j + 1)) = some db ∧ ds = da ++ (db ++ dsR)), fun _ h => h, fun z H8 hyld1 => ?_⟩
            obtain ⟨G8, x8, r8⟩ := hy1 z H8 hyld1
            have S8 := (S7.ext x8).wipe vs1
            refine ⟨H0, G0, G8, _, _, env3, S8, r8, g3, fun σ9 S9 o9 => ⟨out_wipe o9 hsub1, H0, G0, G8, env3, k3, S9, g5, fun H10 G10 x10 => ?_⟩⟩
            have x810 := x8.trans x10
            cases k3 with
            | true =>
              obtain ⟨d, g7, g8⟩ := Option.bind_eq_some_iff.mp (show (y env3).bind _ = some db from g6)
              obtain ⟨db', g9, rfl⟩ := Option.map_eq_some_iff.mp g8
              refine ⟨H0, G0, G10, env3, d, S9.ext x10, g7, fun v H11 G11 x11 r11 => ?_⟩
              have x8b := x810.trans x11
              have gDb := ext_none x8b hD7 gD7
              have hl : acc1.length + 1 ≤ ds.length := by
                rw [← r7.len, hds7]
                simp only [List.length_append, List.length_cons]
                omega
              have S11 : Ste K H0 G0 (upd H11 Dd (.lst (acc1 ++ [v]))) G11 σ4 env1 := (S7.ext x8b).grown (x8b.hh _ _ hD7) gDb (S.x0.hh.free (x1.hh.free hD)) apart
              refine ⟨acc1, x8b.hh _ _ hD7, by omega, zs.length - (j + 1), by omega, rfl, hlt1, G11, acc1 ++ [v], da ++ [d], db', (x7.trans x8b).grow hD gDb, sg7.trans x8b.gg, S11, upd_same, gDb, (RpL.mono x8b.gg _ _ r7).snoc r11, g9, ?_⟩
              rw [hds7]
              simp
            | false =>
              exact ⟨zs.length - (j + 1), by omega, rfl, hlt1, G10, acc1, da, db, x7.trans x810, sg7.trans x810.gg, S7.ext x810, x810.hh _ _ hD7, ext_none x810 hD7 gD7, RpL.mono x810.gg _ _ r7, g6, hds7⟩
          · have e : j = zs.length := by omega
            subst e
            rw [List.drop_length] at hc7
            cases hc7
            exact .inl ⟨hj1.1 (Nat.le_refl _), xs.length - (i + 1), by omega, rfl, hlt, G7, acc1, da, dsR, x7, hD7, gD7, r7, h8, hds7⟩
      | false =>
        cases hA
        exact ⟨xs.length - (i + 1), by omega, rfl, hlt, G5, acc, ds1, dsR, x2.trans x35, x35.hh _ _ hD2, ext_none x35 hD2 gD2, RpL.mono x35.gg _ _ r2, h8, hds⟩
    · have e : i = xs.length := by omega
      subst e
      rw [List.drop_length] at hc2
      cases hc2
      rw [List.append_nil] at hds
      subst hds
      exact .inl ⟨hj.1 (Nat.le_refl _), q Dd acc H2 G2 (x1.trans x2) (x1.hh.free hD) hD2 gD2 r2⟩
  · cases e1

section
variable {X : Cx} {elt tg iter tg1 iter1 : Expr} {ifs ifs1 : List Expr} {scope : Scope} {own : List (Str × Nat)} {it it1 : Fl} {t t1 : Ft} {Sg Sg1 : List Nat} {ct ct1 : Fb} {y : Fe} {vs1 : List Nat} {pos : Pos}
theorem fx_lc2 (hc : X.calm = true) (hN : X.N.Nodup) (hi : ICX X tg iter it) (ok : BlkOk X.N X.env.scope scope own) (hsub : ∀ i ∈ Sg, i ∈ own.map (·.2)) (hv : ∀ i ∈ vs1, i ∈ own.map (·.2)) (hsub1 : ∀ i ∈ Sg1, i ∈ vs1) (hno : NoOwn t)
    (hg : ∀ (s : Shared) (H : Hp) (C : Addr) (cl : List (Str × Addr)) (fp : List Addr), GX (X.blk s H scope (compEnvC scope cl C X.env) fp) tg t Sg)
    (ht : ∀ (s : Shared) (H : Hp) (C : Addr) (cl : List (Str × Addr)) (fp : List Addr), PTs (X.blk s H scope (compEnvC scope cl C X.env) fp) ifs (tT X.K ct))
    (hi1 : ∀ (s : Shared) (H : Hp) (C : Addr) (cl : List (Str × Addr)) (fp : List Addr), ILX (X.blk s H scope (compEnvC scope cl C X.env) fp) tg1 iter1 it1)
    (hg1 : ∀ (s : Shared) (H : Hp) (C : Addr) (cl : List (Str × Addr)) (fp : List Addr), GX (X.blk s H scope (compEnvC scope cl C X.env) fp) tg1 t1 Sg1)
    (ht1 : ∀ (s : Shared) (H : Hp) (C : Addr) (cl : List (Str × Addr)) (fp : List Addr), PTs (X.blk s H scope (compEnvC scope cl C X.env) fp) ifs1 (tT X.K ct1))
    (he : ∀ (s : Shared) (H : Hp) (C : Addr) (cl : List (Str × Addr)) (fp : List Addr), EX (X.blk s H scope (compEnvC scope cl C X.env) fp) elt y) (hs : ∀ x, foldedSetIterable iter X.env x = pure x := by intro _; rfl) (hs1 : ∀ env x, foldedSetIterable iter1 env x = pure x := by intro _ _; rfl) :
    FX X (.ListComp elt [⟨tg, iter, ifs, 0⟩, ⟨tg1, iter1, ifs1, 0⟩] scope pos) (fLc2 (own.map (·.2)) vs1 it t ct it1 t1 ct1 y) :=
  pe_imp (pe_lc2 hc hN hi ok hv hg ht hi1 hg1 ht1 he hs hs1) fun _ _ _ q => tLc2_of hsub hsub1 hno q
theorem sx_setLc2 {i : Nat} {z : Str} {py spos : Pos} (hc : X.calm = true) (hN : X.N.Nodup) (hz : X.N[i]? = some z) (hzl : X.env.scope.names.lookup z = some .local)
    (hsw : swapsWith (.ListComp elt [⟨tg, iter, ifs, 0⟩, ⟨tg1, iter1, ifs1, 0⟩] scope pos) (some (.Name z py)) spos.line X.env = pure true) (hi : ICX X tg iter it) (ok : BlkOk X.N X.env.scope scope own) (hsub : ∀ i ∈ Sg, i ∈ own.map (·.2)) (hv : ∀ i ∈ vs1, i ∈ own.map (·.2)) (hsub1 : ∀ i ∈ Sg1, i ∈ vs1) (hno : NoOwn t)
    (hg : ∀ (s : Shared) (H : Hp) (C : Addr) (cl : List (Str × Addr)) (fp : List Addr), GX (X.blk s H scope (compEnvC scope cl C X.env) fp) tg t Sg)
    (ht : ∀ (s : Shared) (H : Hp) (C : Addr) (cl : List (Str × Addr)) (fp : List Addr), PTs (X.blk s H scope (compEnvC scope cl C X.env) fp) ifs (tT X.K ct))
    (hi1 : ∀ (s : Shared) (H : Hp) (C : Addr) (cl : List (Str × Addr)) (fp : List Addr), ILX (X.blk s H scope (compEnvC scope cl C X.env) fp) tg1 iter1 it1)
    (hg1 : ∀ (s : Shared) (H : Hp) (C : Addr) (cl : List (Str × Addr)) (fp : List Addr), GX (X.blk s H scope (compEnvC scope cl C X.env) fp) tg1 t1 Sg1)
    (ht1 : ∀ (s : Shared) (H : Hp) (C : Addr) (cl : List (Str × Addr)) (fp : List Addr), PTs (X.blk s H scope (compEnvC scope cl C X.env) fp) ifs1 (tT X.K ct1))
    (he : ∀ (s : Shared) (H : Hp) (C : Addr) (cl : List (Str × Addr)) (fp : List Addr), EX (X.blk s H scope (compEnvC scope cl C X.env) fp) elt y) (hs : ∀ x, foldedSetIterable iter X.env x = pure x := by intro _; rfl) (hs1 : ∀ env x, foldedSetIterable iter1 env x = pure x := by intro _ _; rfl) :
    SX X (.Assign [.Name z py] (.ListComp elt [⟨tg, iter, ifs, 0⟩, ⟨tg1, iter1, ifs1, 0⟩] scope pos) spos) (sSet i (asL (fLc2 (own.map (·.2)) vs1 it t ct it1 t1 ct1 y))) :=
  ps_imp (ps_setLc2 hc hN hz hzl hsw hi ok hv hg ht hi1 hg1 ht1 he hs hs1) fun E σ H q => tAsg_set (fun _ q => tLc2_of hsub hsub1 hno (tF_D q)) q
theorem sx_setLc2O {i : Nat} {z : Str} {py spos : Pos} (hc : X.calm = true) (hN : X.N.Nodup) (hz : X.N[i]? = some z) (hzl : X.env.scope.names.lookup z = some .local)
    (hsw : swapsWith (.ListComp elt [⟨tg, iter, ifs, 0⟩, ⟨tg1, iter1, ifs1, 0⟩] scope pos) (some (.Name z py)) spos.line X.env = pure true) (hi : ICX X tg iter it) (ok : BlkOk X.N X.env.scope scope own) (hsub : ∀ i ∈ Sg, i ∈ own.map (·.2)) (hv : ∀ i ∈ vs1, i ∈ own.map (·.2)) (hsub1 : ∀ i ∈ Sg1, i ∈ vs1) (hno : NoOwn t)
    (hg : ∀ (s : Shared) (H : Hp) (C : Addr) (cl : List (Str × Addr)) (fp : List Addr), GX (X.blk s H scope (compEnvC scope cl C X.env) fp) tg t Sg)
    (ht : ∀ (s : Shared) (H : Hp) (C : Addr) (cl : List (Str × Addr)) (fp : List Addr), PTs (X.blk s H scope (compEnvC scope cl C X.env) fp) ifs (tT X.K ct))
    (hi1 : ∀ (s : Shared) (H : Hp) (C : Addr) (cl : List (Str × Addr)) (fp : List Addr), ILX (X.blk s H scope (compEnvC scope cl C X.env) fp) tg1 iter1 it1)
    (hg1 : ∀ (s : Shared) (H : Hp) (C : Addr) (cl : List (Str × Addr)) (fp : List Addr), GX (X.blk s H scope (compEnvC scope cl C X.env) fp) tg1 t1 Sg1)
    (ht1 : ∀ (s : Shared) (H : Hp) (C : Addr) (cl : List (Str × Addr)) (fp : List Addr), PTs (X.blk s H scope (compEnvC scope cl C X.env) fp) ifs1 (tT X.K ct1))
    (he : ∀ (s : Shared) (H : Hp) (C : Addr) (cl : List (Str × Addr)) (fp : List Addr), EX (X.blk s H scope (compEnvC scope cl C X.env) fp) elt y) (hs : ∀ x, foldedSetIterable iter X.env x = pure x := by intro _; rfl) (hs1 : ∀ env x, foldedSetIterable iter1 env x = pure x := by intro _ _; rfl) :
    SX X (.Assign [.Name z py] (.ListComp elt [⟨tg, iter, ifs, 0⟩, ⟨tg1, iter1, ifs1, 0⟩] scope pos) spos) (sSetO i (fLc2 (own.map (·.2)) vs1 it t ct it1 t1 ct1 y)) :=
  ps_imp (ps_setLc2 hc hN hz hzl hsw hi ok hv hg ht hi1 hg1 ht1 he hs hs1) fun E σ H q => tAsg_setO (fun _ q => tLc2_of hsub hsub1 hno q) q
end
end PD

set_option Elab.async false
set_option linter.all false
set_option maxRecDepth 100000
namespace PD
open PySem PySem.Spec PyProof.Rows L2
/-! ### keys -/
def eqF : D → D → Bool
  | .int i, .int j => decide (i = j)
  | .str x, .str y => decide (x = y)
  | _, _ => false
def eqFs : List D → List D → Bool
  | [], [] => true
  | x :: xs, y :: ys => eqF x y && eqFs xs ys
  | _, _ => false
def eqKd : D → D → Bool
  | .tup xs, .tup ys => eqFs xs ys
  | x, y => eqF x y
theorem eqF_kD (a b : Key) : eqF (kD a) (kD b) = decide (a = b) := by
  cases a <;> cases b <;> simp [kD, eqF]
theorem eqFs_map : ∀ a b : List Key, eqFs (a.map kD) (b.map kD) = decide (a = b)
  | [], [] => by simp [eqFs]
  | [], _ :: _ => by simp [eqFs]
  | _ :: _, [] => by simp [eqFs]
  | x :: a, y :: b => by
    simp only [List.map_cons, eqFs, eqF_kD, eqFs_map a b, List.cons.injEq]
    by_cases h1 : x = y <;> by_cases h2 : a = b <;> simp [h1, h2]
theorem eqKd_kD (a b : Key) : eqKd (kD a) (kD b) = decide (a = b) := by
  have : eqKd (kD a) (kD b) = eqF (kD a) (kD b) := by cases a <;> cases b <;> rfl
  rw [this, eqF_kD]
theorem eqKd_kTD (a b : List Key) : eqKd (kTD a) (kTD b) = decide (a = b) := eqFs_map a b
def isF : D → Option Key
  | .int i => some (.inl i)
  | .str x => some (.inr x)
  | _ => none
def isFs : List D → Option (List Key)
  | [] => some []
  | x :: xs => (isF x).bind fun k => (isFs xs).map (k :: ·)
theorem isF_some {d : D} {k : Key} (h : isF d = some k) : d = kD k := by
  cases d <;> cases h <;> rfl
theorem isFs_some : ∀ {ds : List D} {ks : List Key}, isFs ds = some ks → ds = ks.map kD
  | [], ks, h => by
    cases h
    rfl
  | d :: ds, ks, h => by
    obtain ⟨k, h1, h⟩ := Option.bind_eq_some_iff.mp (show (isF d).bind _ = some ks from h)
    obtain ⟨r, h2, rfl⟩ := Option.map_eq_some_iff.mp h
    rw [isF_some h1, isFs_some h2]
    rfl
theorem rp_kD {K : PySem.W.Frag} {G : Hp} {k : Key} {v : V} (h : Rp K G (kD k) v) : v = kV k := by
  cases k with
  | inl i =>
    have e : v = .int i := by simpa only [kD, Rp] using h
    exact e
  | inr i =>
    have e : v = .str i := by simpa only [kD, Rp] using h
    exact e
theorem rpl_kD {K : PySem.W.Frag} {G : Hp} : ∀ {ks : List Key} {vs : List V}, RpL K G (ks.map kD) vs → vs = ks.map kV
  | [], _, h => by simpa only [List.map_nil, RpL] using h
  | k :: ks, _, h => by
    simp only [List.map_cons, RpL] at h
    obtain ⟨x, r, rfl, h1, h2⟩ := h
    rw [rp_kD h1, rpl_kD h2]
    rfl
theorem kV_rp {K : PySem.W.Frag} {G : Hp} (k : Key) : Rp K G (kD k) (kV k) := by
  cases k <;> simp only [kD, kV, Rp]
theorem kV_rpl {K : PySem.W.Frag} {G : Hp} : ∀ ks : List Key, RpL K G (ks.map kD) (ks.map kV)
  | [] => RpL.nil
  | k :: ks => RpL.cons (kV_rp k) (kV_rpl ks)
/-- the kind of a key: flat, or a tuple of flat ones -/
def keyOk (t : Bool) : D → Bool
  | .tup xs => t && (isFs xs).isSome
  | d => !t && (isF d).isSome
def lookD (kvs : List (D × D)) (k : D) : Option D := (kvs.find? fun kv => eqKd kv.1 k).map (·.2)
def putD (kvs : List (D × D)) (k d : D) : List (D × D) := if (kvs.any fun kv => eqKd kv.1 k) = true then kvs.map (fun kv => if eqKd kv.1 k = true then (kv.1, d) else kv) else kvs ++ [(k, d)]
section
variable {K : PySem.W.Frag} {G : Hp}
theorem RpK.get : ∀ {ds : List (D × D)} {ks : List (Key × V)} {k : Key} {d : D}, RpK K G ds ks → lookD ds (kD k) = some d → ∃ v, valV ks k = some v ∧ Rp K G d v
  | [], _, _, _, _, h => by cases h
  | (kd, e) :: ds, _, k, d, r, h => by
    simp only [RpK] at r
    obtain ⟨j, x, r, rfl, rfl, h1, h2⟩ := r
    unfold lookD at h
    rw [List.find?_cons] at h
    simp only [eqKd_kD] at h
    by_cases hk : j = k
    · rw [decide_eq_true hk] at h
      cases h
      exact ⟨x, valV_pos hk, h1⟩
    · rw [decide_eq_false hk] at h
      rw [valV_neg hk]
      exact RpK.get h2 h
theorem RpK.no : ∀ {ds : List (D × D)} {ks : List (Key × V)} {k : Key}, RpK K G ds ks → lookD ds (kD k) = none → valV ks k = none
  | [], _, _, r, _ => by
    simp only [RpK] at r
    subst r
    rfl
  | (kd, e) :: ds, _, k, r, h => by
    simp only [RpK] at r
    obtain ⟨j, x, r, rfl, rfl, h1, h2⟩ := r
    unfold lookD at h
    rw [List.find?_cons] at h
    simp only [eqKd_kD] at h
    by_cases hk : j = k
    · rw [decide_eq_true hk] at h
      cases h
    · rw [decide_eq_false hk] at h
      rw [valV_neg hk]
      exact RpK.no h2 h
theorem RpK.any : ∀ {ds : List (D × D)} {ks : List (Key × V)} {k : Key}, RpK K G ds ks → (ds.any fun kv => eqKd kv.1 (kD k)) = ks.any fun kv => decide (kv.1 = k)
  | [], _, _, r => by
    simp only [RpK] at r
    subst r
    rfl
  | (kd, e) :: ds, _, k, r => by
    simp only [RpK] at r
    obtain ⟨j, x, r, rfl, rfl, h1, h2⟩ := r
    rw [List.any_cons, List.any_cons, eqKd_kD, RpK.any h2]
theorem RpK.snoc : ∀ {ds : List (D × D)} {ks : List (Key × V)} {k : Key} {d : D} {v : V}, RpK K G ds ks → Rp K G d v → RpK K G (ds ++ [(kD k, d)]) (ks ++ [(k, v)])
  | [], _, k, d, v, r, h => by
    simp only [RpK] at r
    subst r
    simp only [List.nil_append, RpK]
    exact ⟨k, v, [], rfl, rfl, h, rfl⟩
  | (kd, e) :: ds, _, k, d, v, r, h => by
    simp only [RpK] at r
    obtain ⟨j, x, r, rfl, e0, h1, h2⟩ := r
    simp only [List.cons_append, RpK]
    exact ⟨j, x, r ++ [(k, v)], rfl, e0, h1, RpK.snoc h2 h⟩
theorem RpK.repl : ∀ {ds : List (D × D)} {ks : List (Key × V)} {k : Key} {d : D} {v : V}, RpK K G ds ks → Rp K G d v → RpK K G (ds.map fun kv => if eqKd kv.1 (kD k) = true then (kv.1, d) else kv) (ks.map fun kv => if kv.1 = k then (kv.1, v) else kv)
  | [], _, _, _, _, r, _ => by
    simp only [RpK] at r
    subst r
    simp only [List.map_nil, RpK]
  | (kd, e) :: ds, _, k, d, v, r, h => by
    simp only [RpK] at r
    obtain ⟨j, x, r, rfl, rfl, h1, h2⟩ := r
    simp only [List.map_cons, eqKd_kD]
    have ih := RpK.repl (k := k) h2 h
    by_cases hk : j = k
    · simp only [hk, decide_true, if_true, RpK]
      exact ⟨k, v, _, rfl, rfl, h, ih⟩
    · simp only [hk, decide_false, if_false, Bool.false_eq_true, RpK]
      exact ⟨j, x, _, rfl, rfl, h1, ih⟩
theorem RpK.put {ds : List (D × D)} {ks : List (Key × V)} {k : Key} {d : D} {v : V} (r : RpK K G ds ks) (h : Rp K G d v) : RpK K G (putD ds (kD k) d) (putK ks k v) := by
  unfold putD putK
  rw [r.any]
  split
  · exact r.repl h
  · exact r.snoc h
theorem RpK.len : ∀ {ds : List (D × D)} {ks : List (Key × V)}, RpK K G ds ks → ds.length = ks.length
  | [], _, r => by
    simp only [RpK] at r
    subst r
    rfl
  | (kd, e) :: ds, _, r => by
    simp only [RpK] at r
    obtain ⟨j, x, r, rfl, _, _, h2⟩ := r
    simp only [List.length_cons, RpK.len h2]
theorem RpT.get : ∀ {ds : List (D × D)} {ks : List (List Key × V)} {k : List Key} {d : D}, RpT K G ds ks → lookD ds (kTD k) = some d → ∃ v, valV ks k = some v ∧ Rp K G d v
  | [], _, _, _, _, h => by cases h
  | (kd, e) :: ds, _, k, d, r, h => by
    simp only [RpT] at r
    obtain ⟨j, x, r, rfl, rfl, h1, h2⟩ := r
    unfold lookD at h
    rw [List.find?_cons] at h
    simp only [eqKd_kTD] at h
    by_cases hk : j = k
    · rw [decide_eq_true hk] at h
      cases h
      exact ⟨x, valV_pos hk, h1⟩
    · rw [decide_eq_false hk] at h
      rw [valV_neg hk]
      exact RpT.get h2 h
theorem RpT.no : ∀ {ds : List (D × D)} {ks : List (List Key × V)} {k : List Key}, RpT K G ds ks → lookD ds (kTD k) = none → valV ks k = none
  | [], _, _, r, _ => by
    simp only [RpT] at r
    subst r
    rfl
  | (kd, e) :: ds, _, k, r, h => by
    simp only [RpT] at r
    obtain ⟨j, x, r, rfl, rfl, h1, h2⟩ := r
    unfold lookD at h
    rw [List.find?_cons] at h
    simp only [eqKd_kTD] at h
    by_cases hk : j = k
    · rw [decide_eq_true hk] at h
      cases h
    · rw [decide_eq_false hk] at h
      rw [valV_neg hk]
      exact RpT.no h2 h
theorem RpT.any : ∀ {ds : List (D × D)} {ks : List (List Key × V)} {k : List Key}, RpT K G ds ks → (ds.any fun kv => eqKd kv.1 (kTD k)) = ks.any fun kv => decide (kv.1 = k)
  | [], _, _, r => by
    simp only [RpT] at r
    subst r
    rfl
  | (kd, e) :: ds, _, k, r => by
    simp only [RpT] at r
    obtain ⟨j, x, r, rfl, rfl, h1, h2⟩ := r
    rw [List.any_cons, List.any_cons, eqKd_kTD, RpT.any h2]
theorem RpT.snoc : ∀ {ds : List (D × D)} {ks : List (List Key × V)} {k : List Key} {d : D} {v : V}, RpT K G ds ks → Rp K G d v → RpT K G (ds ++ [(kTD k, d)]) (ks ++ [(k, v)])
  | [], _, k, d, v, r, h => by
    simp only [RpT] at r
    subst r
    simp only [List.nil_append, RpT]
    exact ⟨k, v, [], rfl, rfl, h, rfl⟩
  | (kd, e) :: ds, _, k, d, v, r, h => by
    simp only [RpT] at r
    obtain ⟨j, x, r, rfl, e0, h1, h2⟩ := r
    simp only [List.cons_append, RpT]
    exact ⟨j, x, r ++ [(k, v)], rfl, e0, h1, RpT.snoc h2 h⟩
theorem RpT.repl : ∀ {ds : List (D × D)} {ks : List (List Key × V)} {k : List Key} {d : D} {v : V}, RpT K G ds ks → Rp K G d v → RpT K G (ds.map fun kv => if eqKd kv.1 (kTD k) = true then (kv.1, d) else kv) (ks.map fun kv => if kv.1 = k then (kv.1, v) else kv)
  | [], _, _, _, _, r, _ => by
    simp only [RpT] at r
    subst r
    simp only [List.map_nil, RpT]
  | (kd, e) :: ds, _, k, d, v, r, h => by
    simp only [RpT] at r
    obtain ⟨j, x, r, rfl, rfl, h1, h2⟩ := r
    simp only [List.map_cons, eqKd_kTD]
    have ih := RpT.repl (k := k) h2 h
    by_cases hk : j = k
    · simp only [hk, decide_true, if_true, RpT]
      exact ⟨k, v, _, rfl, rfl, h, ih⟩
    · simp only [hk, decide_false, if_false, Bool.false_eq_true, RpT]
      exact ⟨j, x, _, rfl, rfl, h1, ih⟩
theorem RpT.put {ds : List (D × D)} {ks : List (List Key × V)} {k : List Key} {d : D} {v : V} (r : RpT K G ds ks) (h : Rp K G d v) : RpT K G (putD ds (kTD k) d) (putK ks k v) := by
  unfold putD putK
  rw [r.any]
  split
  · exact r.repl h
  · exact r.snoc h
theorem RpT.len : ∀ {ds : List (D × D)} {ks : List (List Key × V)}, RpT K G ds ks → ds.length = ks.length
  | [], _, r => by
    simp only [RpT] at r
    subst r
    rfl
  | (kd, e) :: ds, _, r => by
    simp only [RpT] at r
    obtain ⟨j, x, r, rfl, _, _, h2⟩ := r
    simp only [List.length_cons, RpT.len h2]
end
/-! ### the dict at a, the key y -/
section
variable {K : PySem.W.Frag} {H G : Hp}
/-- a dict that is looked at: the value at a key -/
def DicAt (K : PySem.W.Frag) (H G : Hp) (t : Bool) (ds : List (D × D)) (a : Addr) : Prop := (t = false ∧ ∃ ks, Rd H a (.dK ks) ∧ RpK K G ds ks) ∨ (t = true ∧ ∃ ks, Rd H a (.dT ks) ∧ RpT K G ds ks)
theorem rpb_dic {t : Bool} {ds : List (D × D)} {v : V} (r : RpB K H G (.dic t ds) v) : ∃ a, v = .ref a ∧ DicAt K H G t ds a := r
theorem key_split {t : Bool} {k : D} (h : keyOk t k = true) : (t = false ∧ ∃ j, k = kD j) ∨ (t = true ∧ ∃ j, k = kTD j) := by
  cases k with
  | tup xs =>
    simp only [keyOk, Bool.and_eq_true] at h
    obtain ⟨j, hj⟩ := Option.isSome_iff_exists.mp h.2
    exact .inr ⟨h.1, j, by rw [isFs_some hj]; rfl⟩
  | int i =>
    simp only [keyOk, Bool.and_eq_true, Bool.not_eq_true'] at h
    exact .inl ⟨h.1, .inl i, rfl⟩
  | str i =>
    simp only [keyOk, Bool.and_eq_true, Bool.not_eq_true'] at h
    exact .inl ⟨h.1, .inr i, rfl⟩
  | _ =>
    exfalso
    simp [keyOk, isF] at h
theorem dget_of {t : Bool} {ds : List (D × D)} {a : Addr} {k : D} {y : V} (w : Wf H G) (hd : DicAt K H G t ds a) (hk : keyOk t k = true) (ry : Rp K G k y) :
    ∃ o, DGet H a y o ∧ (∀ d, lookD ds k = some d → ∃ v, o = some v ∧ Rp K G d v) ∧ (lookD ds k = none → o = none) := by
  rcases key_split hk with ⟨ht, j, rfl⟩ | ⟨ht, j, rfl⟩
  · rcases hd with ⟨_, ks, h1, h2⟩ | ⟨h0, _⟩
    · have e := rp_kD ry
      subst e
      exact ⟨valV ks j, .inl ⟨ks, j, h1, rfl, rfl⟩, fun d hl => h2.get hl, fun hl => h2.no hl⟩
    · rw [ht] at h0
      cases h0
  · rcases hd with ⟨h0, _⟩ | ⟨_, ks, h1, h2⟩
    · rw [ht] at h0
      cases h0
    · unfold kTD at ry
      simp only [Rp] at ry
      obtain ⟨b, xs, rfl, h3, h4⟩ := ry
      have e := rpl_kD h4
      subst e
      exact ⟨valV ks j, .inr ⟨ks, j, b, h1, rfl, w.sub _ _ h3, rfl⟩, fun d hl => h2.get hl, fun hl => h2.no hl⟩
end
section
variable {X : Cx} {a b e o ke : Expr} {fo fk f fv : Fe} {pos p pos' tpos : Pos}
/-! ### d[k], k in d -/
def gDGet : D → D → Option D
  | .dic t kvs, k => if keyOk t k then lookD kvs k else none
  | _, _ => none
def eDGet (fo fk : Fe) : Fe := fun env => (fo env).bind fun x => (fk env).bind fun k => gDGet x k
theorem ex_dget (hu : X.A.units + 65 < cLine) (ho : BX X o fo) (hi : EX X ke fk) (hs : NoSl ke := by intro _ _; rfl) : EX X (.Subscript o ke pos) (eDGet fo fk) := pe_imp (pe_dget (by omega) ho hi hs) fun σ H Q q => by
  obtain ⟨H0, G0, G, env, d, S, e1, q⟩ := q
  obtain ⟨x, h1, e1⟩ := Option.bind_eq_some_iff.mp e1
  obtain ⟨k, h2, e1⟩ := Option.bind_eq_some_iff.mp e1
  unfold gDGet at e1
  split at e1
  · rename_i t kvs k
    split at e1
    · rename_i hk
      refine ⟨H0, G0, G, env, _, S, h1, fun v H1 G1 x1 r1 => ⟨H0, G0, G1, env, _, S.ext x1, h2, fun y H2 G2 x2 r2 => ?_⟩⟩
      obtain ⟨a, rfl, hd⟩ := rpb_dic (r1.ext x2)
      obtain ⟨ov, g, hv, _⟩ := dget_of x2.wf hd hk r2
      obtain ⟨v, rfl, rv⟩ := hv _ e1
      exact ⟨a, v, rfl, g, q v H2 G2 (x1.trans x2) rv⟩
    · cases e1
  · cases e1
def gDIn (n : Bool) : D → D → Option D
  | k, .dic t kvs => if keyOk t k then some (.bl (if n then !(lookD kvs k).isSome else (lookD kvs k).isSome)) else none
  | _, _ => none
def eDIn (n : Bool) (fk fo : Fe) : Fe := fun env => (fk env).bind fun k => (fo env).bind fun x => gDIn n k x
theorem dIn_imp {σ : L2.St} {H : Hp} {Q : VK} {n : Bool} (q : tD X.K (eDIn n fk fo) σ H Q) : (tD X.K fk) σ H fun y H1 => (tB X.K fo) σ H1 fun x H2 => ∃ a ov, x = .ref a ∧ DGet H2 a y ov ∧ Q (.bl (if n then !ov.isSome else ov.isSome)) H2 := by
  obtain ⟨H0, G0, G, env, d, S, e1, q⟩ := q
  obtain ⟨k, h1, e1⟩ := Option.bind_eq_some_iff.mp e1
  obtain ⟨x, h2, e1⟩ := Option.bind_eq_some_iff.mp e1
  unfold gDIn at e1
  split at e1
  · rename_i t kvs
    split at e1
    · rename_i hk
      cases e1
      refine ⟨H0, G0, G, env, _, S, h1, fun y H1 G1 x1 r1 => ⟨H0, G0, G1, env, _, S.ext x1, h2, fun v H2 G2 x2 r2 => ?_⟩⟩
      obtain ⟨a, rfl, hd⟩ := rpb_dic r2
      obtain ⟨ov, g, hv, hno⟩ := dget_of x2.wf hd hk (Rp.mono x2.gg _ _ r1)
      have es : ov.isSome = (lookD kvs k).isSome := by
        cases hl : lookD kvs k with
        | none =>
          rw [hno hl]
          rfl
        | some d =>
          obtain ⟨v, rfl, _⟩ := hv d hl
          rfl
      refine ⟨a, ov, rfl, g, q _ H2 G2 (x1.trans x2) ?_⟩
      rw [es]
      exact rp_bl _
    · cases e1
  · cases e1
theorem ex_din (hu : X.A.units + 65 < cLine) (hi : EX X ke fk) (ho : BX X o fo) (hm : behindInMarks .In o = false := by rfl) : EX X (.Compare ke [.In] [o] pos) (eDIn false fk fo) := pe_imp (pe_cmp (pc_din (by omega) hi ho) hm) fun σ H Q q => dIn_imp q
theorem ex_dnotin (hu : X.A.units + 65 < cLine) (hi : EX X ke fk) (ho : BX X o fo) (hm : behindInMarks .NotIn o = false := by rfl) : EX X (.Compare ke [.NotIn] [o] pos) (eDIn true fk fo) := pe_imp (pe_cmp (pc_dnotin (by omega) hi ho) hm) fun σ H Q q => dIn_imp q
theorem tx_din (hu : X.A.units + 65 < cLine) (hi : EX X ke fk) (ho : BX X o fo) (hm : behindInMarks .In o = false := by rfl) : TX X (.Compare ke [.In] [o] pos) (asB (eDIn false fk fo)) := pt_imp (pt_cmp (pc_din (by omega) hi ho) hm) fun σ H Q q => dIn_imp (asB_imp q)
theorem tx_dnotin (hu : X.A.units + 65 < cLine) (hi : EX X ke fk) (ho : BX X o fo) (hm : behindInMarks .NotIn o = false := by rfl) : TX X (.Compare ke [.NotIn] [o] pos) (asB (eDIn true fk fo)) := pt_imp (pt_cmp (pc_dnotin (by omega) hi ho) hm) fun σ H Q q => dIn_imp (asB_imp q)
end

section
variable {X : Cx} {a b e o ke : Expr} {fo fk f fv : Fe} {pos p pos' tpos : Pos} {x : Str}
/-! ### d[k] = v, d[k] op= v -/
def putS (env : List Sl) (i : Nat) (k d : D) : Option Out := match env[i]? with
  | some (.ownD t kvs) => if keyOk t k && lim (kvs.length + 1) then some (.nx (env.set i (.ownD t (putD kvs k d)))) else none
  | _ => none
def sDSet (i : Nat) (fk f : Fe) : Cmd := fun env => (f env).bind fun d => (fk env).bind fun k => putS env i k d
theorem put_own {K : PySem.W.Frag} {H0 G0 H G : Hp} {σ : L2.St} {env : List Sl} (S : Ste K H0 G0 H G σ env) {i : Nat} {k d : D} {y v : V} {o : Out} {E : Ends} (e : putS env i k d = some o) (rk : Rp K G k y) (rv : Rp K G d v) (q : OutOk K H0 G0 E o) :
    ∃ w, σ[i]? = some (some w) ∧ ∃ a H4, w = .ref a ∧ DPut H a y v H4 ∧ E.nx σ H4 := by
  unfold putS at e
  split at e
  · rename_i t kvs hi
    split at e
    · rename_i hz
      rw [Bool.and_eq_true] at hz
      cases e
      obtain ⟨x, hx, a, rfl, g, h0, hd⟩ := S.at hi
      have hl := lim_le hz.2
      refine ⟨.ref a, hx, a, ?_⟩
      rcases key_split hz.1 with ⟨ht, j, rfl⟩ | ⟨ht, j, rfl⟩
      · rcases hd with ⟨_, ks, h1, h2⟩ | ⟨z, _⟩
        · have ey := rp_kD rk
          subst ey
          refine ⟨_, rfl, DPut.k h1 (by rw [← h2.len]; omega), ?_⟩
          exact q σ _ G (S.change hi rfl hx h1 g h0 rfl ⟨a, rfl, g, h0, .inl ⟨ht, _, upd_same, h2.put rv⟩⟩)
        · rw [ht] at z
          cases z
      · rcases hd with ⟨z, _⟩ | ⟨_, ks, h1, h2⟩
        · rw [ht] at z
          cases z
        · unfold kTD at rk
          simp only [Rp] at rk
          obtain ⟨c, xs, rfl, h3, h4⟩ := rk
          have ey := rpl_kD h4
          subst ey
          refine ⟨_, rfl, DPut.t h1 (S.wf.sub _ _ h3) (by rw [← h2.len]; omega), ?_⟩
          exact q σ _ G (S.change hi rfl hx h1 g h0 rfl ⟨a, rfl, g, h0, .inr ⟨ht, _, upd_same, h2.put rv⟩⟩)
    · cases e
  · cases e
theorem sx_dset {i : Nat} (hu : X.A.units + 65 < cLine) (hN : X.N[i]? = some x) (hv : Vis X.env.scope x) (hk : EX X ke fk) (he : EX X e f) (hd : (x == ("__debug__" : Str)) = false := by decide) (hcd : (x == ("__classdict__" : Str)) = false := by decide)
    (hs : swapsWith e (some (.Subscript (.Name x p) ke pos')) pos.line X.env = pure false := by rfl) : SX X (.Assign [.Subscript (.Name x p) ke pos'] e pos) (sDSet i fk f) :=
  ps_imp (ps_dput (by omega) (pe_var hN hv hd hcd) hk he hs) fun E σ H q => by
    obtain ⟨H0, G0, G, env, oo, S, e1, q⟩ := q
    obtain ⟨d, h2, e1⟩ := Option.bind_eq_some_iff.mp e1
    obtain ⟨k, h3, e1⟩ := Option.bind_eq_some_iff.mp e1
    refine ⟨H0, G0, G, env, d, S, h2, fun v H1 G1 x1 r1 => ?_⟩
    have S1 := S.ext x1
    have hi : ∃ s, env[i]? = some s := by
      unfold putS at e1
      cases hq : env[i]? with
      | none => rw [hq] at e1; cases e1
      | some s => exact ⟨s, rfl⟩
    obtain ⟨s, hi⟩ := hi
    obtain ⟨w, hw, _⟩ := S1.at hi
    have hw' : ∃ v, w = some v := by
      unfold putS at e1
      rw [hi] at e1
      cases s with
      | ownD t kvs =>
        obtain ⟨w2, hw2, a, rfl, _⟩ := S1.at hi
        rw [hw] at hw2
        cases hw2
        exact ⟨_, rfl⟩
      | _ => cases e1
    obtain ⟨w, rfl⟩ := hw'
    refine ⟨w, hw, H0, G0, G1, env, k, S1, h3, fun y H2 G2 x2 r2 => ?_⟩
    obtain ⟨w2, hw2, a, H4, rfl, hp, hn⟩ := put_own (S1.ext x2) e1 r2 (Rp.mono x2.gg _ _ r1) q
    rw [hw] at hw2
    cases hw2
    exact ⟨a, H4, rfl, hp, hn⟩
def sDAugD (i : Nat) (g : D → D → Option D) (fk f : Fe) : Cmd := fun env => (fk env).bind fun k => match env[i]? with
  | some (.ownD t kvs) => if keyOk t k then (lookD kvs k).bind fun old => (f env).bind fun y => (g old y).bind fun z => putS env i k z else none
  | _ => none
theorem sx_daug {i : Nat} {op : Operator} {g : D → D → Option D} (hu : X.A.units + 65 < cLine) (hN : X.N[i]? = some x) (hv : Vis X.env.scope x) (hk : EX X ke fk) (he : EX X e f) (ho : PipD X op g) (hd : (x == ("__debug__" : Str)) = false := by decide) (hcd : (x == ("__classdict__" : Str)) = false := by decide)
    (ha : ∀ ov iv new, augStore ke ov iv new = (do holding [new, ov, iv] (setItem ov iv new); release [new, ov, iv] []; pure .next) := by intros; rfl) : SX X (.AugAssign (.Subscript (.Name x p) ke tpos) op e pos) (sDAugD i g fk f) :=
  ps_imp (ps_daug (by omega) (pe_var hN hv hd hcd) hk he (show InOp X op (rD X.K g) from fun pins s σ H x y u v Q I rx ry q => ho pins s σ H x y u v Q I rx ry q) ha) fun E σ H q => by
    obtain ⟨H0, G0, G, env, oo, S, e1, q⟩ := q
    obtain ⟨k, h3, e1⟩ := Option.bind_eq_some_iff.mp e1
    split at e1
    · rename_i t kvs hi
      split at e1
      · rename_i hko
        obtain ⟨old, h4, e1⟩ := Option.bind_eq_some_iff.mp e1
        obtain ⟨dy, h5, e1⟩ := Option.bind_eq_some_iff.mp e1
        obtain ⟨dz, h6, e1⟩ := Option.bind_eq_some_iff.mp e1
        obtain ⟨w, hw, a, rfl, _⟩ := S.at hi
        refine ⟨.ref a, hw, H0, G0, G, env, k, S, h3, fun y H1 G1 x1 r1 => ?_⟩
        have S1 := S.ext x1
        obtain ⟨w2, hw2, a2, e2, g2, h02, hd2⟩ := S1.at hi
        rw [hw] at hw2
        cases hw2
        cases e2
        obtain ⟨ov, gg, hvv, _⟩ := dget_of S1.wf (show DicAt X.K H1 G1 t kvs a from rd_own hd2) hko r1
        obtain ⟨vo, rfl, ro⟩ := hvv old h4
        refine ⟨a, vo, rfl, gg, H0, G0, G1, env, dy, S1, h5, fun y2 H2 G2 x2 r2 => ⟨G2, old, dy, dz, x2.wf, RpB.of x2.wf (Rp.mono x2.gg _ _ ro), RpB.of x2.wf r2, h6, fun z H3 G3 x3 r3 => ?_⟩⟩
        have x23 := x2.trans x3
        obtain ⟨w3, hw3, a3, H4, e3, hp, hn⟩ := put_own (S1.ext x23) e1 (Rp.mono x23.gg _ _ r1) r3 q
        rw [hw] at hw3
        cases hw3
        cases e3
        exact ⟨H4, hp, hn⟩
      · cases e1
    · cases e1
/-! ### new dicts -/
def dN (t : Bool) : Fn := fun _ => some (.ownD t [])
theorem nx_dnewK : NX X (.Dict [] [] pos) (dN false) := pe_imp pe_dnewK fun σ H Q q => by
  obtain ⟨H0, G0, G, env, sl, S, e1, q⟩ := q
  cases e1
  exact fun p hp => q _ _ G (Ext.fresh S.wf hp rfl) ⟨p, rfl, hp, wf_none S.wf hp, .inl ⟨rfl, [], upd_same, by simp only [RpK]⟩⟩
theorem nx_dnewT : NX X (.Dict [] [] pos) (dN true) := pe_imp pe_dnewT fun σ H Q q => by
  obtain ⟨H0, G0, G, env, sl, S, e1, q⟩ := q
  cases e1
  exact fun p hp => q _ _ G (Ext.fresh S.wf hp rfl) ⟨p, rfl, hp, wf_none S.wf hp, .inr ⟨rfl, [], upd_same, by simp only [RpT]⟩⟩
/-! ### len -/
def gLenD : List D → Option D
  | [.dic _ kvs] => some (.int kvs.length)
  | _ => none
theorem clenD : CallR X (.builtin "len") (rC X.K gLenD) := by
  intro pins s σ H vs us Q I r h
  obtain ⟨G, ds, d, w, rr, e, q⟩ := h
  unfold gLenD at e
  split at e
  · cases e
    obtain ⟨v, rfl, hd⟩ := rpbl1 rr
    have hd3 := rpb_dic hd
    obtain ⟨a, hv, hd2⟩ := hd3
    subst hv
    obtain ⟨u, rfl, rx⟩ := vals1 r
    obtain rfl : u = .ref a := rx
    rcases hd2 with ⟨_, ks, h1, h2⟩ | ⟨_, ks, h1, h2⟩
    · refine d_len I h1 fun t s' I' => ⟨.int (ks.length : Nat), H, I', ⟨t, rfl⟩, ?_⟩
      rw [← h2.len]
      exact q _ H G (Ext.refl w) (rp_int _)
    · obtain ⟨z, hs, ys, rel, dd⟩ := dt_rd I.hok h1
      have hl : ks.length = ys.length := Paired.length rel
      refine PySem.call_len_dictH hs dd (by rw [← hl]; rw [sizeLine_eq] at z; omega) ?_
      rw [← hl, ← h2.len]
      exact ⟨.int (_ : Nat), H, I.tok _, ⟨_, rfl⟩, q _ H G (Ext.refl w) (rp_int _)⟩
  · cases e
/-! ### walking a settled dict -/
def keysD : D → Option (List D)
  | .dic _ kvs => some (kvs.map (·.1))
  | _ => none
def valsD : D → Option (List D)
  | .dic false kvs => some (kvs.map (·.2))
  | _ => none
def itemsDD : D → Option (List D)
  | .dic false kvs => some (kvs.map fun kv => .tup [kv.1, kv.2])
  | _ => none
def iKy (f : Fe) : Fl := fun env => (f env).bind keysD
def iVl (f : Fe) : Fl := fun env => (f env).bind valsD
def iIt (f : Fe) : Fl := fun env => (f env).bind itemsDD
theorem RpK.at {K : PySem.W.Frag} {G : Hp} : ∀ {ds : List (D × D)} {ks : List (Key × V)}, RpK K G ds ks → ∀ {i : Nat} {kd d : D}, ds[i]? = some (kd, d) → ∃ k v, ks[i]? = some (k, v) ∧ kd = kD k ∧ Rp K G d v
  | [], _, _, i, kd, d, h => by simp at h
  | (e, e') :: ds, _, r, i, kd, d, h => by
    simp only [RpK] at r
    obtain ⟨j, x, r, rfl, e0, h1, h2⟩ := r
    cases i with
    | zero =>
      simp only [List.getElem?_cons_zero, Option.some.injEq, Prod.mk.injEq] at h
      exact ⟨j, x, rfl, by rw [← h.1]; exact e0, by rw [← h.2]; exact h1⟩
    | succ i =>
      simp only [List.getElem?_cons_succ] at h ⊢
      exact RpK.at h2 h
theorem RpT.at {K : PySem.W.Frag} {G : Hp} : ∀ {ds : List (D × D)} {ks : List (List Key × V)}, RpT K G ds ks → ∀ {i : Nat} {kd d : D}, ds[i]? = some (kd, d) → ∃ k v, ks[i]? = some (k, v) ∧ kd = kTD k ∧ Rp K G d v
  | [], _, _, i, kd, d, h => by simp at h
  | (e, e') :: ds, _, r, i, kd, d, h => by
    simp only [RpT] at r
    obtain ⟨j, x, r, rfl, e0, h1, h2⟩ := r
    cases i with
    | zero =>
      simp only [List.getElem?_cons_zero, Option.some.injEq, Prod.mk.injEq] at h
      exact ⟨j, x, rfl, by rw [← h.1]; exact e0, by rw [← h.2]; exact h1⟩
    | succ i =>
      simp only [List.getElem?_cons_succ] at h ⊢
      exact RpT.at h2 h
variable {tg : Expr} {td : TE}
theorem ilx_keys {f : Fe} (h : EX X e f) : ILX X tg e (iKy f) := pi_imp (pi_keys h) fun σ H R q => by
  obtain ⟨H0, G0, G, env, ds, S, e1, q⟩ := q
  obtain ⟨d, h1, e1⟩ := Option.bind_eq_some_iff.mp e1
  refine ⟨H0, G0, G, env, d, S, h1, fun v H1 G1 x1 r1 => ?_⟩
  unfold keysD at e1
  split at e1
  · cases e1
    simp only [Rp] at r1
    obtain ⟨a, rfl, hd⟩ := r1
    rcases hd with ⟨_, o, ks, h2, h3⟩ | ⟨_, o, ks, h2, h3⟩
    · refine ⟨a, o, rfl, .inl ⟨ks, x1.wf.sub _ _ h2, q _ H1 G1 x1 fun i H G sg w => ⟨fun hi => ⟨w.sub _ _ (sg _ _ h2), ?_⟩, fun z hz => ?_⟩⟩⟩
      · rw [List.length_map, h3.len] at hi
        exact hi
      · rw [List.getElem?_map] at hz
        obtain ⟨⟨kd, dv⟩, hq, rfl⟩ := Option.map_eq_some_iff.mp hz
        obtain ⟨k, v, hk, rfl, rv⟩ := h3.at hq
        refine ⟨⟨w.sub _ _ (sg _ _ h2), (List.getElem?_eq_some_iff.mp hk).1⟩, fun y H' hy => ?_⟩
        obtain ⟨rfl, k2, v2, h5, rfl⟩ := hy
        rw [hk] at h5
        cases h5
        exact ⟨G, Ext.refl w, kV_rp _⟩
    · refine ⟨a, o, rfl, .inr ⟨ks, x1.wf.sub _ _ h2, q _ H1 G1 x1 fun i H G sg w => ⟨fun hi => ⟨w.sub _ _ (sg _ _ h2), ?_⟩, fun z hz => ?_⟩⟩⟩
      · rw [List.length_map, h3.len] at hi
        exact hi
      · rw [List.getElem?_map] at hz
        obtain ⟨⟨kd, dv⟩, hq, rfl⟩ := Option.map_eq_some_iff.mp hz
        obtain ⟨k, v, hk, rfl, rv⟩ := h3.at hq
        refine ⟨⟨w.sub _ _ (sg _ _ h2), (List.getElem?_eq_some_iff.mp hk).1⟩, fun y H' hy => ?_⟩
        obtain ⟨rfl, k2, v2, b, h5, rfl, h6⟩ := hy
        rw [hk] at h5
        cases h5
        refine ⟨G, Ext.refl w, ?_⟩
        unfold kTD
        simp only [Rp]
        exact ⟨b, _, rfl, w.tin _ _ h6 rfl, kV_rpl _⟩
  · cases e1
theorem ilx_vals {f : Fe} {apos cpos : Pos} (h : EX X e f) (hbase : attributeBase e "values" X.env (eval e X.env) = eval e X.env := by rfl) (hline : (apos.endLine == cpos.line) = true := by rfl) : ILX X tg (.Call (.Attribute e "values" apos) [] [] cpos) (iVl f) := pi_imp (pi_values h hbase hline) fun σ H R q => by
  obtain ⟨H0, G0, G, env, ds, S, e1, q⟩ := q
  obtain ⟨d, h1, e1⟩ := Option.bind_eq_some_iff.mp e1
  refine ⟨H0, G0, G, env, d, S, h1, fun v H1 G1 x1 r1 => ?_⟩
  unfold valsD at e1
  split at e1
  · cases e1
    simp only [Rp] at r1
    obtain ⟨a, rfl, hd⟩ := r1
    rcases hd with ⟨_, o, ks, h2, h3⟩ | ⟨ht, _⟩
    · refine ⟨a, o, ks, rfl, x1.wf.sub _ _ h2, q _ H1 G1 x1 fun i H G sg w => ⟨fun hi => ⟨w.sub _ _ (sg _ _ h2), ?_⟩, fun z hz => ?_⟩⟩
      · rw [List.length_map, h3.len] at hi
        exact hi
      · rw [List.getElem?_map] at hz
        obtain ⟨⟨kd, dv⟩, hq, rfl⟩ := Option.map_eq_some_iff.mp hz
        obtain ⟨k, v, hk, rfl, rv⟩ := h3.at hq
        refine ⟨⟨w.sub _ _ (sg _ _ h2), (List.getElem?_eq_some_iff.mp hk).1⟩, fun y H' hy => ?_⟩
        obtain ⟨rfl, k2, h5⟩ := hy
        rw [hk] at h5
        cases h5
        exact ⟨G, Ext.refl w, Rp.mono sg _ _ rv⟩
    · cases ht
  · cases e1
theorem ilx_items {f : Fe} {apos cpos : Pos} {elts : List Expr} {kk : Nat} (h : EX X e f) (hbase : attributeBase e "items" X.env (eval e X.env) = eval e X.env := by rfl) (hline : (apos.endLine == cpos.line) = true := by rfl) : ILX X (.Tuple elts kk tpos) (.Call (.Attribute e "items" apos) [] [] cpos) (iIt f) := pi_imp (pi_items h hbase hline) fun σ H R q => by
  obtain ⟨H0, G0, G, env, ds, S, e1, q⟩ := q
  obtain ⟨d, h1, e1⟩ := Option.bind_eq_some_iff.mp e1
  refine ⟨H0, G0, G, env, d, S, h1, fun v H1 G1 x1 r1 => ?_⟩
  unfold itemsDD at e1
  split at e1
  · cases e1
    simp only [Rp] at r1
    obtain ⟨a, rfl, hd⟩ := r1
    rcases hd with ⟨_, o, ks, h2, h3⟩ | ⟨ht, _⟩
    · refine ⟨a, o, ks, rfl, x1.wf.sub _ _ h2, q _ H1 G1 x1 fun i H G sg w => ⟨fun hi => ⟨w.sub _ _ (sg _ _ h2), ?_⟩, fun z hz => ?_⟩⟩
      · rw [List.length_map, h3.len] at hi
        exact hi
      · rw [List.getElem?_map] at hz
        obtain ⟨⟨kd, dv⟩, hq, rfl⟩ := Option.map_eq_some_iff.mp hz
        obtain ⟨k, v, hk, rfl, rv⟩ := h3.at hq
        refine ⟨⟨w.sub _ _ (sg _ _ h2), (List.getElem?_eq_some_iff.mp hk).1⟩, fun y H' hy => ?_⟩
        obtain ⟨T, k2, v2, h5, rfl, hT, rfl⟩ := hy
        rw [hk] at h5
        cases h5
        exact new_pair w hT (kV_rp _) (Rp.mono sg _ _ rv)
    · cases ht
  · cases e1

/-! ### dict comprehensions -/
def compD (t : Ft) (c : Fb) (ky y : Fe) (env : List Sl) : List D → List (D × D) → Option (List (D × D))
  | [], acc => some acc
  | x :: xs, acc => (t x env).bind fun e => (c e).bind fun k => if k then (ky e).bind fun kk => (y e).bind fun d => if keyOk false kk then compD t c ky y env xs (putD acc kk d) else none else compD t c ky y env xs acc
def fDc (own : List Nat) (it : Fl) (t : Ft) (c : Fb) (ky y : Fe) : Fn := fun env => (it env).bind fun xs => if lim xs.length then (compD t c ky y (wipeE env own) xs []).map (.ownD false) else none
theorem putD_len (kvs : List (D × D)) (k d : D) : (putD kvs k d).length ≤ kvs.length + 1 := by
  unfold putD
  split
  · rw [List.length_map]
    omega
  · rw [List.length_append, List.length_singleton]
    omega
theorem Ext.growD {H1 G1 H G : Hp} (x : Ext H1 G1 H G) {p : Addr} {ks : List (Key × V)} (n : H1 p = none) (g : G p = none) : Ext H1 G1 (upd H p (.dK ks)) G := by
  refine ⟨fun b o e => ?_, x.gg, ⟨fun b o e => ?_, fun b o e hh => ?_⟩, x.new⟩
  · rw [upd_ne (ne_of_none e n)]
    exact x.hh b o e
  · rw [upd_ne (ne_of_none e g)]
    exact x.wf.sub b o e
  · by_cases hb : b = p
    · subst hb
      rw [upd_same] at e
      cases e
      cases hh
    · rw [upd_ne hb] at e
      exact x.wf.tin b o e hh
theorem tDc_of {K : PySem.W.Frag} {it : Fl} {t : Ft} {Sg : List Nat} {ct : Fb} {ky y : Fe} {vs : List Nat} (hsub : ∀ i ∈ Sg, i ∈ vs) {σ : L2.St} {H : Hp} {Q : VK} (q : tN K (fDc vs it t ct ky y) σ H Q) : tDc (iC K it) (tG K t Sg) (tT K ct) (tD K ky) (tD K y) vs σ H Q := by
  obtain ⟨H0, G0, G, env, sl, S, e1, q⟩ := q
  obtain ⟨xs, h1, e1⟩ := Option.bind_eq_some_iff.mp e1
  split at e1
  · rename_i hz
    obtain ⟨ds, e2, rfl⟩ := Option.map_eq_some_iff.mp e1
    refine ⟨H0, G0, G, env, xs, S, h1, fun J H1 G1 x1 hJ Dd hD => ?_⟩
    have S1 := S.ext x1
    have hz' := lim_le hz
    refine ⟨fun i m H2 => m = xs.length - i ∧ i ≤ xs.length ∧ ∃ G2 ks acc, Ext H1 G1 H2 G2 ∧ H2 Dd = some (.dK ks) ∧ G2 Dd = none ∧ RpK K G2 acc ks ∧ acc.length ≤ i ∧ compD t ct ky y (wipeE env vs) (xs.drop i) acc = some ds,
      ⟨xs.length, by omega, Nat.zero_le _, G1, [], [], Ext.fresh x1.wf hD rfl, upd_same, wf_none x1.wf hD, by simp only [RpK], Nat.le_refl _, e2⟩, ?_⟩
    rintro i m H2 ⟨rfl, hi, G2, ks, acc, x2, hD2, gD2, r2, hl2, hc2⟩
    have hj := hJ i H2 G2 x2.hh x2.gg x2.wf
    by_cases hlt : i < xs.length
    · obtain ⟨go, hy⟩ := hj.2 _ (List.getElem?_eq_getElem hlt)
      rw [List.drop_eq_getElem_cons hlt] at hc2
      obtain ⟨env1, h3, h4⟩ := Option.bind_eq_some_iff.mp (show (t xs[i] (wipeE env vs)).bind _ = some ds from hc2)
      obtain ⟨k, h5, h6⟩ := Option.bind_eq_some_iff.mp h4
      refine .inr ⟨go, fun H3 => ∃ m', m' < xs.length - i ∧ (m' = xs.length - (i + 1) ∧ i + 1 ≤ xs.length ∧ ∃ G2 ks acc, Ext H1 G1 H3 G2 ∧ H3 Dd = some (.dK ks) ∧ G2 Dd = none ∧ RpK K G2 acc ks ∧ acc.length ≤ i + 1 ∧ compD t ct ky y (wipeE env vs) (xs.drop (i + 1)) acc = some ds), fun H3 h => h, fun x H3 hyld => ?_⟩
      obtain ⟨G3, x3, r3⟩ := hy x H3 hyld
      have S3 : Ste K H0 G0 H3 G3 (L2.wipe σ vs) (wipeE env vs) := ((S1.ext x2).ext x3).wipe vs
      refine ⟨H0, G0, G3, _, _, env1, S3, r3, h3, fun σ4 S4 o4 => ⟨out_wipe o4 hsub, H0, G0, G3, env1, k, S4, h5, fun H5 G5 x5 => ?_⟩⟩
      have x35 := x3.trans x5
      cases k with
      | true =>
        obtain ⟨kk, h7, h8⟩ := Option.bind_eq_some_iff.mp (show (ky env1).bind _ = some ds from h6)
        obtain ⟨d, h9, h10⟩ := Option.bind_eq_some_iff.mp h8
        split at h10
        · rename_i hko
          refine ⟨H0, G0, G5, env1, kk, S4.ext x5, h7, fun yv H6 G6 x6 r6 => ⟨H0, G0, G6, env1, d, (S4.ext x5).ext x6, h9, fun z H7 G7 x7 r7 => ?_⟩⟩
          have x27 := x35.trans (x6.trans x7)
          have gD := ext_none x27 hD2 gD2
          rcases key_split hko with ⟨_, j, rfl⟩ | ⟨z, _⟩
          · have ey := rp_kD r6
            have rk := RpK.mono x27.gg _ _ r2
            have hl : ks.length ≤ i := by
              rw [← r2.len]
              exact hl2
            exact ⟨ks, j, ey, x27.hh _ _ hD2, by omega, xs.length - (i + 1), by omega, rfl, hlt, G7, _, putD acc (kD j) d, (x2.trans x27).growD hD gD, upd_same, gD, rk.put r7, Nat.le_trans (putD_len _ _ _) (Nat.succ_le_succ hl2), h10⟩
          · cases z
        · cases h10
      | false => exact ⟨xs.length - (i + 1), by omega, rfl, hlt, G5, ks, acc, x2.trans x35, x35.hh _ _ hD2, ext_none x35 hD2 gD2, RpK.mono x35.gg _ _ r2, by omega, h6⟩
    · have e : i = xs.length := by omega
      subst e
      rw [List.drop_length] at hc2
      cases hc2
      exact .inl ⟨hj.1 (Nat.le_refl _), q _ H2 G2 (x1.trans x2) ⟨Dd, rfl, x1.hh.free hD, gD2, .inl ⟨rfl, ks, hD2, r2⟩⟩⟩
  · cases e1
variable {kx vx iter : Expr} {ifs : List Expr} {scope : Scope} {own : List (Str × Nat)} {it : Fl} {t : Ft} {Sg : List Nat} {ct : Fb} {ky y : Fe}
theorem nx_dc (hc : X.calm = true) (hN : X.N.Nodup) (hi : ICX X tg iter it) (ok : BlkOk X.N X.env.scope scope own) (hsub : ∀ i ∈ Sg, i ∈ own.map (·.2))
    (hg : ∀ (s : Shared) (H : Hp) (C : Addr) (cl : List (Str × Addr)) (fp : List Addr), GX (X.blk s H scope (compEnvC scope cl C X.env) fp) tg t Sg) (ht : ∀ (s : Shared) (H : Hp) (C : Addr) (cl : List (Str × Addr)) (fp : List Addr), PTs (X.blk s H scope (compEnvC scope cl C X.env) fp) ifs (tT X.K ct))
    (hk : ∀ (s : Shared) (H : Hp) (C : Addr) (cl : List (Str × Addr)) (fp : List Addr), EX (X.blk s H scope (compEnvC scope cl C X.env) fp) kx ky)
    (he : ∀ (s : Shared) (H : Hp) (C : Addr) (cl : List (Str × Addr)) (fp : List Addr), EX (X.blk s H scope (compEnvC scope cl C X.env) fp) vx y) (hs : ∀ x, foldedSetIterable iter X.env x = pure x := by intro _; rfl) :
    NX X (.DictComp kx vx [⟨tg, iter, ifs, 0⟩] scope pos) (fDc (own.map (·.2)) it t ct ky y) := pe_imp (pe_dc hc hN hi ok hg ht hk he hs) fun _ _ _ q => tDc_of hsub q
end
end PD

set_option Elab.async false
set_option linter.all false
set_option maxRecDepth 100000
namespace PD
open PySem PySem.Spec PyProof.Rows L2
open PySem.W (alike alikeAll dataLt minD maxD AlikeAll)
/-! ### min, max of data -/
mutual
theorem py_inj : ∀ (n m : Nat) (d e : D), okN n d = true → okN m e = true → py d = py e → d = e
  | n, m, .non, e, _, h, q => by cases e <;> first | rfl | (simp [py] at q; done) | (cases m <;> simp [okN] at h; done)
  | n, m, .bl b, e, _, h, q => by cases e <;> first | (simp [py] at q; done) | (simp only [py, PyData.bool.injEq] at q; rw [q])
  | n, m, .int b, e, _, h, q => by cases e <;> first | (simp [py] at q; done) | (simp only [py, PyData.int.injEq] at q; rw [q])
  | n, m, .str b, e, _, h, q => by cases e <;> first | (simp [py] at q; done) | (simp only [py, PyData.str.injEq] at q; rw [q])
  | 0, m, .tup xs, e, h, _, _ => by simp [okN] at h
  | n + 1, m, .tup xs, e, h, h', q => by
    cases e with
    | tup ys =>
      cases m with
      | zero => simp [okN] at h'
      | succ m =>
        simp only [py, PyData.tuple.injEq] at q
        rw [pyL_inj n m xs ys (by simpa [okN] using h) (by simpa [okN] using h') q]
    | _ => simp [py] at q
  | 0, m, .lst xs, e, h, _, _ => by simp [okN] at h
  | n + 1, m, .lst xs, e, h, h', q => by
    cases e with
    | lst ys =>
      cases m with
      | zero => simp [okN] at h'
      | succ m =>
        simp only [py, PyData.list.injEq] at q
        rw [pyL_inj n m xs ys (by simpa [okN] using h) (by simpa [okN] using h') q]
    | scr ys => cases m <;> simp [okN] at h'
    | _ => simp [py] at q
  | n, m, .dic _ _, e, h, _, _ => by cases n <;> simp [okN] at h
  | n, m, .scr _, e, h, _, _ => by cases n <;> simp [okN] at h
theorem pyL_inj : ∀ (n m : Nat) (xs ys : List D), (∀ x ∈ xs, okN n x = true) → (∀ y ∈ ys, okN m y = true) → pyL xs = pyL ys → xs = ys
  | _, _, [], [], _, _, _ => rfl
  | _, _, [], _ :: _, _, _, q => by simp [pyL] at q
  | _, _, _ :: _, [], _, _, q => by simp [pyL] at q
  | n, m, x :: xs, y :: ys, h, h', q => by
    simp only [pyL, List.cons.injEq] at q
    rw [py_inj n m x y (h x List.mem_cons_self) (h' y List.mem_cons_self) q.1, pyL_inj n m xs ys (fun z hz => h z (List.mem_cons_of_mem _ hz)) (fun z hz => h' z (List.mem_cons_of_mem _ hz)) q.2]
end
def ltD (x y : D) : Bool := dataLt (py x) (py y)
def minDD (x : D) (xs : List D) : D := xs.foldl (fun a y => if ltD y a then y else a) x
def maxDD (x : D) (xs : List D) : D := xs.foldl (fun a y => if ltD a y then y else a) x
def minOk (xs : List D) : Bool := xs.all (okN 62) && (xs.all fun x => !isNon x) && xs.all fun a => xs.all fun b => alikeD a b
theorem pyL_map : ∀ xs : List D, pyL xs = xs.map py
  | [] => rfl
  | x :: xs => by simp only [pyL, List.map_cons, pyL_map xs]
theorem minD_py : ∀ (xs : List D) (x : D), minD (py x) (pyL xs) = py (minDD x xs)
  | [], x => rfl
  | y :: xs, x => by
    have := minD_py xs (if ltD y x then y else x)
    unfold minD minDD at this ⊢
    rw [pyL_map] at this ⊢
    simp only [List.map_cons, List.foldl_cons]
    rw [← this]
    congr 1
    unfold ltD
    split <;> rfl

theorem maxD_py : ∀ (xs : List D) (x : D), maxD (py x) (pyL xs) = py (maxDD x xs)
  | [], x => rfl
  | y :: xs, x => by
    have := maxD_py xs (if ltD x y then y else x)
    unfold maxD maxDD at this ⊢
    rw [pyL_map] at this ⊢
    simp only [List.map_cons, List.foldl_cons]
    rw [← this]
    congr 1
    unfold ltD
    split <;> rfl
theorem minDD_mem : ∀ (xs : List D) (x : D), minDD x xs ∈ x :: xs
  | [], x => List.mem_cons_self
  | y :: xs, x => by
    have h : minDD x (y :: xs) = minDD (if ltD y x then y else x) xs := rfl
    rw [h]
    have := minDD_mem xs (if ltD y x then y else x)
    rcases List.mem_cons.mp this with q | q
    · rw [q]
      split
      · exact List.mem_cons_of_mem _ List.mem_cons_self
      · exact List.mem_cons_self
    · exact List.mem_cons_of_mem _ (List.mem_cons_of_mem _ q)
theorem maxDD_mem : ∀ (xs : List D) (x : D), maxDD x xs ∈ x :: xs
  | [], x => List.mem_cons_self
  | y :: xs, x => by
    have h : maxDD x (y :: xs) = maxDD (if ltD x y then y else x) xs := rfl
    rw [h]
    have := maxDD_mem xs (if ltD x y then y else x)
    rcases List.mem_cons.mp this with q | q
    · rw [q]
      split
      · exact List.mem_cons_of_mem _ List.mem_cons_self
      · exact List.mem_cons_self
    · exact List.mem_cons_of_mem _ (List.mem_cons_of_mem _ q)
theorem minOk_s {xs : List D} (h : minOk xs = true) : (∀ x ∈ xs, okN 62 x = true) ∧ AlikeAll (pyL xs) := by
  unfold minOk at h
  rw [Bool.and_eq_true, Bool.and_eq_true] at h
  obtain ⟨⟨h1, h2⟩, h3⟩ := h
  rw [pyL_map]
  refine ⟨List.all_eq_true.mp h1, fun p hp q hq => ?_, fun p hp => ?_⟩
  · obtain ⟨x, hx, rfl⟩ := List.mem_map.mp hp
    obtain ⟨y, hy, rfl⟩ := List.mem_map.mp hq
    exact List.all_eq_true.mp (List.all_eq_true.mp h3 x hx) y hy
  · obtain ⟨x, hx, rfl⟩ := List.mem_map.mp hp
    have a := List.all_eq_true.mp h1 x hx
    have b := List.all_eq_true.mp h2 x hx
    cases x <;> first | (simp [isNon] at b; done) | (simp [okN] at a; done) | simp [py]
theorem depthAll_le : ∀ {xs : List D}, (∀ x ∈ xs, okN 62 x = true) → PyData.depthAll (pyL xs) ≤ 62
  | [], _ => by simp [pyL, PyData.depthAll]
  | x :: xs, h => by
    have h1 := (okN_lay 62 x (h x List.mem_cons_self)).2
    have h2 := depthAll_le fun y hy => h y (List.mem_cons_of_mem _ hy)
    simp only [pyL, PyData.depthAll]
    omega
def rBestD (K : PySem.W.Frag) (best : D → List D → D) : List V → Hp → VK → Prop := fun vs H Q => ∃ a xs d ds G, vs = [V.ref a] ∧ (SqL K H a xs ∨ SqT K H a xs) ∧ Wf H G ∧ RpL K G (d :: ds) xs ∧ minOk (d :: ds) = true ∧ ∀ v, Rp K G (best d ds) v → Q v H
theorem best_end {X : Cx} {pins : List (Addr × Obj)} {σ : L2.St} {H G : Hp} {s : Shared} {xs : List V} {its : List Value} {d : D} {ds : List D} {m : D} {Q : VK} (I : Inv X pins σ H s) (w : Wf H G) (r : RpL X.K G (d :: ds) xs) (rv : Vals xs its) (hk : minOk (d :: ds) = true) (hm : m ∈ d :: ds) (q : ∀ v, Rp X.K G m v → Q v H)
    {i : Nat} {v : Value} {h' : Heap} {tk : Nat} {bs : List Addr} (hv : its.toArray[i]? = some v) (rm : Reads h' v (py m) bs) (k : ∀ b o, s.heap.get? b = some o → h'.get? b = some o) : EP X pins σ Q v { s with heap := h', toks := tk } := by
  obtain ⟨o1, al⟩ := minOk_s hk
  have hv' : its[i]? = some v := by simpa using hv
  have hi : i < its.length := (List.getElem?_eq_some_iff.mp hv').1
  have hl := rv.length
  have hx : xs[i]? = some (xs[i]'(by omega)) := List.getElem?_eq_getElem (by omega)
  obtain ⟨u, hu, ru⟩ := rv.get hx
  rw [hv'] at hu
  cases hu
  have hd : (d :: ds)[i]? = some ((d :: ds)[i]'(by rw [r.len]; omega)) := List.getElem?_eq_getElem (by rw [r.len]; omega)
  have re := r.get hd hx
  have hme : (d :: ds)[i]'(by rw [r.len]; omega) ∈ d :: ds := List.getElem_mem _
  generalize (d :: ds)[i]'(by rw [r.len]; omega) = e at hd re hme
  obtain ⟨as, ra⟩ := Dp.reads I _ _ _ (Rp.dp _ _ 62 (o1 _ hme) (Rp.mono w.sub _ _ re)) ru
  have ra' := PyProof.Rows.Reads.keeps k ra
  have hal : alike (py e) (py m) = true := al.1 _ (by rw [pyL_map]; exact List.mem_map.mpr ⟨_, hme, rfl⟩) _ (by rw [pyL_map]; exact List.mem_map.mpr ⟨_, hm, rfl⟩)
  have ee := py_inj 62 62 _ _ (o1 _ hme) (o1 _ hm) (PySem.W.alike_unique _ _ _ _ _ hal ra' rm)
  rw [ee] at re
  exact ⟨_, H, I.kept (t' := tk) k, ru, q _ re⟩
theorem call_minD {X : Cx} (hc : X.calm = true) (hu : X.A.units + 65 < cLine) : CallR X (.builtin "min") (rBestD X.K minDD) := by
  intro pins s σ H vs us Q I r h
  obtain ⟨a, xs, d, ds, G, rfl, hs, w, hr, hk, q⟩ := h
  obtain ⟨o1, al⟩ := minOk_s hk
  have hdp := depthAll_le o1
  rw [Vals.ref1 r]
  rcases hs with hs | hs
  · obtain ⟨its, rv, hl, hz⟩ := I.list hs
    obtain ⟨as, ra⟩ := Dp.readsAll I _ _ _ (RpL.dp _ _ 62 o1 (RpL.mono w.sub _ _ hr)) rv
    refine PySem.W.min_list_data (x := py d) (xs := pyL ds) (I.ok.hd hc) hl.isList (show ReadsAll s.heap its.toArray.toList (pyL (d :: ds)) as from ra) al (by
      show X.A.units + 1 + PyData.depthAll (pyL (d :: ds)) < cLine
      omega) fun i v h' tk bs hv rm k => ?_
    rw [minD_py] at rm
    exact best_end I w hr rv hk (minDD_mem ds d) q hv rm k
  · obtain ⟨its, rv, hl, hz⟩ := I.tuple hs
    obtain ⟨as, ra⟩ := Dp.readsAll I _ _ _ (RpL.dp _ _ 62 o1 (RpL.mono w.sub _ _ hr)) rv
    refine PySem.W.min_tuple_data (x := py d) (xs := pyL ds) (I.ok.hd hc) (show s.heap.IsTuple a its.toArray from hl) (show ReadsAll s.heap its.toArray.toList (pyL (d :: ds)) as from ra) al (by
      show X.A.units + 1 + PyData.depthAll (pyL (d :: ds)) < cLine
      omega) fun i v h' tk bs hv rm k => ?_
    rw [minD_py] at rm
    exact best_end I w hr rv hk (minDD_mem ds d) q hv rm k
theorem call_maxD {X : Cx} (hc : X.calm = true) (hu : X.A.units + 65 < cLine) : CallR X (.builtin "max") (rBestD X.K maxDD) := by
  intro pins s σ H vs us Q I r h
  obtain ⟨a, xs, d, ds, G, rfl, hs, w, hr, hk, q⟩ := h
  obtain ⟨o1, al⟩ := minOk_s hk
  have hdp := depthAll_le o1
  rw [Vals.ref1 r]
  rcases hs with hs | hs
  · obtain ⟨its, rv, hl, hz⟩ := I.list hs
    obtain ⟨as, ra⟩ := Dp.readsAll I _ _ _ (RpL.dp _ _ 62 o1 (RpL.mono w.sub _ _ hr)) rv
    refine PySem.W.max_list_data (x := py d) (xs := pyL ds) (I.ok.hd hc) hl.isList (show ReadsAll s.heap its.toArray.toList (pyL (d :: ds)) as from ra) al (by
      show X.A.units + 1 + PyData.depthAll (pyL (d :: ds)) < cLine
      omega) fun i v h' tk bs hv rm k => ?_
    rw [maxD_py] at rm
    exact best_end I w hr rv hk (maxDD_mem ds d) q hv rm k
  · obtain ⟨its, rv, hl, hz⟩ := I.tuple hs
    obtain ⟨as, ra⟩ := Dp.readsAll I _ _ _ (RpL.dp _ _ 62 o1 (RpL.mono w.sub _ _ hr)) rv
    refine PySem.W.max_tuple_data (x := py d) (xs := pyL ds) (I.ok.hd hc) (show s.heap.IsTuple a its.toArray from hl) (show ReadsAll s.heap its.toArray.toList (pyL (d :: ds)) as from ra) al (by
      show X.A.units + 1 + PyData.depthAll (pyL (d :: ds)) < cLine
      omega) fun i v h' tk bs hv rm k => ?_
    rw [maxD_py] at rm
    exact best_end I w hr rv hk (maxDD_mem ds d) q hv rm k
/-- min(xs), max(xs): whole numbers, or other data that are alike -/
def gBest (bi : Int → List Int → Int) (bd : D → List D → D) (xs : List D) : Option D := match intsOf xs with
  | some [] => none
  | some (n :: r) => some (.int (bi n r))
  | none => match xs with
    | [] => none
    | d :: ds => if minOk (d :: ds) then some (bd d ds) else none
def gMinA : List D → Option D
  | [.lst xs] => gBest minL minDD xs
  | [.tup xs] => gBest minL minDD xs
  | _ => none
def gMaxA : List D → Option D
  | [.lst xs] => gBest maxL maxDD xs
  | [.tup xs] => gBest maxL maxDD xs
  | _ => none
theorem ints_alike (n : Int) (r : List Int) : minOk ((n :: r).map D.int) = true := by
  unfold minOk
  simp only [Bool.and_eq_true, List.all_eq_true]
  refine ⟨⟨fun x hx => ?_, fun x hx => ?_⟩, fun x hx y hy => ?_⟩
  · obtain ⟨i, _, rfl⟩ := List.mem_map.mp hx
    rfl
  · obtain ⟨i, _, rfl⟩ := List.mem_map.mp hx
    rfl
  · obtain ⟨i, _, rfl⟩ := List.mem_map.mp hx
    obtain ⟨j, _, rfl⟩ := List.mem_map.mp hy
    simp [alikeD, py, alike]
theorem minDD_ints : ∀ (r : List Int) (n : Int), minDD (.int n) (r.map D.int) = .int (minL n r)
  | [], n => rfl
  | x :: r, n => by
    have h : minDD (.int n) ((x :: r).map D.int) = minDD (if ltD (.int x) (.int n) then .int x else .int n) (r.map D.int) := rfl
    have e : (if ltD (.int x) (.int n) = true then D.int x else D.int n) = .int (min n x) := by
      unfold ltD
      simp only [py, PySem.W.dataLt_int, decide_eq_true_eq]
      split
      · congr 1
        omega
      · congr 1
        omega
    rw [h, e, minDD_ints r]
    rfl
theorem maxDD_ints : ∀ (r : List Int) (n : Int), maxDD (.int n) (r.map D.int) = .int (maxL n r)
  | [], n => rfl
  | x :: r, n => by
    have h : maxDD (.int n) ((x :: r).map D.int) = maxDD (if ltD (.int n) (.int x) then .int x else .int n) (r.map D.int) := rfl
    have e : (if ltD (.int n) (.int x) = true then D.int x else D.int n) = .int (max n x) := by
      unfold ltD
      simp only [py, PySem.W.dataLt_int, decide_eq_true_eq]
      split
      · congr 1
        omega
      · congr 1
        omega
    rw [h, e, maxDD_ints r]
    rfl
theorem gBest_of {bi : Int → List Int → Int} {bd : D → List D → D} (hb : ∀ (r : List Int) (n : Int), bd (.int n) (r.map D.int) = .int (bi n r)) {xs : List D} {m : D} (e : gBest bi bd xs = some m) : ∃ d ds, xs = d :: ds ∧ minOk (d :: ds) = true ∧ m = bd d ds := by
  unfold gBest at e
  split at e
  · cases e
  · rename_i n r h
    cases e
    have := intsOf_some h
    subst this
    exact ⟨.int n, r.map D.int, rfl, ints_alike n r, (hb r n).symm⟩
  · split at e
    · cases e
    · rename_i d ds _
      split at e
      · rename_i hk
        cases e
        exact ⟨d, ds, rfl, hk, rfl⟩
      · cases e
theorem cminA {X : Cx} (hc : X.calm = true) (hu : X.A.units + 65 < cLine) : CallR X (.builtin "min") (rC X.K gMinA) := (call_minD hc hu).imp fun vs H Q q => by
  obtain ⟨G, ds, m, w, r, e, q⟩ := q
  unfold gMinA at e
  split at e
  · obtain ⟨d, rest, rfl, hk, rfl⟩ := gBest_of minDD_ints e
    obtain ⟨a, xs, rfl, h2, h3⟩ := rpbl_lst r
    exact ⟨a, xs, d, rest, G, rfl, .inl (SqL.of h2), w, h3, hk, fun v rv => q v H G (Ext.refl w) rv⟩
  · obtain ⟨d, rest, rfl, hk, rfl⟩ := gBest_of minDD_ints e
    obtain ⟨a, xs, rfl, h2, h3⟩ := rpbl_tup r
    exact ⟨a, xs, d, rest, G, rfl, .inr (sqt_up w h2), w, h3, hk, fun v rv => q v H G (Ext.refl w) rv⟩
  · cases e
theorem cmaxA {X : Cx} (hc : X.calm = true) (hu : X.A.units + 65 < cLine) : CallR X (.builtin "max") (rC X.K gMaxA) := (call_maxD hc hu).imp fun vs H Q q => by
  obtain ⟨G, ds, m, w, r, e, q⟩ := q
  unfold gMaxA at e
  split at e
  · obtain ⟨d, rest, rfl, hk, rfl⟩ := gBest_of maxDD_ints e
    obtain ⟨a, xs, rfl, h2, h3⟩ := rpbl_lst r
    exact ⟨a, xs, d, rest, G, rfl, .inl (SqL.of h2), w, h3, hk, fun v rv => q v H G (Ext.refl w) rv⟩
  · obtain ⟨d, rest, rfl, hk, rfl⟩ := gBest_of maxDD_ints e
    obtain ⟨a, xs, rfl, h2, h3⟩ := rpbl_tup r
    exact ⟨a, xs, d, rest, G, rfl, .inr (sqt_up w h2), w, h3, hk, fun v rv => q v H G (Ext.refl w) rv⟩
  · cases e
end PD

set_option Elab.async false
set_option linter.all false
set_option maxRecDepth 100000
namespace PD
open PySem PySem.Spec PyProof.Rows L2
section
variable {X : Cx} {tg a b c e ke : Expr} {f fi fv : Fe} {fl : Fl} {p pos tpos apos cpos : Pos} {x : Str}
/-! ### range(i, j, -1) -/
def rngC (lo c : Int) (n : Nat) : List D := (List.range n).map fun k => .int (lo + (k : Nat) * c)
theorem itc_okL {K : PySem.W.Frag} {lo c : Int} {n : Nat} {H1 G1 : Hp} : ItL K (Itc lo c n) (rngC lo c n) H1 G1 := fun i H G sg w => by
  unfold rngC
  refine ⟨fun hi => ?_, fun d hd => ?_⟩
  · rw [List.length_map, List.length_range] at hi
    exact hi
  · rw [List.getElem?_map] at hd
    obtain ⟨k, hk, rfl⟩ := Option.map_eq_some_iff.mp hd
    obtain ⟨hi, hk⟩ := List.getElem?_eq_some_iff.mp hk
    rw [List.getElem_range] at hk
    subst hk
    rw [List.length_range] at hi
    refine ⟨hi, fun y H' hy => ?_⟩
    obtain ⟨rfl, rfl⟩ := hy
    exact ⟨G, Ext.refl w, rp_int _⟩
def iRg3 (fl : Fl) : Fl := fun env => match fl env with
  | some [.int i, .int j, .int c] => if rngOk i && rngOk j && decide (c = -1) then some (rngC i (-1) (i - j).toNat) else none
  | _ => none
theorem ilx_rg3 (hg : Gl X "range") (hm : X.mg "range" = none) (ha : ABX X [a, b, c] fl) (hs : starEach [a, b, c] X.env = (false, eval a X.env) :: starEach [b, c] X.env := by rfl) (hpl : (backTo pos (starEach [b, c] X.env)).any (·.1) = false := by rfl) :
    ILX X tg (.Call (.Name "range" p) [a, b, c] [] pos) (iRg3 fl) := pi_imp (pi_range3 hg hm ha hs hpl) fun σ H R q => by
  obtain ⟨H0, G0, G, env, ds, S, e1, q⟩ := q
  unfold iRg3 at e1
  split at e1
  · rename_i i j c hj
    split at e1
    · rename_i hz
      simp only [Bool.and_eq_true, decide_eq_true_eq] at hz
      obtain ⟨⟨h1, h2⟩, rfl⟩ := hz
      cases e1
      have b1 := rngOk_b h1
      have b2 := rngOk_b h2
      refine ⟨H0, G0, G, env, _, S, hj, fun vs H1 G1 x1 r1 => ?_⟩
      obtain ⟨v, r, rfl, ra, r1⟩ := r1
      obtain ⟨v2, r, rfl, rb, r1⟩ := r1
      obtain ⟨v3, r, rfl, rc, r1⟩ := r1
      have r1 : r = [] := r1
      subst r1
      exact ⟨i, j, -1, (i - j).toNat, by rw [rpb_int ra, rpb_int rb, rpb_int rc], RgC.neg b1.1 b1.2 b2.1 b2.2, q _ H1 G1 x1 itc_okL⟩
    · cases e1
  · cases e1
/-! ### xs[::-1] of a list -/
def gRev : D → Option D
  | .lst xs => some (.lst xs.reverse)
  | _ => none
def eRev (f : Fe) : Fe := fun env => (f env).bind gRev
theorem ex_revL {k : Nat} {p1 p2 p3 : Pos} (h : BX X e f) : EX X (.Subscript e (.Slice none none (some (.UnaryOp .USub (.Constant (.int 1) k p1) p2)) p3) pos) (eRev f) := pe_imp (pe_revL h) fun σ H Q q => by
  obtain ⟨H0, G0, G, env, d, S, e1, q⟩ := q
  obtain ⟨y, h1, e1⟩ := Option.bind_eq_some_iff.mp e1
  unfold gRev at e1
  split at e1
  · cases e1
    refine ⟨H0, G0, G, env, _, S, h1, fun v H1 G1 x1 r1 => ?_⟩
    obtain ⟨a, xs, rfl, h2, h3⟩ := r1
    exact ⟨a, xs, rfl, SqL.of h2, new_lst x1.wf h3.reverse fun v H2 G2 x2 r2 => q v H2 G2 (x1.trans x2) r2⟩
  · cases e1
/-! ### x[i] op= e -/
def rGetL (K : PySem.W.Frag) : V → V → Hp → VK → Prop := fun o i H Q => ∃ (a : Addr) (xs : List V) (k : Int) (z : V), o = .ref a ∧ i = .int k ∧ SqL K H a xs ∧ atI xs k = some z ∧ Q z H
theorem get_list : PGet X (rGetL X.K) := by
  intro pins s σ H o i ov iv Q I ro ri h
  obtain ⟨a, xs, k, z, rfl, rfl, hq, he, q⟩ := h
  cases ro
  obtain ⟨t, rfl⟩ := ri
  obtain ⟨its, r, pl, hz⟩ := I.list hq
  obtain ⟨j, h1, h2, h3, h4, h5⟩ := atI_get he
  obtain ⟨w, ew, rw'⟩ := r.get h2
  have hl := r.length
  have hn := line63
  have fin : EP X pins σ Q w s := ⟨z, H, I, rw', q⟩
  by_cases h0 : 0 ≤ k
  · have hj : k.toNat = j := by
      rw [seqIndex_of h0 h5] at h1
      exact Option.some.inj h1
    exact wpAny_getItem_list pl.isList h0 (by omega) (by rw [hj]; simpa using ew) fin
  · have hj : (k + (its.toArray.size : Int)).toNat = j := by
      rw [seqIndex_neg (by omega) h4] at h1
      rw [List.size_toArray, ← hl]
      exact Option.some.inj h1
    exact wpAny_getItem_list_neg pl.isList (by omega) (by rw [List.size_toArray] <;> omega) (by omega) (by rw [hj]; simpa using ew) fin
def sAugI (i : Nat) (g : D → D → Option D) (fi f : Fe) : Cmd := fun env => (fi env).bind fun k => match k, env[i]? with
  | .int z, some (.own ds) => (ixN ds.length z).bind fun j => (ds[j]?).bind fun old => (f env).bind fun y => (g old y).map fun d => Out.nx (env.set i (.own (ds.set j d)))
  | _, _ => none
theorem sx_augI {i : Nat} {op : Operator} {g : D → D → Option D} (hN : X.N[i]? = some x) (hv : Vis X.env.scope x) (hi : BX X ke fi) (he : EX X e f) (ho : PipD X op g) (hd : (x == ("__debug__" : Str)) = false := by decide) (hcd : (x == ("__classdict__" : Str)) = false := by decide)
    (ha : ∀ ov iv new, augStore ke ov iv new = (do holding [new, ov, iv] (setItem ov iv new); release [new, ov, iv] []; pure .next) := by intros; rfl) : SX X (.AugAssign (.Subscript (.Name x p) ke tpos) op e pos) (sAugI i g fi f) :=
  ps_imp (ps_augS (pe_var hN hv hd hcd) hi get_list he (show PIp X op (rD X.K g) from fun pins s σ H x y v u Q I rx ry q => ho pins s σ H x y v u Q I rx ry q) set_list ha) fun E σ H q => by
    obtain ⟨H0, G0, G, env, oo, S, e1, q⟩ := q
    obtain ⟨k, h3, e1⟩ := Option.bind_eq_some_iff.mp e1
    split at e1
    · rename_i z ds hi
      obtain ⟨j, h4, e1⟩ := Option.bind_eq_some_iff.mp e1
      obtain ⟨old, h5, e1⟩ := Option.bind_eq_some_iff.mp e1
      obtain ⟨dy, h6, e1⟩ := Option.bind_eq_some_iff.mp e1
      obtain ⟨d, h7, rfl⟩ := Option.map_eq_some_iff.mp e1
      obtain ⟨w, hw, a, xs, rfl, _⟩ := S.at hi
      refine ⟨.ref a, hw, H0, G0, G, env, _, S, h3, fun y H1 G1 x1 r1 => ?_⟩
      have S1 := S.ext x1
      obtain ⟨w2, hw2, a2, xs2, e2, hh, g2, h02, hr⟩ := S1.at hi
      rw [hw] at hw2
      cases hw2
      cases e2
      obtain ⟨vo, hvo, ro⟩ := hr.at h5
      have hat : atI xs2 z = some vo := by
        unfold atI
        rw [← hr.len, h4]
        exact hvo
      refine ⟨a, xs2, z, vo, rfl, rpb_int r1, SqL.of hh, hat, H0, G0, G1, env, dy, S1, h6, fun y2 H2 G2 x2 r2 => ⟨G2, old, dy, d, x2.wf, RpB.of x2.wf (Rp.mono x2.gg _ _ ro), RpB.of x2.wf r2, h7, fun v H3 G3 x3 r3 => ?_⟩⟩
      have x23 := x2.trans x3
      have S3 := S1.ext x23
      have g3 := ext_none x23 hh g2
      have l3 := RpL.mono x23.gg _ _ hr
      refine ⟨a, xs2, z, j, rfl, rpb_int r1, x23.hh _ _ hh, by rw [← hr.len]; exact h4, ?_⟩
      exact q σ _ G3 (S3.change hi rfl hw (x23.hh _ _ hh) g3 h02 rfl ⟨a, _, rfl, upd_same, g3, h02, RpL.set r3 _ l3⟩)
    · cases e1
/-! ### xs.index(y), xs.count(y) of a list; gcd, bit_length -/
def eM1 (g : D → D → Option D) (fo fa : Fe) : Fe := fun env => (fo env).bind fun x => (fa env).bind fun y => g x y
def gIndex : D → D → Option D
  | .lst xs, y => if xs.all (okN 62) && okN 62 y then (match xs.findIdx? (fun z => eqD z y) with
    | some j => some (.int (j : Nat))
    | none => none) else none
  | _, _ => none
def gCount : D → D → Option D
  | .lst xs, .int k => (intsOf xs).map fun ns => .int (ns.count k : Nat)
  | _, _ => none
theorem ex_count {o : Expr} {fo fa : Fe} (ho : BX X o fo) (ha : BX X a fa) (hbase : attributeBase o "count" X.env (eval o X.env) = eval o X.env := by rfl)
    (hfew : ((backTo cpos (starEach [a] X.env)).all (fun x => !x.1) && (backToKw cpos (keywordEach [] X.env)).all (fun x => x.1.isSome) && decide (([a] : List Expr).length + ([] : List Keyword).length + (if ([] : List Keyword).isEmpty then 0 else 1) < 30)) = true := by rfl)
    (hline : (apos.endLine == cpos.line) = true := by rfl) (hs : starEach [a] X.env = (false, eval a X.env) :: starEach [] X.env := by rfl) (hpl : (backTo cpos (starEach [] X.env)).any (·.1) = false := by rfl) : EX X (.Call (.Attribute o "count" apos) [a] [] cpos) (eM1 gCount fo fa) :=
  pe_imp (pe_bm PySem.F.plainAttrs_list PySem.F.slot_list_count PySem.F.type_list_count mt_lcount ho (pa_cons ha pa_nil hs) hbase hfew hline hs hpl) fun σ H Q q => by
    obtain ⟨H0, G0, G, env, d, S, e1, q⟩ := q
    obtain ⟨x, h1, e1⟩ := Option.bind_eq_some_iff.mp e1
    obtain ⟨y, h2, e1⟩ := Option.bind_eq_some_iff.mp e1
    unfold gCount at e1
    split at e1
    · rename_i xs k _
      obtain ⟨ns, h3, rfl⟩ := Option.map_eq_some_iff.mp e1
      refine ⟨H0, G0, G, env, _, S, h1, fun v H1 G1 x1 r1 => ?_⟩
      obtain ⟨b, vs, rfl, h4, h5⟩ := r1
      refine ⟨.inl ⟨rfl, vs, SqL.of h4⟩, H0, G0, G1, env, _, S.ext x1, h2, fun u H2 G2 x2 r2 => ?_⟩
      rw [intsOf_some h3] at h5
      rw [h5.ints] at h4
      exact ⟨b, ns, k, rfl, by rw [rpb_int r2], SqL.of (x2.hh _ _ h4), q _ H2 G2 (x1.trans x2) (rp_int _)⟩
    · cases e1
theorem ex_index {o : Expr} {fo fa : Fe} (hu : X.A.units + 65 < cLine) (ho : BX X o fo) (ha : BX X a fa) (hbase : attributeBase o "index" X.env (eval o X.env) = eval o X.env := by rfl)
    (hfew : ((backTo cpos (starEach [a] X.env)).all (fun x => !x.1) && (backToKw cpos (keywordEach [] X.env)).all (fun x => x.1.isSome) && decide (([a] : List Expr).length + ([] : List Keyword).length + (if ([] : List Keyword).isEmpty then 0 else 1) < 30)) = true := by rfl)
    (hline : (apos.endLine == cpos.line) = true := by rfl) (hs : starEach [a] X.env = (false, eval a X.env) :: starEach [] X.env := by rfl) (hpl : (backTo cpos (starEach [] X.env)).any (·.1) = false := by rfl) : EX X (.Call (.Attribute o "index" apos) [a] [] cpos) (eM1 gIndex fo fa) :=
  pe_imp (pe_bm PySem.F.plainAttrs_list PySem.F.slot_list_index PySem.F.type_list_index (mt_indexD hu) ho (pa_cons ha pa_nil hs) hbase hfew hline hs hpl) fun σ H Q q => by
    obtain ⟨H0, G0, G, env, d, S, e1, q⟩ := q
    obtain ⟨x, h1, e1⟩ := Option.bind_eq_some_iff.mp e1
    obtain ⟨y, h2, e1⟩ := Option.bind_eq_some_iff.mp e1
    cases x with
    | lst xs =>
      have e1 : (if xs.all (okN 62) && okN 62 y then (match xs.findIdx? (fun z => eqD z y) with
        | some j => some (.int (j : Nat))
        | none => none) else none) = some d := e1
      split at e1
      · rename_i hz
        rw [Bool.and_eq_true] at hz
        have hall : ∀ z ∈ xs, okN 62 z = true := List.all_eq_true.mp hz.1
        split at e1
        · rename_i j hj
          cases e1
          refine ⟨H0, G0, G, env, _, S, h1, fun v H1 G1 x1 r1 => ?_⟩
          obtain ⟨b, vs, rfl, h4, h5⟩ := r1
          refine ⟨.inl ⟨rfl, vs, SqL.of h4⟩, H0, G0, G1, env, _, S.ext x1, h2, fun u H2 G2 x2 r2 => ?_⟩
          obtain ⟨hjl, hjt, hjn⟩ := List.findIdx?_eq_some_iff_getElem.mp hj
          have hok : okN 63 (.lst xs) = true := by simpa [okN] using hall
          have sh : ∀ (n : Nat) (d : D), n ≤ 64 → okN n d = true → SeqAt.shaped (py d) = true := fun n d hn hd => by
            have := okN_lay n d hd
            unfold SeqAt.shaped
            rw [Bool.and_eq_true]
            exact ⟨this.1, decide_eq_true (by omega)⟩
          refine ⟨b, u, py y, pyL xs, j, py xs[j], rfl, rfl, ?_, Rp.dp y u 62 hz.2 (r2.all x2.wf (okN_nd hz.2)), ?_, sh 62 y (by omega) hz.2, ?_, hjt, fun m z' hm hz' => ?_, q _ H2 G2 (x1.trans x2) (rp_int _)⟩
          · exact Rp.dp (.lst xs) (.ref b) 63 hok (by simp only [Rp]; exact ⟨b, vs, rfl, x2.hh _ _ h4, RpL.mono (x2.gg.trans x2.wf.sub) _ _ h5⟩)
          · exact sh 63 (.lst xs) (by omega) hok
          · rw [pyL_map, List.getElem?_map, List.getElem?_eq_getElem hjl]
            rfl
          · rw [pyL_map, List.getElem?_map] at hz'
            have hml : m < xs.length := by omega
            rw [List.getElem?_eq_getElem hml] at hz'
            cases hz'
            have := hjn m hm
            simpa [eqD] using this
        · cases e1
      · cases e1
    | _ => cases e1
end
end PD

set_option Elab.async false
set_option linter.all false
set_option maxRecDepth 100000
namespace PD
open PySem PySem.Spec PyProof.Rows L2
theorem funt_mk {K : PySem.W.Frag} {h : Heap} {mg : Str → Option Value} {x : Str} {st : Stmt} {f : Addr} {oc : Value} {od an : Option Addr} {osl : Array (Option Value)} {kV doc pm cdv ct : Value} (X : K.In h) (G : h.Ns mainGlobals mg)
    (a : PySem.W.nsIn K mainGlobals x = some (some (.ref f))) (l : K.lookup f = some ⟨oc, od, .func (PySem.W.fnOf x x (defArgs st) (defBody st) (defScope st) .none kV doc pm an cdv ct), osl⟩)
    (c : PySem.W.codeIn K cdv x = true) (k : PySem.W.keepIn K (.ref f) = true) : FunT K mg x st := ⟨f, _, fun_mk l c k, PySem.W.mg_of X G a⟩
theorem ci_mk {K : PySem.W.Frag} {h : Heap} {mg : Str → Option Value} {x : Str} {i : Int} {t : Tok} (X : K.In h) (G : h.Ns mainGlobals mg) (a : PySem.W.nsIn K mainGlobals x = some (some (.int i t))) : CI mg x i := ⟨t, PySem.W.mg_of X G a⟩
/-- the law's own end -/
theorem law_sp {K : PySem.W.Frag} {run : List D → Option D} {H : Hp} {a : Addr} {ns : List Int} (h : run [.scr ns] = some (.bl true)) (hS : SqL K H a (ns.map V.int)) : spD K run 1 [.ref a] H (fun v _ => v = .bl true) fun _ _ _ => False :=
  ⟨rfl, H, [.scr ns], .bl true, ⟨Same.refl H, fun _ _ e _ => e⟩, RpL.cons (by simp only [Rp]; exact ⟨a, rfl, hS⟩) RpL.nil, h, fun v H' G' x r => by simpa only [Rp] using r⟩
end PD

set_option Elab.async false
set_option linter.all false
set_option maxRecDepth 100000
namespace PD
open PySem L2

/-! ### how the combinators run: one statement at a time -/
section
variable {a b c : Cmd} {env e e1 : List Sl} {o : Option Out} {d : D} {f : Fe} {t : Fb} {i : Nat}
theorem seq_nx (h : a env = some (.nx e)) (h2 : b e = o) : sSeq a b env = o := by
  unfold sSeq
  rw [h]
  exact h2
theorem seq_rt (h : a env = some (.rt d)) : sSeq a b env = some (.rt d) := by
  unfold sSeq
  rw [h]
theorem seq_set (h : f env = some d) (h2 : b (env.set i (.val d)) = o) : sSeq (sSet i f) b env = o := seq_nx (by unfold sSet; rw [h]; rfl) h2
theorem seq_setO {fl : Fl} {ds : List D} (h : fl env = some ds) (h2 : b (env.set i (.own ds)) = o) : sSeq (sSetO i fl) b env = o := seq_nx (by unfold sSetO; rw [h]; rfl) h2
theorem run_set (h : f env = some d) : sSet i f env = some (.nx (env.set i (.val d))) := by
  unfold sSet
  rw [h]
  rfl
theorem run_if1 (h : t env = some true) (h2 : a env = o) : sIf t a b env = o := by
  unfold sIf
  rw [h]
  exact h2
theorem run_if0 (h : t env = some false) (h2 : b env = o) : sIf t a b env = o := by
  unfold sIf
  rw [h]
  exact h2
theorem run_ret (h : f env = some d) : sRet f env = some (.rt d) := by
  unfold sRet
  rw [h]
  rfl
/-- if c: (else nothing): not taken -/
theorem seq_if0 (h : t env = some false) (h2 : b env = o) : sSeq (sIf t a sNop) b env = o := seq_nx (run_if0 h rfl) h2
theorem seq_if1 (h : t env = some true) (h2 : a env = some (.nx e)) (h3 : b e = o) : sSeq (sIf t a c) b env = o := seq_nx (run_if1 h h2) h3
theorem seq_if1r (h : t env = some true) (h2 : a env = some (.rt d)) : sSeq (sIf t a c) b env = some (.rt d) := seq_rt (run_if1 h h2)
theorem seq_ifE (h : t env = some false) (h2 : c env = some (.nx e)) (h3 : b e = o) : sSeq (sIf t a c) b env = o := seq_nx (run_if0 h h2) h3
theorem seq_par {j : Nat} {s1 s2 : Fn} {x y : Sl} (h1 : s1 env = some x) (h2 : s2 env = some y) (h3 : b ((env.set i x).set j y) = o) : sSeq (sParN i j s1 s2) b env = o := seq_nx (by unfold sParN; rw [h1, h2]; rfl) h3
theorem seq_par3 {j l : Nat} {s1 s2 s3 : Fn} {x y z : Sl} (h1 : s1 env = some x) (h2 : s2 env = some y) (h3 : s3 env = some z) (h4 : b (((env.set i x).set j y).set l z) = o) : sSeq (sPar3N i j l s1 s2 s3) b env = o := seq_nx (by unfold sPar3N; rw [h1, h2, h3]; rfl) h4
theorem seq_asg {g : Ft} (h1 : f env = some d) (h2 : g d env = some e) (h3 : b e = o) : sSeq (sAsg g f) b env = o := seq_nx (by unfold sAsg; rw [h1]; show (g d env).map Out.nx = _; rw [h2]; rfl) h3
theorem run_frz {is : List Nat} (h : a (frzL is env) = o) : sFrz is a env = o := h
theorem seq_frz {is : List Nat} (h : a (frzL is env) = some (.nx e)) (h2 : b e = o) : sSeq (sFrz is a) b env = o := seq_nx h h2
theorem seq_app {ds : List D} (h : f env = some d) (h1 : env[i]? = some (.own ds)) (hz : ds.length < 16777216) (h2 : b (env.set i (.own (ds ++ [d]))) = o) : sSeq (sApp i f) b env = o := seq_nx (by
  unfold sApp
  rw [h]
  show (match env[i]? with
    | some (.own ds) => if lim (ds.length + 1) then some (Out.nx (env.set i (.own (ds ++ [d])))) else none
    | _ => none) = _
  rw [h1]
  simp only [lim, decide_eq_true (show ds.length + 1 ≤ 16777216 by omega), if_true]) h2
theorem run_app {ds : List D} (h : f env = some d) (h1 : env[i]? = some (.own ds)) (hz : ds.length < 16777216) : sApp i f env = some (.nx (env.set i (.own (ds ++ [d])))) := by
  unfold sApp
  rw [h]
  show (match env[i]? with
    | some (.own ds) => if lim (ds.length + 1) then some (Out.nx (env.set i (.own (ds ++ [d])))) else none
    | _ => none) = _
  rw [h1]
  simp only [lim, decide_eq_true (show ds.length + 1 ≤ 16777216 by omega), if_true]
theorem run_par {j : Nat} {s1 s2 : Fn} {x y : Sl} (h1 : s1 env = some x) (h2 : s2 env = some y) : sParN i j s1 s2 env = some (.nx ((env.set i x).set j y)) := by
  unfold sParN
  rw [h1, h2]
  rfl
theorem runC_rt {n k : Nat} {ds : List D} (hl : ds.length = n) (h : c (ds.map .val ++ List.replicate k .un) = some (.rt d)) : runC n k c ds = some d := by
  unfold runC
  rw [if_pos hl, h]
theorem runC_nx {n k : Nat} {ds : List D} (hl : ds.length = n) (h : c (ds.map .val ++ List.replicate k .un) = some (.nx e)) : runC n k c ds = some .non := by
  unfold runC
  rw [if_pos hl, h]
/-- a for loop: the state behind each turn -/
theorem forL_inv {α : Type} {g : Ft} {enc : α → D} (st : List α → List Sl) (xs : List α) : ∀ (ys zs : List α), xs = ys ++ zs → (∀ (ys : List α) (x : α) (zs : List α), xs = ys ++ x :: zs → ∃ e, g (enc x) (st ys) = some e ∧ (a e = some (.nx (st (ys ++ [x]))) ∨ a e = some (.ct (st (ys ++ [x]))))) → forL g a (zs.map enc) (st ys) = some (.nx (st xs))
  | ys, [], hx, h => by
    rw [List.append_nil] at hx
    subst hx
    rfl
  | ys, z :: zs, hx, h => by
    obtain ⟨e, h1, h2⟩ := h ys z zs hx
    show (g (enc z) (st ys)).bind _ = _
    rw [h1]
    have ih := forL_inv (g := g) st xs (ys ++ [z]) zs (by rw [hx, List.append_assoc]; rfl) h
    show (match a e with
      | some (.nx e) => forL g a (zs.map enc) e
      | some (.ct e) => forL g a (zs.map enc) e
      | some (.bk e) => some (.nx e)
      | some (.rt d) => some (.rt d)
      | none => none) = _
    rcases h2 with h2 | h2 <;> rw [h2] <;> exact ih
theorem seq_for {α : Type} {g : Ft} {it : Fl} {enc : α → D} {xs : List α} (st : List α → List Sl) (h0 : it env = some (xs.map enc)) (hs : st [] = env) (h1 : ∀ (ys : List α) (x : α) (zs : List α), xs = ys ++ x :: zs → ∃ e, g (enc x) (st ys) = some e ∧ (a e = some (.nx (st (ys ++ [x]))) ∨ a e = some (.ct (st (ys ++ [x]))))) (h2 : b (st xs) = o) : sSeq (sFor it g a) b env = o := seq_nx (by
  unfold sFor
  rw [h0]
  show forL g a (xs.map enc) env = _
  rw [← hs]
  exact forL_inv st xs [] xs rfl h1) h2
end

/-! ### expressions -/
section
variable {env : List Sl} {fa fb f : Fe} {fl : Fl} {d x y : D} {i j : Nat}
@[simp] theorem ev_c : eC d env = some d := rfl
@[simp] theorem ev_op {g : D → D → Option D} : eOp g fa fb env = (fa env).bind fun x => (fb env).bind fun y => g x y := rfl
@[simp] theorem ev_call {g : List D → Option D} : eCall g fl env = (fl env).bind g := rfl
@[simp] theorem ev_fn {g : List D → Option D} : eFn g fl env = (fl env).bind g := rfl
@[simp] theorem ev_cons : aCons f fl env = (f env).bind fun d => (fl env).bind fun ds => some (d :: ds) := rfl
@[simp] theorem ev_nil : aNil env = some [] := rfl
@[simp] theorem ev_asL : asL fl env = (fl env).map .lst := rfl
@[simp] theorem ev_fcall {g : List D → Option (List D)} : fCall g fl env = (fl env).bind g := rfl
@[simp] theorem ev_tYes : tYesF env = some true := rfl
@[simp] theorem ev_isi {T : String} : eIsi T f env = (f env).bind (isiO T) := rfl
@[simp] theorem isiO_int {T : String} {i : Int} : isiO T (.int i) = some (.bl (isiD T (.int i))) := rfl
@[simp] theorem isiO_bl {T : String} {i : Bool} : isiO T (.bl i) = some (.bl (isiD T (.bl i))) := rfl
@[simp] theorem isiO_str {T : String} {i : Str} : isiO T (.str i) = some (.bl (isiD T (.str i))) := rfl
@[simp] theorem isiO_non {T : String} : isiO T .non = some (.bl (isiD T .non)) := rfl
@[simp] theorem isiO_tup {T : String} {i : List D} : isiO T (.tup i) = some (.bl (isiD T (.tup i))) := rfl
@[simp] theorem isiO_lst {T : String} {i : List D} : isiO T (.lst i) = some (.bl (isiD T (.lst i))) := rfl
theorem isiO_of {T : String} {d : D} (h : notDic d = true) : isiO T d = some (.bl (isiD T d)) := if_pos h
@[simp] theorem ev_un {g : D → Option D} : eUn g f env = (f env).bind g := rfl
@[simp] theorem ev_iseq : iSeq f env = (f env).bind itemsD := rfl
@[simp] theorem ev_vN : vN f env = (f env).map .val := rfl
@[simp] theorem ev_oN : oN fl env = (fl env).map .own := rfl
@[simp] theorem ev_asT : asT f env = (f env).bind truD := rfl
@[simp] theorem ev_and {f g : Fb} : tAndF f g env = (f env).bind fun k => if k then g env else some false := rfl
@[simp] theorem ev_or {f g : Fb} : tOrF f g env = (f env).bind fun k => if k then some true else g env := rfl
@[simp] theorem ev_not {f : Fb} : tNotF f env = (f env).bind fun k => some (!k) := rfl
@[simp] theorem ev_eif {c : Fb} : eIf c fa fb env = (c env).bind fun k => if k then fa env else fb env := rfl
def blD : D → Option Bool
  | .bl b => some b
  | _ => none
@[simp] theorem blD_bl {k : Bool} : blD (.bl k) = some k := rfl
@[simp] theorem ev_asB : asB f env = (f env).bind blD := by
  unfold asB
  cases f env with
  | none => rfl
  | some d => cases d <;> rfl
@[simp] theorem ev_eand : eAnd fa fb env = (fa env).bind fun x => (blD x).bind fun k => if k then fb env else some (.bl false) := by
  unfold eAnd
  cases fa env with
  | none => rfl
  | some d => cases d with
    | bl k => cases k <;> rfl
    | _ => rfl
@[simp] theorem ev_eor : eOr fa fb env = (fa env).bind fun x => (blD x).bind fun k => if k then some (.bl true) else fb env := by
  unfold eOr
  cases fa env with
  | none => rfl
  | some d => cases d with
    | bl k => cases k <;> rfl
    | _ => rfl
@[simp] theorem ev_enot : eNot fa env = (fa env).bind fun x => (blD x).bind fun k => some (.bl !k) := by
  unfold eNot
  cases fa env with
  | none => rfl
  | some d => cases d <;> rfl
def slV : Sl → Option D
  | .val d => some d
  | _ => none
def slB : Sl → Option D
  | .val d => some d
  | .own ds => some (.lst ds)
  | .ownD t ds => some (.dic t ds)
  | _ => none
@[simp] theorem slV_val : slV (.val d) = some d := rfl
@[simp] theorem slB_val : slB (.val d) = some d := rfl
@[simp] theorem slB_own {ds : List D} : slB (.own ds) = some (.lst ds) := rfl
@[simp] theorem slB_ownD {t : Bool} {ds : List (D × D)} : slB (.ownD t ds) = some (.dic t ds) := rfl
@[simp] theorem ev_var : eVar i env = env[i]?.bind slV := by
  unfold eVar
  cases env[i]? with
  | none => rfl
  | some s => cases s <;> rfl
@[simp] theorem ev_bvar : bVar i env = env[i]?.bind slB := by
  unfold bVar
  cases env[i]? with
  | none => rfl
  | some s => cases s <;> rfl
@[simp] theorem frz_nil : frzL [] env = env := rfl
@[simp] theorem frz_cons {is : List Nat} : frzL (i :: is) env = frzL is (frz1 i env) := rfl
theorem frz_own {ds : List D} (h : env[i]? = some (.own ds)) : frz1 i env = env.set i (.val (.lst ds)) := by
  unfold frz1
  rw [h]
theorem frz_val {d : D} (h : env[i]? = some (.val d)) : frz1 i env = env := by
  unfold frz1
  rw [h]

/-! ### operations -/
@[simp] theorem gAdd_i {i j : Int} : gAdd (.int i) (.int j) = some (.int (i + j)) := rfl
@[simp] theorem gSub_i {i j : Int} : gSub (.int i) (.int j) = some (.int (i - j)) := rfl
theorem gMul_i {i j : Int} (h : mulOk i j = true) : gMul (.int i) (.int j) = some (.int (i * j)) := by
  show (if mulOk i j = true then some (D.int (i * j)) else none) = _
  rw [if_pos h]
theorem mulOk_l {i j : Int} (h1 : -18446744073709551616 < i) (h2 : i < 18446744073709551616) : mulOk i j = true := by
  unfold mulOk
  rw [decide_eq_true h1, decide_eq_true h2]
  rfl
theorem mulOk_r {i j : Int} (h1 : -18446744073709551616 < j) (h2 : j < 18446744073709551616) : mulOk i j = true := by
  unfold mulOk
  rw [decide_eq_true h1, decide_eq_true h2]
  simp
theorem gMod_i {i j : Int} (h : 0 < j) : gMod (.int i) (.int j) = some (.int (i % j)) := by
  unfold gMod gI
  simp only [decide_eq_true h, if_true]
theorem gDiv_i {i j : Int} (h : 0 < j) (h2 : j < 1073741824) : gDiv (.int i) (.int j) = some (.int (i / j)) := by
  unfold gDiv gI
  simp only [decide_eq_true h, decide_eq_true h2, Bool.and_self, if_true]
@[simp] theorem gLt_i {i j : Int} : gLt (.int i) (.int j) = some (.bl (decide (i < j))) := rfl
@[simp] theorem gLe_i {i j : Int} : gLe (.int i) (.int j) = some (.bl (decide (i ≤ j))) := rfl
@[simp] theorem gGt_i {i j : Int} : gGt (.int i) (.int j) = some (.bl (decide (j < i))) := rfl
@[simp] theorem gGe_i {i j : Int} : gGe (.int i) (.int j) = some (.bl (decide (j ≤ i))) := rfl
@[simp] theorem gEq_i {i j : Int} : gEq (.int i) (.int j) = some (.bl (decide (i = j))) := by
  have h : (i == j) = decide (i = j) := by
    by_cases e : i = j
    · simp [e]
    · simp [e]
  simp [gEq, okN, eqD, py, PyData.eqv, h]
@[simp] theorem gNe_i {i j : Int} : gNe (.int i) (.int j) = some (.bl (!decide (i = j))) := by
  have h : (i == j) = decide (i = j) := by
    by_cases e : i = j
    · simp [e]
    · simp [e]
  simp [gNe, okN, eqD, py, PyData.eqv, h]
@[simp] theorem gEq_b {i j : Bool} : gEq (.bl i) (.bl j) = some (.bl (i == j)) := by
  simp [gEq, okN, eqD, py, PyData.eqv]
@[simp] theorem gNe_b {i j : Bool} : gNe (.bl i) (.bl j) = some (.bl (!(i == j))) := by
  simp [gNe, okN, eqD, py, PyData.eqv]
@[simp] theorem gInt_i {i : Int} : gInt [.int i] = some (.int i) := rfl
@[simp] theorem gInt_b {b : Bool} : gInt [.bl b] = some (.int (if b then 1 else 0)) := rfl
@[simp] theorem gLen_l {xs : List D} : gLen [.lst xs] = some (.int xs.length) := rfl
@[simp] theorem gLen_t {xs : List D} : gLen [.tup xs] = some (.int xs.length) := rfl
@[simp] theorem gLen_s {ns : List Int} : gLen [.scr ns] = some (.int ns.length) := rfl
@[simp] theorem gTuple_l {xs : List D} : gTuple [.lst xs] = some (.tup xs) := rfl
@[simp] theorem gTuple_t {xs : List D} : gTuple [.tup xs] = some (.tup xs) := rfl
@[simp] theorem gNeg_i {i : Int} : gNeg (.int i) = some (.int (-i)) := rfl
@[simp] theorem itemsD_l {xs : List D} : itemsD (.lst xs) = some xs := rfl
@[simp] theorem itemsD_t {xs : List D} : itemsD (.tup xs) = some xs := rfl
@[simp] theorem gSum_l {ns : List Int} : gSum [.lst (ns.map D.int)] = some (.int ns.sum) := by
  unfold gSum
  simp only [intsOf_map, Option.map_some]
@[simp] theorem gSum_t {ns : List Int} : gSum [.tup (ns.map D.int)] = some (.int ns.sum) := by
  unfold gSum
  simp only [intsOf_map, Option.map_some]
@[simp] theorem gAll_l {ns : List Bool} : gAll [.lst (ns.map D.bl)] = some (.bl (ns.all id)) := by
  unfold gAll
  simp only [blsOf_map, Option.map_some]
@[simp] theorem gAny_l {ns : List Bool} : gAny [.lst (ns.map D.bl)] = some (.bl (ns.any id)) := by
  unfold gAny
  simp only [blsOf_map, Option.map_some]
@[simp] theorem gAbs_i {i : Int} : gAbs [.int i] = some (.int (if i < 0 then -i else i)) := by
  unfold gAbs
  first | rfl | (split <;> simp_all; done) | (congr 1; congr 1; omega)
/-- xs[i] -/
theorem atI_in {α : Type} {xs : List α} {i : Int} (h0 : 0 ≤ i) (h1 : i < xs.length) : atI xs i = xs[i.toNat]? := by
  unfold atI ixN
  rw [if_pos h0, if_pos h1]
  rfl
theorem gIx_l {xs : List D} {i : Int} (h0 : 0 ≤ i) (h1 : i < xs.length) : gIx (.lst xs) (.int i) = xs[i.toNat]? := atI_in h0 h1
theorem gIx_t {xs : List D} {i : Int} (h0 : 0 ≤ i) (h1 : i < xs.length) : gIx (.tup xs) (.int i) = xs[i.toNat]? := atI_in h0 h1
theorem gIx_li {ns : List Int} {i : Int} (h0 : 0 ≤ i) (h1 : i < ns.length) : gIx (.lst (ns.map D.int)) (.int i) = some (.int (ns.getD i.toNat 0)) := by
  rw [gIx_l h0 (by rw [List.length_map]; exact h1), List.getElem?_map]
  have h : i.toNat < ns.length := by omega
  rw [List.getElem?_eq_getElem h]
  simp [List.getD, List.getElem?_eq_getElem h]
theorem gIx_ti {ns : List Int} {i : Int} (h0 : 0 ≤ i) (h1 : i < ns.length) : gIx (.tup (ns.map D.int)) (.int i) = some (.int (ns.getD i.toNat 0)) := by
  rw [gIx_t h0 (by rw [List.length_map]; exact h1), List.getElem?_map]
  have h : i.toNat < ns.length := by omega
  rw [List.getElem?_eq_getElem h]
  simp [List.getD, List.getElem?_eq_getElem h]
theorem gIx_s {ns : List Int} {i : Int} (h0 : 0 ≤ i) (h1 : i < ns.length) : gIx (.scr ns) (.int i) = some (.int (ns.getD i.toNat 0)) := by
  show (atI ns i).map D.int = _
  rw [atI_in h0 h1]
  have h : i.toNat < ns.length := by omega
  rw [List.getElem?_eq_getElem h]
  simp [List.getD, List.getElem?_eq_getElem h]

/-! ### comprehensions -/
theorem compL_filter {α : Type} {t : Ft} {c : Fb} {y : Fe} {enc g : α → D} {p : α → Bool} : ∀ xs : List α, (∀ x ∈ xs, ∃ e, t (enc x) env = some e ∧ c e = some (p x) ∧ (p x = true → y e = some (g x))) → compL t c y env (xs.map enc) = some ((xs.filter p).map g)
  | [], _ => rfl
  | x :: xs, h => by
    obtain ⟨e, h1, h2, h3⟩ := h x List.mem_cons_self
    have ih := compL_filter xs fun y hy => h y (List.mem_cons_of_mem _ hy)
    show (t (enc x) env).bind _ = _
    rw [h1]
    show (c e).bind _ = _
    rw [h2]
    show (if p x = true then (y e).bind fun d => (compL t c y env (xs.map enc)).map (d :: ·) else compL t c y env (xs.map enc)) = _
    rw [ih]
    cases hp : p x with
    | true =>
      rw [if_pos rfl, h3 hp, List.filter_cons_of_pos hp]
      rfl
    | false => rw [if_neg Bool.false_ne_true, List.filter_cons_of_neg (by simp [hp])]
theorem compL_map {α : Type} {t : Ft} {c : Fb} {y : Fe} {enc g : α → D} (xs : List α) (h : ∀ x ∈ xs, ∃ e, t (enc x) env = some e ∧ c e = some true ∧ y e = some (g x)) : compL t c y env (xs.map enc) = some (xs.map g) := by
  have := compL_filter (t := t) (c := c) (y := y) (env := env) (enc := enc) (g := g) (p := fun _ => true) xs fun x hx => by
    obtain ⟨e, h1, h2, h3⟩ := h x hx
    exact ⟨e, h1, h2, fun _ => h3⟩
  rw [this, List.filter_eq_self.mpr (fun _ _ => rfl)]
theorem fLc_map {α : Type} {own : List Nat} {it : Fl} {t : Ft} {c : Fb} {y : Fe} {enc g : α → D} {xs : List α} (h0 : it env = some (xs.map enc)) (hz : xs.length ≤ 16777216) (h : ∀ x ∈ xs, ∃ e, t (enc x) (wipeE env own) = some e ∧ c e = some true ∧ y e = some (g x)) : fLc own it t c y env = some (xs.map g) := by
  unfold fLc
  rw [h0]
  show (if lim (xs.map enc).length = true then _ else _) = _
  rw [if_pos (by rw [List.length_map]; exact decide_eq_true hz)]
  exact compL_map xs h
theorem fLc_filter {α : Type} {own : List Nat} {it : Fl} {t : Ft} {c : Fb} {y : Fe} {enc g : α → D} {p : α → Bool} {xs : List α} (h0 : it env = some (xs.map enc)) (hz : xs.length ≤ 16777216) (h : ∀ x ∈ xs, ∃ e, t (enc x) (wipeE env own) = some e ∧ c e = some (p x) ∧ (p x = true → y e = some (g x))) : fLc own it t c y env = some ((xs.filter p).map g) := by
  unfold fLc
  rw [h0]
  show (if lim (xs.map enc).length = true then _ else _) = _
  rw [if_pos (by rw [List.length_map]; exact decide_eq_true hz)]
  exact compL_filter xs h
/-- a range as a list of ints -/
def rngN (n : Nat) : List Int := (List.range n).map fun k : Nat => (k : Int)
theorem rngL_map (n : Nat) : rngL 0 n = (rngN n).map D.int := by
  unfold rngL rngN
  rw [List.map_map]
  apply List.map_congr_left
  intro k _
  simp
theorem rngN_len (n : Nat) : (rngN n).length = n := by simp [rngN]
theorem mem_rngN {n : Nat} {x : Int} (h : x ∈ rngN n) : 0 ≤ x ∧ x < n := by
  unfold rngN at h
  obtain ⟨k, hk, rfl⟩ := List.mem_map.mp h
  have := List.mem_range.mp hk
  omega
theorem ev_rg1 {j : Int} (h : fl env = some [.int j]) (h0 : -1000000000 ≤ j) (h1 : j ≤ 1000000000) : iRg1 fl env = some ((rngN j.toNat).map D.int) := by
  unfold iRg1
  rw [h]
  show (if rngOk j = true then _ else _) = _
  rw [if_pos (by unfold rngOk; rw [decide_eq_true h0, decide_eq_true h1]; rfl), rngL_map]
@[simp] theorem ev_gNm : gNm i d env = some (env.set i (.val d)) := rfl
@[simp] theorem ev_gTp {g : Fts} {xs : List D} : gTp g (.tup xs) env = g xs env := rfl
@[simp] theorem ev_gTl {g : Fts} {xs : List D} : gTl g (.lst xs) env = g xs env := rfl
@[simp] theorem ev_gsNil : gsNil [] env = some env := rfl
@[simp] theorem ev_gsCons {f : Ft} {g : Fts} {xs : List D} : gsCons f g (d :: xs) env = (f d env).bind fun e => g xs e := rfl
@[simp] theorem wipe_nil : wipeE env [] = env := rfl
@[simp] theorem wipe_cons {v : Nat} {vs : List Nat} : wipeE env (v :: vs) = (wipeE env vs).set v .un := rfl
end
end PD

set_option Elab.async false
set_option linter.all false
set_option maxRecDepth 100000
namespace PD
open PySem L2
/-! ### the helpers that every law has -/
def b_l_mixed : Cmd :=
    (sSeq (sSet 2 (eC (.int 0)))
    (sSeq (sIf (asB (eOp gGt (eCall gLen (aCons (bVar 0) aNil)) (eC (.int 0))))
    (sSet 2 (eOp gIx (bVar 0) (eOp gMod (bVar 1) (eCall gLen (aCons (bVar 0) aNil)))))
    sNop)
    (sSeq (sSet 3 (eOp gMod (eCall gInt (aCons (eOp gAdd (eOp gAdd (eOp gMul (bVar 2) (eC (.int 48271))) (eOp gMul (bVar 1) (eC (.int 69621)))) (eC (.int 8191))) aNil)) (eC (.int 2147483647))))
    (sSeq (sSet 4 (eOp gMod (eCall gInt (aCons (eOp gAdd (eOp gAdd (eOp gMul (bVar 3) (bVar 3)) (eOp gDiv (bVar 3) (eC (.int 7)))) (eOp gMul (bVar 1) (eC (.int 16807)))) aNil)) (eC (.int 2147483629))))
    (sSeq (sSet 5 (eOp gMod (eCall gInt (aCons (eOp gAdd (eOp gAdd (eOp gMul (bVar 4) (bVar 4)) (eOp gDiv (bVar 4) (eC (.int 11)))) (eC (.int 40692))) aNil)) (eC (.int 2147483563))))
    (sRet (eOp gMod (eOp gDiv (bVar 5) (eC (.int 5))) (eC (.int 1000003)))))))))
def run_l_mixed : List D → Option D := runC 2 4 b_l_mixed
def b_l_row : Cmd :=
    (sSeq (sSet 2 (eC (.int 0)))
    (sSeq (sIf (tAndF (asB (eOp gGt (eCall gLen (aCons (bVar 0) aNil)) (eC (.int 0)))) (asB (eOp gGe (eOp gIx (bVar 0) (eC (.int 0))) (eOp gPow (eC (.int 10)) (eC (.int 18))))))
    (sSet 2 (eOp gIx (bVar 0) (eC (.int 0))))
    sNop)
    (sSeq (sSetO 3 (fun env => (aNil env).bind fun ds => if lim ds.length then some ds else none))
    (sSeq (sFor (iRg1 (aCons (bVar 1) aNil)) (gNm 4)
    (sIf (asB (eOp gGt (bVar 2) (eC (.int 0))))
    (sSeq (sApp 3 (eOp gMod (eCall gInt (aCons (bVar 2) aNil)) (eC (.int 1000))))
    (sSet 2 (eOp gDiv (bVar 2) (eC (.int 1000)))))
    (sApp 3 (eFn run_l_mixed (aCons (eVar 0) (aCons (eVar 4) aNil))))))
    (sFrz [3] (sRet (eVar 3)))))))
def run_l_row : List D → Option D := runC 2 3 b_l_row
def b_l_is_int : Cmd :=
    (sRet (eAnd (eIsi "int" (bVar 0)) (eNot (eIsi "bool" (bVar 0)))))
def run_l_is_int : List D → Option D := runC 1 0 b_l_is_int
def b_l_like (rec : List D → Option D) : Cmd :=
    (sSeq (sIf (asB (eOp gIs (bVar 1) (eC .non)))
    (sRet (eOp gIs (bVar 0) (eC .non)))
    sNop)
    (sSeq (sIf (asT (eIsi "bool" (bVar 1)))
    (sRet (eAnd (eIsi "bool" (bVar 0)) (eOp gEq (bVar 0) (bVar 1))))
    sNop)
    (sSeq (sIf (asT (eIsi "tuple" (bVar 1)))
    (sSeq (sIf (tOrF (tNotF (asT (eIsi "tuple" (bVar 0)))) (asB (eOp gNe (eCall gLen (aCons (bVar 0) aNil)) (eCall gLen (aCons (bVar 1) aNil)))))
    (sRet (eC (.bl false)))
    sNop)
    (sRet (eCall gAll (aCons (asL (fLc [2] (iRg1 (aCons (eCall gLen (aCons (bVar 1) aNil)) aNil)) (gNm 2) tYesF (eFn rec (aCons (eOp gIx (bVar 0) (bVar 2)) (aCons (eOp gIx (bVar 1) (bVar 2)) aNil))))) aNil))))
    sNop)
    (sSeq (sIf (asT (eIsi "str" (bVar 1)))
    (sRet (eAnd (eIsi "str" (bVar 0)) (eOp gEq (bVar 0) (bVar 1))))
    sNop)
    (sRet (eAnd (eFn run_l_is_int (aCons (eVar 0) aNil)) (eOp gEq (bVar 0) (bVar 1))))))))
def run_l_like : Nat → List D → Option D
  | 0 => fun _ => none
  | fuel + 1 => runC 2 1 (b_l_like (run_l_like fuel))
theorem mod_lt {a b : Int} (h : 0 < b) : 0 ≤ a % b ∧ a % b < b := ⟨Int.emod_nonneg a (by omega), Int.emod_lt_of_pos a h⟩
theorem run_mixed (ns : List Int) (k : Int) (h0 : 0 ≤ k) : ∃ x : Int, run_l_mixed [.scr ns, .int k] = some (.int x) ∧ 0 ≤ x ∧ x < 1000003 := by
  have fin : ∀ cell : Int, ∃ x : Int, 0 ≤ x ∧ x < 1000003 ∧ ∀ e : List Sl, e.length = 6 → e[1]? = some (.val (.int k)) → e[2]? = some (.val (.int cell)) →
      (sSeq (sSet 3 (eOp gMod (eCall gInt (aCons (eOp gAdd (eOp gAdd (eOp gMul (bVar 2) (eC (.int 48271))) (eOp gMul (bVar 1) (eC (.int 69621)))) (eC (.int 8191))) aNil)) (eC (.int 2147483647))))
    (sSeq (sSet 4 (eOp gMod (eCall gInt (aCons (eOp gAdd (eOp gAdd (eOp gMul (bVar 3) (bVar 3)) (eOp gDiv (bVar 3) (eC (.int 7)))) (eOp gMul (bVar 1) (eC (.int 16807)))) aNil)) (eC (.int 2147483629))))
    (sSeq (sSet 5 (eOp gMod (eCall gInt (aCons (eOp gAdd (eOp gAdd (eOp gMul (bVar 4) (bVar 4)) (eOp gDiv (bVar 4) (eC (.int 11)))) (eC (.int 40692))) aNil)) (eC (.int 2147483563))))
    (sRet (eOp gMod (eOp gDiv (bVar 5) (eC (.int 5))) (eC (.int 1000003))))))) e = some (.rt (.int x)) := by
    intro cell
    have b1 := mod_lt (a := cell * 48271 + k * 69621 + 8191) (b := 2147483647) (by omega)
    generalize e1 : (cell * 48271 + k * 69621 + 8191) % 2147483647 = x1 at b1
    have b2 := mod_lt (a := x1 * x1 + x1 / 7 + k * 16807) (b := 2147483629) (by omega)
    generalize e2 : (x1 * x1 + x1 / 7 + k * 16807) % 2147483629 = x2 at b2
    have b3 := mod_lt (a := x2 * x2 + x2 / 11 + 40692) (b := 2147483563) (by omega)
    generalize e3 : (x2 * x2 + x2 / 11 + 40692) % 2147483563 = x3 at b3
    have b4 := mod_lt (a := x3 / 5) (b := 1000003) (by omega)
    refine ⟨_, b4.1, b4.2, fun e hl h1 h2 => ?_⟩
    refine seq_set (d := .int x1) ?_ ?_
    · simp only [ev_op, ev_call, ev_cons, ev_nil, ev_c, ev_bvar, h1, h2, Option.bind_some, slB_val, gMul_i (mulOk_r (i := cell) (j := 48271) (by omega) (by omega)), gMul_i (mulOk_r (i := k) (j := 69621) (by omega) (by omega)), gAdd_i, gInt_i, gMod_i (show (0:Int) < 2147483647 by omega), e1]
    refine seq_set (d := .int x2) ?_ ?_
    · have g1 : (e.set 3 (.val (.int x1)))[1]? = some (.val (.int k)) := by rw [List.getElem?_set_ne (by omega)]; exact h1
      have g3 : (e.set 3 (.val (.int x1)))[3]? = some (.val (.int x1)) := by rw [List.getElem?_set_self (by omega)]
      simp only [ev_op, ev_call, ev_cons, ev_nil, ev_c, ev_bvar, g1, g3, Option.bind_some, slB_val, gMul_i (mulOk_r (i := x1) (j := x1) (by omega) (by omega)), gMul_i (mulOk_r (i := k) (j := 16807) (by omega) (by omega)), gDiv_i (i := x1) (show (0:Int) < 7 by omega) (by omega), gAdd_i, gInt_i, gMod_i (show (0:Int) < 2147483629 by omega), e2]
    refine seq_set (d := .int x3) ?_ ?_
    · have g4 : ((e.set 3 (.val (.int x1))).set 4 (.val (.int x2)))[4]? = some (.val (.int x2)) := by rw [List.getElem?_set_self (by simp; omega)]
      simp only [ev_op, ev_call, ev_cons, ev_nil, ev_c, ev_bvar, g4, Option.bind_some, slB_val, gMul_i (mulOk_r (i := x2) (j := x2) (by omega) (by omega)), gDiv_i (i := x2) (show (0:Int) < 11 by omega) (by omega), gAdd_i, gInt_i, gMod_i (show (0:Int) < 2147483563 by omega), e3]
    refine run_ret ?_
    have g5 : (((e.set 3 (.val (.int x1))).set 4 (.val (.int x2))).set 5 (.val (.int x3)))[5]? = some (.val (.int x3)) := by rw [List.getElem?_set_self (by simp; omega)]
    simp only [ev_op, ev_c, ev_bvar, g5, Option.bind_some, slB_val, gDiv_i (i := x3) (show (0:Int) < 5 by omega) (by omega), gMod_i (show (0:Int) < 1000003 by omega)]
  by_cases hp : 0 < ns.length
  · have hpz : (0 : Int) < (ns.length : Nat) := by omega
    have bm := mod_lt (a := k) hpz
    obtain ⟨x, hx0, hx1, hx⟩ := fin (ns.getD (k % (ns.length : Nat)).toNat 0)
    refine ⟨x, runC_rt rfl ?_, hx0, hx1⟩
    refine seq_set (d := .int 0) rfl ?_
    refine seq_if1 (e := [.val (.scr ns), .val (.int k), .val (.int (ns.getD (k % (ns.length : Nat)).toNat 0)), .un, .un, .un]) ?_ ?_ ?_
    · simp [hp]
    · refine run_set ?_
      simp [gMod_i hpz, gIx_s bm.1 bm.2]
    · exact hx _ rfl rfl rfl
  · obtain ⟨x, hx0, hx1, hx⟩ := fin 0
    refine ⟨x, runC_rt rfl ?_, hx0, hx1⟩
    refine seq_set (d := .int 0) rfl ?_
    refine seq_if0 ?_ ?_
    · have z : ns = [] := List.length_eq_zero_iff.mp (by omega)
      simp [z]
    · exact hx _ rfl rfl rfl

def rowBody : Cmd := (sIf (asB (eOp gGt (bVar 2) (eC (.int 0))))
    (sSeq (sApp 3 (eOp gMod (eCall gInt (aCons (bVar 2) aNil)) (eC (.int 1000))))
    (sSet 2 (eOp gDiv (bVar 2) (eC (.int 1000)))))
    (sApp 3 (eFn run_l_mixed (aCons (eVar 0) (aCons (eVar 4) aNil)))))
theorem row_loop (ns : List Int) (m : D) : ∀ (zs : List Int) (acc : List Int) (big : Int) (k0 : Sl), (∀ z ∈ zs, 0 ≤ z) → 0 ≤ big → acc.length + zs.length ≤ 1000000 → (∀ x ∈ acc, 0 ≤ x ∧ x < 1000003) →
    ∃ (acc' : List Int) (big' : Int) (k1 : Sl), forL (gNm 4) rowBody (zs.map D.int) [.val (.scr ns), .val m, .val (.int big), .own (acc.map D.int), k0] = some (.nx [.val (.scr ns), .val m, .val (.int big'), .own (acc'.map D.int), k1]) ∧ acc'.length = acc.length + zs.length ∧ ∀ x ∈ acc', 0 ≤ x ∧ x < 1000003
  | [], acc, big, k0, _, _, _, ha => ⟨acc, big, k0, rfl, rfl, ha⟩
  | z :: zs, acc, big, k0, hz, hb, hl, ha => by
    rw [List.length_cons] at hl
    have hz0 := hz z List.mem_cons_self
    by_cases hp : 0 < big
    · have bm := mod_lt (a := big) (b := 1000) (by omega)
      have hb' : 0 ≤ big / 1000 := Int.ediv_nonneg hb (by omega)
      obtain ⟨acc', big', k1, h1, h2, h3⟩ := row_loop ns m zs (acc ++ [big % 1000]) (big / 1000) (.val (.int z)) (fun y hy => hz y (List.mem_cons_of_mem _ hy)) hb' (by simp; omega) (fun x hx => by
        rcases List.mem_append.mp hx with h | h
        · exact ha x h
        · rw [List.mem_singleton.mp h]
          omega)
      refine ⟨acc', big', k1, ?_, by rw [h2]; simp; omega, h3⟩
      show ((gNm 4 (.int z) _).bind _) = _
      rw [ev_gNm]
      show (match rowBody [.val (.scr ns), .val m, .val (.int big), .own (acc.map D.int), .val (.int z)] with
        | some (.nx e) => forL (gNm 4) rowBody (zs.map D.int) e
        | some (.ct e) => forL (gNm 4) rowBody (zs.map D.int) e
        | some (.bk e) => some (.nx e)
        | some (.rt d) => some (.rt d)
        | none => none) = _
      have hbd : rowBody [.val (.scr ns), .val m, .val (.int big), .own (acc.map D.int), .val (.int z)] = some (.nx [.val (.scr ns), .val m, .val (.int (big / 1000)), .own ((acc ++ [big % 1000]).map D.int), .val (.int z)]) := by
        refine run_if1 (by simp [hp]) ?_
        refine seq_app (d := .int (big % 1000)) (ds := acc.map D.int) (by simp [gMod_i (i := big) (show (0:Int) < 1000 by omega)]) rfl (by simp; omega) ?_
        rw [List.map_append]
        exact run_set (d := .int (big / 1000)) (by simp [gDiv_i (i := big) (show (0:Int) < 1000 by omega) (by omega)])
      rw [hbd]
      exact h1
    · obtain ⟨x, hx, hx0, hx1⟩ := run_mixed ns z hz0
      obtain ⟨acc', big', k1, h1, h2, h3⟩ := row_loop ns m zs (acc ++ [x]) big (.val (.int z)) (fun y hy => hz y (List.mem_cons_of_mem _ hy)) hb (by simp; omega) (fun y hy => by
        rcases List.mem_append.mp hy with h | h
        · exact ha y h
        · rw [List.mem_singleton.mp h]
          omega)
      refine ⟨acc', big', k1, ?_, by rw [h2]; simp; omega, h3⟩
      show (match rowBody [.val (.scr ns), .val m, .val (.int big), .own (acc.map D.int), .val (.int z)] with
        | some (.nx e) => forL (gNm 4) rowBody (zs.map D.int) e
        | some (.ct e) => forL (gNm 4) rowBody (zs.map D.int) e
        | some (.bk e) => some (.nx e)
        | some (.rt d) => some (.rt d)
        | none => none) = _
      have hbd : rowBody [.val (.scr ns), .val m, .val (.int big), .own (acc.map D.int), .val (.int z)] = some (.nx [.val (.scr ns), .val m, .val (.int big), .own ((acc ++ [x]).map D.int), .val (.int z)]) := by
        refine run_if0 (by simp; omega) ?_
        rw [List.map_append]
        exact run_app (d := .int x) (by simp [hx]) rfl (by simp; omega)
      rw [hbd]
      exact h1
/-- the numbers that a law draws -/
theorem run_row (ns : List Int) (many : Nat) (hm : many ≤ 1000000) : ∃ row : List Int, run_l_row [.scr ns, .int many] = some (.lst (row.map D.int)) ∧ row.length = many ∧ ∀ x ∈ row, 0 ≤ x ∧ x < 1000003 := by
  have fin : ∀ big : Int, 0 ≤ big → ∃ row : List Int, row.length = many ∧ (∀ x ∈ row, 0 ≤ x ∧ x < 1000003) ∧
      (sSeq (sSetO 3 (fun env => (aNil env).bind fun ds => if lim ds.length then some ds else none))
    (sSeq (sFor (iRg1 (aCons (bVar 1) aNil)) (gNm 4) rowBody)
    (sFrz [3] (sRet (eVar 3))))) [.val (.scr ns), .val (.int many), .val (.int big), .un, .un] = some (.rt (.lst (row.map D.int))) := by
    intro big hb
    obtain ⟨row, big', k1, h1, h2, h3⟩ := row_loop ns (.int many) (rngN many) [] big .un (fun z hz => (mem_rngN hz).1) hb (by rw [rngN_len]; simpa using hm) (fun x hx => nomatch hx)
    refine ⟨row, by rw [h2, rngN_len]; simp, h3, ?_⟩
    refine seq_setO (ds := []) rfl ?_
    refine seq_nx (e := [.val (.scr ns), .val (.int many), .val (.int big'), .own (row.map D.int), k1]) ?_ ?_
    · unfold sFor
      have hr := ev_rg1 (fl := aCons (bVar 1) aNil) (env := [.val (.scr ns), .val (.int many), .val (.int big), .own [], .un]) (j := many) rfl (by omega) (by omega)
      show (iRg1 (aCons (bVar 1) aNil) [.val (.scr ns), .val (.int many), .val (.int big), .own [], .un]).bind _ = _
      rw [hr, Int.toNat_natCast]
      exact h1
    · refine run_frz ?_
      rw [frz_cons, frz_own (ds := row.map D.int) rfl]
      exact run_ret rfl
  have key : ∃ big : Int, 0 ≤ big ∧ ∀ o, (sSeq (sSetO 3 (fun env => (aNil env).bind fun ds => if lim ds.length then some ds else none))
    (sSeq (sFor (iRg1 (aCons (bVar 1) aNil)) (gNm 4) rowBody)
    (sFrz [3] (sRet (eVar 3))))) [.val (.scr ns), .val (.int many), .val (.int big), .un, .un] = o → b_l_row [.val (.scr ns), .val (.int many), .un, .un, .un] = o := by
    have p10 : gPow (.int 10) (.int 18) = some (.int 1000000000000000000) := rfl
    by_cases hp : 0 < ns.length
    · have hx := gIx_s (ns := ns) (i := 0) (by omega) (by omega)
      by_cases hq : 1000000000000000000 ≤ ns.getD 0 0
      · refine ⟨ns.getD 0 0, by omega, fun o h => ?_⟩
        refine seq_set (d := .int 0) rfl ?_
        refine seq_if1 (e := [.val (.scr ns), .val (.int many), .val (.int (ns.getD 0 0)), .un, .un]) ?_ (run_set hx) h
        simp only [ev_and, ev_asB, ev_op, ev_call, ev_cons, ev_nil, ev_c, ev_bvar, List.set_cons_succ, List.set_cons_zero, List.getElem?_cons_zero, Option.bind_some, slB_val, gLen_s, gGt_i, blD_bl, p10, hx, gGe_i]
        simp only [Int.toNat_zero, decide_eq_true hq, decide_eq_true (show (0:Int) < (ns.length : Nat) by omega), if_true]
      · refine ⟨0, by omega, fun o h => ?_⟩
        refine seq_set (d := .int 0) rfl ?_
        refine seq_if0 ?_ h
        simp only [ev_and, ev_asB, ev_op, ev_call, ev_cons, ev_nil, ev_c, ev_bvar, List.set_cons_succ, List.set_cons_zero, List.getElem?_cons_zero, Option.bind_some, slB_val, gLen_s, gGt_i, blD_bl, p10, hx, gGe_i]
        simp only [Int.toNat_zero, decide_eq_false hq, decide_eq_true (show (0:Int) < (ns.length : Nat) by omega), if_true]
    · refine ⟨0, by omega, fun o h => ?_⟩
      refine seq_set (d := .int 0) rfl ?_
      refine seq_if0 ?_ h
      simp only [ev_and, ev_asB, ev_op, ev_call, ev_cons, ev_nil, ev_c, ev_bvar, List.set_cons_succ, List.set_cons_zero, List.getElem?_cons_zero, Option.bind_some, slB_val, gLen_s, gGt_i, blD_bl]
      simp only [decide_eq_false (show ¬ (0:Int) < (ns.length : Nat) by omega), Bool.false_eq_true, if_false]
  obtain ⟨big, hb, hk⟩ := key
  obtain ⟨row, h1, h2, h3⟩ := fin big hb
  exact ⟨row, runC_rt rfl (hk _ h3), h1, h2⟩

/-! ### _law_like -/
def okL : Nat → D → Bool
  | _ + 1, .non => true
  | _ + 1, .bl _ => true
  | _ + 1, .int _ => true
  | _ + 1, .str x => PyData.strOk x
  | n + 1, .tup xs => xs.all (okL n) && lim xs.length
  | _, _ => false
theorem gIs_non {d : D} : gIs d .non = some (.bl (isNon d)) := rfl
theorem isiD_of {T : String} {d : D} {b : Bool} (h : isiD T d = b) : isiD T d = b := h
theorem isi_bool_int {i : Int} : isiD "bool" (.int i) = false := by simp [isiD, tyD]
theorem isi_bool_bl {i : Bool} : isiD "bool" (.bl i) = true := by simp [isiD, tyD]
theorem isi_bool_tup {i : List D} : isiD "bool" (.tup i) = false := by simp [isiD, tyD]
theorem isi_bool_lst {i : List D} : isiD "bool" (.lst i) = false := by simp [isiD, tyD]
theorem isi_bool_str {i : Str} : isiD "bool" (.str i) = false := by simp [isiD, tyD]
theorem isi_bool_non : isiD "bool" .non = false := by simp [isiD, tyD]
theorem isi_tup_int {i : Int} : isiD "tuple" (.int i) = false := by simp [isiD, tyD]
theorem isi_tup_bl {i : Bool} : isiD "tuple" (.bl i) = false := by simp [isiD, tyD]
theorem isi_tup_tup {i : List D} : isiD "tuple" (.tup i) = true := by simp [isiD, tyD]
theorem isi_tup_lst {i : List D} : isiD "tuple" (.lst i) = false := by simp [isiD, tyD]
theorem isi_tup_str {i : Str} : isiD "tuple" (.str i) = false := by simp [isiD, tyD]
theorem isi_tup_non : isiD "tuple" .non = false := by simp [isiD, tyD]
theorem isi_str_int {i : Int} : isiD "str" (.int i) = false := by simp [isiD, tyD]
theorem isi_str_bl {i : Bool} : isiD "str" (.bl i) = false := by simp [isiD, tyD]
theorem isi_str_tup {i : List D} : isiD "str" (.tup i) = false := by simp [isiD, tyD]
theorem isi_str_str {i : Str} : isiD "str" (.str i) = true := by simp [isiD, tyD]
theorem isi_int_int {i : Int} : isiD "int" (.int i) = true := by simp [isiD, tyD]
theorem isi_int_bl {i : Bool} : isiD "int" (.bl i) = true := by simp [isiD, tyD]
theorem isi_int_tup {i : List D} : isiD "int" (.tup i) = false := by simp [isiD, tyD]
theorem isi_int_str {i : Str} : isiD "int" (.str i) = false := by simp [isiD, tyD]
theorem isi_int_non : isiD "int" .non = false := by simp [isiD, tyD]
@[simp] theorem truD_bl {b : Bool} : truD (.bl b) = some b := rfl
theorem run_is_int (d : D) (hd : notDic d = true) : run_l_is_int [d] = some (.bl (isiD "int" d && !isiD "bool" d)) := by
  refine runC_rt rfl (run_ret ?_)
  show (eAnd (eIsi "int" (bVar 0)) (eNot (eIsi "bool" (bVar 0)))) [.val d] = _
  simp only [ev_eand, ev_isi, ev_enot, ev_bvar, List.getElem?_cons_zero, Option.bind_some, slB_val, blD_bl, isiO_of hd]
  cases isiD "int" d <;> cases isiD "bool" d <;> rfl
section
variable {n : Nat} {v d : D}
theorem like_int {i j : Int} : run_l_like (n + 1) [.int i, .int j] = some (.bl (decide (i = j))) := by
  refine runC_rt rfl ?_
  show b_l_like (run_l_like n) [.val (.int i), .val (.int j), .un] = _
  refine seq_if0 (by simp [gIs_non, isNon]) ?_
  refine seq_if0 (by simp [isi_bool_int]) ?_
  refine seq_if0 (by simp [isi_tup_int]) ?_
  refine seq_if0 (by simp [isi_str_int]) ?_
  refine run_ret ?_
  simp [run_is_int (.int i) rfl, isi_int_int, isi_bool_int]
theorem like_bool {i j : Bool} : run_l_like (n + 1) [.bl i, .bl j] = some (.bl (i == j)) := by
  refine runC_rt rfl ?_
  show b_l_like (run_l_like n) [.val (.bl i), .val (.bl j), .un] = _
  refine seq_if0 (by simp [gIs_non, isNon]) ?_
  refine seq_if1r (by simp [isi_bool_bl]) (run_ret ?_)
  simp [isi_bool_bl]
theorem like_non : run_l_like (n + 1) [.non, .non] = some (.bl true) := by
  refine runC_rt rfl ?_
  show b_l_like (run_l_like n) [.val .non, .val .non, .un] = _
  refine seq_if1r (by simp [gIs_non, isNon]) (run_ret ?_)
  simp [gIs_non, isNon]
theorem str_beq (x : Str) : (x == x) = true := by simp
theorem like_str {x : Str} (h : PyData.strOk x = true) : run_l_like (n + 1) [.str x, .str x] = some (.bl true) := by
  refine runC_rt rfl ?_
  show b_l_like (run_l_like n) [.val (.str x), .val (.str x), .un] = _
  refine seq_if0 (by simp [gIs_non, isNon]) ?_
  refine seq_if0 (by simp [isi_bool_str]) ?_
  refine seq_if0 (by simp [isi_tup_str]) ?_
  refine seq_if1r (by simp [isi_str_str]) (run_ret ?_)
  simp [isi_str_str, gEq, okN, h, eqD, py, PyData.eqv]
theorem like_tup {xs : List D} (hz : xs.length ≤ 16777216) (h : ∀ x ∈ xs, run_l_like n [x, x] = some (.bl true)) : run_l_like (n + 1) [.tup xs, .tup xs] = some (.bl true) := by
  refine runC_rt rfl ?_
  show b_l_like (run_l_like n) [.val (.tup xs), .val (.tup xs), .un] = _
  refine seq_if0 (by simp [gIs_non, isNon]) ?_
  refine seq_if0 (by simp [isi_bool_tup]) ?_
  refine seq_if1r (by simp [isi_tup_tup]) ?_
  refine seq_if0 (by simp [isi_tup_tup]) ?_
  refine run_ret ?_
  have hr : iRg1 (aCons (eCall gLen (aCons (bVar 1) aNil)) aNil) [.val (.tup xs), .val (.tup xs), .un] = some ((rngN xs.length).map D.int) := by
    have := ev_rg1 (fl := aCons (eCall gLen (aCons (bVar 1) aNil)) aNil) (env := [.val (.tup xs), .val (.tup xs), .un]) (j := xs.length) rfl (by omega) (by omega)
    rw [this, Int.toNat_natCast]
  have hf := fLc_map (own := [2]) (t := gNm 2) (c := tYesF) (y := eFn (run_l_like n) (aCons (eOp gIx (bVar 0) (bVar 2)) (aCons (eOp gIx (bVar 1) (bVar 2)) aNil))) (g := fun _ => D.bl true) hr (by rw [rngN_len]; exact hz) (fun z hz => by
    obtain ⟨z0, z1⟩ := mem_rngN hz
    have zn : z.toNat < xs.length := by omega
    refine ⟨_, rfl, rfl, ?_⟩
    have g1 : gIx (.tup xs) (.int z) = some xs[z.toNat] := by rw [gIx_t z0 z1, List.getElem?_eq_getElem zn]
    simp [g1, h _ (List.getElem_mem zn)])
  rw [ev_call, ev_cons, ev_asL, hf]
  have e : (rngN xs.length).map (fun _ => D.bl true) = ((rngN xs.length).map fun _ => true).map D.bl := by rw [List.map_map]; rfl
  simp only [Option.map_some, Option.bind_some, ev_nil]
  rw [e, gAll_l]
  congr 2
  rw [List.all_eq_true]
  intro b hb
  obtain ⟨_, _, rfl⟩ := List.mem_map.mp hb
  rfl
end
theorem like_refl : ∀ (n : Nat) (d : D), okL n d = true → run_l_like n [d, d] = some (.bl true)
  | 0, d, h => by cases d <;> simp [okL] at h
  | n + 1, .non, _ => like_non
  | n + 1, .bl b, _ => by rw [like_bool]; simp
  | n + 1, .int i, _ => by rw [like_int]; simp
  | n + 1, .str x, h => like_str (by simpa [okL] using h)
  | n + 1, .tup xs, h => by
    simp only [okL, Bool.and_eq_true] at h
    exact like_tup (by simpa [lim] using h.2) fun x hx => like_refl n x (List.all_eq_true.mp h.1 x hx)
  | n + 1, .lst _, h => by simp [okL] at h
  | n + 1, .dic _ _, h => by simp [okL] at h
  | n + 1, .scr _, h => by simp [okL] at h
end PD

set_option Elab.async false
set_option linter.all false
set_option maxRecDepth 100000
set_option maxHeartbeats 4000000
namespace K06
section
open PySem PySem.Spec PyProof.Rows L2 PD
def topS (i : Nat) : Stmt := PySem.Challenge.pw_farkept_k06_whole_splits.main.body.getD i (.Pass ⟨0, 0, 0, 0⟩)
structure Bs (mg : Str → Option Value) : Prop where
  b_len : mg "len" = none
  b_range : mg "range" = none
  b_zip : mg "zip" = none
  b_sum : mg "sum" = none
  b_abs : mg "abs" = none
  b_max : mg "max" = none
  b_sorted : mg "sorted" = none
  b_min : mg "min" = none
  b_tuple : mg "tuple" = none
  b_list : mg "list" = none
  b_isinstance : mg "isinstance" = none
  b_int : mg "int" = none
  b_bool : mg "bool" = none
  b_str : mg "str" = none
  b_all : mg "all" = none
variable {P : Program} {w : World} {K : PySem.W.Frag} {mg : Str → Option Value} {base : Heap}

/-! far(way, u, v): 0 way, 1 u, 2 v, 3 steps, 4 rows, 5 one, 6 other, 7 step, 8 weight, 9 i, 10 part -/
abbrev s_far : Stmt := topS 1
theorem sc_far : FnScope ["way", "u", "v", "steps", "rows", "one", "other", "step", "weight", "i", "part"] ["way", "u", "v"] (defScope s_far) := ⟨rfl, rfl, rfl, by decide +kernel, rfl, by decide +kernel, by decide +kernel⟩
def b_far : Cmd :=
    (sSeq (sSet 3 (asL (fLc [5, 6] (iZipD (aCons (bVar 1) (aCons (bVar 2) aNil))) (gTp (gsCons (gNm 5) (gsCons (gNm 6) gsNil))) tYesF (eOp gSub (bVar 5) (bVar 6)))))
    (sSeq (sIf (asB (eOp gEq (bVar 0) (eC (.str (PySem.Str.ofString "steps")))))
    (sRet (eCall gSum (aCons (asL (fLc [7] (iSeq (bVar 3)) (gNm 7) tYesF (eCall gAbs (aCons (bVar 7) aNil)))) aNil)))
    sNop)
    (sSeq (sIf (asB (eOp gEq (bVar 0) (eC (.str (PySem.Str.ofString "air")))))
    (sRet (eCall gSum (aCons (asL (fLc [7] (iSeq (bVar 3)) (gNm 7) tYesF (eOp gMul (bVar 7) (bVar 7)))) aNil)))
    sNop)
    (sSeq (sIf (asB (eOp gEq (bVar 0) (eC (.str (PySem.Str.ofString "widest")))))
    (sRet (eCall gMaxA (aCons (asL (fLc [7] (iSeq (bVar 3)) (gNm 7) tYesF (eCall gAbs (aCons (bVar 7) aNil)))) aNil)))
    sNop)
    (sSeq (sIf (asB (eOp gEq (bVar 0) (eC (.str (PySem.Str.ofString "unlike")))))
    (sRet (eCall gLen (aCons (asL (fLc [7] (iSeq (bVar 3)) (gNm 7) (asB (eOp gNe (bVar 7) (eC (.int 0)))) (eC (.int 1)))) aNil)))
    sNop)
    (sSeq (sIf (asB (eOp gEq (eOp gIx (bVar 0) (eC (.int 0))) (eC (.str (PySem.Str.ofString "weights")))))
    (sRet (eCall gSum (aCons (asL (fLc [8, 7] (iZipD (aCons (eOp gIx (bVar 0) (eC (.int 1))) (aCons (bVar 3) aNil))) (gTp (gsCons (gNm 8) (gsCons (gNm 7) gsNil))) tYesF (eOp gMul (bVar 8) (eCall gAbs (aCons (bVar 7) aNil))))) aNil)))
    sNop)
    (sSeq (sSet 4 (eOp gIx (bVar 0) (eC (.int 1))))
    (sRet (eCall gSum (aCons (asL (fLc [9] (iRg1 (aCons (eCall gLen (aCons (bVar 3) aNil)) aNil)) (gNm 9) tYesF (eOp gMul (eOp gIx (bVar 3) (bVar 9)) (eCall gSum (aCons (asL (fLc [10, 7] (iZipD (aCons (eOp gIx (bVar 4) (bVar 9)) (aCons (bVar 3) aNil))) (gTp (gsCons (gNm 10) (gsCons (gNm 7) gsNil))) tYesF (eOp gMul (bVar 10) (bVar 7)))) aNil))))) aNil))))))))))
def run_far : List D → Option D := runC 3 8 b_far
theorem ok_far (B : Bs mg) (F : FunT K mg "far" s_far) : FnT P w K mg base "far" 1 3 run_far :=
  fnt_mk (lv := 0) F sc_far rfl rfl (fun _ _ _ _ _ _ us hl => match us, hl with | [_, _, _], _ => rfl) (fun f cdv A outer s H E hr =>
    (ssx_cons (sx_set (i := 3) sc_far.nd rfl (Or.inr rfl) (ex_f (fx_lc (own := [("one", 5), ("other", 6)]) rfl sc_far.nd (icx_zip (by rfl) B.b_zip (abx_cons (bx_var (i := 1) rfl (Or.inl rfl)) (abx_cons (bx_var (i := 2) rfl (Or.inl rfl)) abx_nil))) (blkOk_by (by kernel_rfl)) (by decide) (fun _ _ _ _ _ => (gx_tp rfl (gsx_cons (gx_nm (i := 5) sc_far.nd rfl (by first | exact Or.inl rfl | exact Or.inr rfl)) (gsx_cons (gx_nm (i := 6) sc_far.nd rfl (by first | exact Or.inl rfl | exact Or.inr rfl)) gsx_nil)) (gsl_cons (gsl_cons gsl_nil)))) (fun _ _ _ _ _ => pts_no) (fun _ _ _ _ _ => (ex_op osub (bx_var (i := 5) rfl (by first | exact Or.inl rfl | exact Or.inr (Or.inr rfl) | exact Or.inr (Or.inl rfl))) (bx_var (i := 6) rfl (by first | exact Or.inl rfl | exact Or.inr (Or.inr rfl) | exact Or.inr (Or.inl rfl)))))))) (ssx_cons (sx_if (tx_cmp (oeq hr.units) (bx_var (i := 0) rfl (Or.inl rfl)) (bx ex_str) (nomark _)) (ssx_one (sx_ret (ex_callB (csum rfl) (by rfl) B.b_sum (by decide +kernel) (abx_cons (bx (ex_f (fx_lc (own := [("step", 7)]) rfl sc_far.nd (icx_seq (bx_var (i := 3) rfl (Or.inr (Or.inl rfl)))) (blkOk_by (by kernel_rfl)) (by decide) (fun _ _ _ _ _ => (gx_nm (i := 7) sc_far.nd rfl (by first | exact Or.inl rfl | exact Or.inr rfl))) (fun _ _ _ _ _ => pts_no) (fun _ _ _ _ _ => (ex_callB cabs (by rfl) B.b_abs (by decide +kernel) (abx_cons (bx_var (i := 7) rfl (by first | exact Or.inl rfl | exact Or.inr (Or.inr rfl) | exact Or.inr (Or.inl rfl))) abx_nil)))))) abx_nil)))) ssx_nil) (ssx_cons (sx_if (tx_cmp (oeq hr.units) (bx_var (i := 0) rfl (Or.inl rfl)) (bx ex_str) (nomark _)) (ssx_one (sx_ret (ex_callB (csum rfl) (by rfl) B.b_sum (by decide +kernel) (abx_cons (bx (ex_f (fx_lc (own := [("step", 7)]) rfl sc_far.nd (icx_seq (bx_var (i := 3) rfl (Or.inr (Or.inl rfl)))) (blkOk_by (by kernel_rfl)) (by decide) (fun _ _ _ _ _ => (gx_nm (i := 7) sc_far.nd rfl (by first | exact Or.inl rfl | exact Or.inr rfl))) (fun _ _ _ _ _ => pts_no) (fun _ _ _ _ _ => (ex_op omul (bx_var (i := 7) rfl (by first | exact Or.inl rfl | exact Or.inr (Or.inr rfl) | exact Or.inr (Or.inl rfl))) (bx_var (i := 7) rfl (by first | exact Or.inl rfl | exact Or.inr (Or.inr rfl) | exact Or.inr (Or.inl rfl)))))))) abx_nil)))) ssx_nil) (ssx_cons (sx_if (tx_cmp (oeq hr.units) (bx_var (i := 0) rfl (Or.inl rfl)) (bx ex_str) (nomark _)) (ssx_one (sx_ret (ex_callB (cmaxA rfl (room65 hr)) (by rfl) B.b_max (by decide +kernel) (abx_cons (bx (ex_f (fx_lc (own := [("step", 7)]) rfl sc_far.nd (icx_seq (bx_var (i := 3) rfl (Or.inr (Or.inl rfl)))) (blkOk_by (by kernel_rfl)) (by decide) (fun _ _ _ _ _ => (gx_nm (i := 7) sc_far.nd rfl (by first | exact Or.inl rfl | exact Or.inr rfl))) (fun _ _ _ _ _ => pts_no) (fun _ _ _ _ _ => (ex_callB cabs (by rfl) B.b_abs (by decide +kernel) (abx_cons (bx_var (i := 7) rfl (by first | exact Or.inl rfl | exact Or.inr (Or.inr rfl) | exact Or.inr (Or.inl rfl))) abx_nil)))))) abx_nil)))) ssx_nil) (ssx_cons (sx_if (tx_cmp (oeq hr.units) (bx_var (i := 0) rfl (Or.inl rfl)) (bx ex_str) (nomark _)) (ssx_one (sx_ret (ex_callB clen (by rfl) B.b_len PySem.boot_len (abx_cons (bx (ex_f (fx_lc (own := [("step", 7)]) rfl sc_far.nd (icx_seq (bx_var (i := 3) rfl (Or.inr (Or.inl rfl)))) (blkOk_by (by kernel_rfl)) (by decide) (fun _ _ _ _ _ => (gx_nm (i := 7) sc_far.nd rfl (by first | exact Or.inl rfl | exact Or.inr rfl))) (fun _ _ _ _ _ => (pts_if (tx_cmp (one hr.units) (bx_var (i := 7) rfl (by first | exact Or.inl rfl | exact Or.inr (Or.inr rfl) | exact Or.inr (Or.inl rfl))) (bx ex_int) (nomark _)))) (fun _ _ _ _ _ => ex_int)))) abx_nil)))) ssx_nil) (ssx_cons (sx_if (tx_cmp (oeq hr.units) (bx (ex_ix (bx_var (i := 0) rfl (Or.inl rfl)) (bx ex_int) (fun _ _ => rfl))) (bx ex_str) (nomark _)) (ssx_one (sx_ret (ex_callB (csum rfl) (by rfl) B.b_sum (by decide +kernel) (abx_cons (bx (ex_f (fx_lc (own := [("weight", 8), ("step", 7)]) rfl sc_far.nd (icx_zip (by rfl) B.b_zip (abx_cons (bx (ex_ix (bx_var (i := 0) rfl (Or.inl rfl)) (bx ex_int) (fun _ _ => rfl))) (abx_cons (bx_var (i := 3) rfl (Or.inr (Or.inl rfl))) abx_nil))) (blkOk_by (by kernel_rfl)) (by decide) (fun _ _ _ _ _ => (gx_tp rfl (gsx_cons (gx_nm (i := 8) sc_far.nd rfl (by first | exact Or.inl rfl | exact Or.inr rfl)) (gsx_cons (gx_nm (i := 7) sc_far.nd rfl (by first | exact Or.inl rfl | exact Or.inr rfl)) gsx_nil)) (gsl_cons (gsl_cons gsl_nil)))) (fun _ _ _ _ _ => pts_no) (fun _ _ _ _ _ => (ex_op omul (bx_var (i := 8) rfl (by first | exact Or.inl rfl | exact Or.inr (Or.inr rfl) | exact Or.inr (Or.inl rfl))) (bx (ex_callB cabs (by rfl) B.b_abs (by decide +kernel) (abx_cons (bx_var (i := 7) rfl (by first | exact Or.inl rfl | exact Or.inr (Or.inr rfl) | exact Or.inr (Or.inl rfl))) abx_nil)))))))) abx_nil)))) ssx_nil) (ssx_cons (sx_set (i := 4) sc_far.nd rfl (Or.inr rfl) (ex_ix (bx_var (i := 0) rfl (Or.inl rfl)) (bx ex_int) (fun _ _ => rfl))) (ssx_one (sx_ret (ex_callB (csum rfl) (by rfl) B.b_sum (by decide +kernel) (abx_cons (bx (ex_f (fx_lc (own := [("i", 9)]) rfl sc_far.nd (ilx_c (ilx_rg1 (by rfl) B.b_range (abx_cons (bx (ex_callB clen (by rfl) B.b_len PySem.boot_len (abx_cons (bx_var (i := 3) rfl (Or.inr (Or.inl rfl))) abx_nil))) abx_nil))) (blkOk_by (by kernel_rfl)) (by decide) (fun _ _ _ _ _ => (gx_nm (i := 9) sc_far.nd rfl (by first | exact Or.inl rfl | exact Or.inr rfl))) (fun _ _ _ _ _ => pts_no) (fun _ _ _ _ _ => (ex_op omul (bx (ex_ix (bx_var (i := 3) rfl (by first | exact Or.inl rfl | exact Or.inr (Or.inr rfl) | exact Or.inr (Or.inl rfl))) (bx_var (i := 9) rfl (by first | exact Or.inl rfl | exact Or.inr (Or.inr rfl) | exact Or.inr (Or.inl rfl))) (fun _ _ => rfl))) (bx (ex_callB (csum rfl) (by rfl) B.b_sum (by decide +kernel) (abx_cons (bx (ex_f (fx_lc (own := [("part", 10), ("step", 7)]) rfl sc_far.nd (icx_zip (by rfl) B.b_zip (abx_cons (bx (ex_ix (bx_var (i := 4) rfl (by first | exact Or.inl rfl | exact Or.inr (Or.inr rfl) | exact Or.inr (Or.inl rfl))) (bx_var (i := 9) rfl (by first | exact Or.inl rfl | exact Or.inr (Or.inr rfl) | exact Or.inr (Or.inl rfl))) (fun _ _ => rfl))) (abx_cons (bx_var (i := 3) rfl (by first | exact Or.inl rfl | exact Or.inr (Or.inr rfl) | exact Or.inr (Or.inl rfl))) abx_nil))) (blkOk_by (by kernel_rfl)) (by decide) (fun _ _ _ _ _ => (gx_tp rfl (gsx_cons (gx_nm (i := 10) sc_far.nd rfl (by first | exact Or.inl rfl | exact Or.inr rfl)) (gsx_cons (gx_nm (i := 7) sc_far.nd rfl (by first | exact Or.inl rfl | exact Or.inr rfl)) gsx_nil)) (gsl_cons (gsl_cons gsl_nil)))) (fun _ _ _ _ _ => pts_no) (fun _ _ _ _ _ => (ex_op omul (bx_var (i := 10) rfl (by first | exact Or.inl rfl | exact Or.inr (Or.inr rfl) | exact Or.inr (Or.inl rfl))) (bx_var (i := 7) rfl (by first | exact Or.inl rfl | exact Or.inr (Or.inr rfl) | exact Or.inr (Or.inl rfl)))))))) abx_nil)))))))) abx_nil))))))))))))

/-! split_at(cloud, places): 0 cloud, 1 places, 2 numbers, 3 gaps, 4 widest, 5 axis, 6 row, 7 value, 8 place, 9 part -/
abbrev s_split_at : Stmt := topS 4
theorem sc_split_at : FnScope ["cloud", "places", "numbers", "gaps", "widest", "axis", "row", "value", "place", "part"] ["cloud", "places"] (defScope s_split_at) := ⟨rfl, rfl, rfl, by decide +kernel, rfl, by decide +kernel, by decide +kernel⟩
def b_split_at : Cmd :=
    (sSeq (sSet 2 (asL (fLc [5] (iRg1 (aCons (eCall gLen (aCons (eOp gIx (bVar 0) (eOp gIx (bVar 1) (eC (.int 0)))) aNil)) aNil)) (gNm 5) tYesF (asL (fLc [8] (iSeq (bVar 1)) (gNm 8) tYesF (eOp gIx (eOp gIx (bVar 0) (bVar 8)) (bVar 5)))))))
    (sSeq (sSet 3 (asL (fLc [6] (iSeq (bVar 2)) (gNm 6) tYesF (eOp gSub (eCall gMaxA (aCons (bVar 6) aNil)) (eCall gMinA (aCons (bVar 6) aNil))))))
    (sSeq (sSet 4 (eCall gMaxA (aCons (bVar 3) aNil)))
    (sSeq (sIf (asB (eOp gEq (bVar 4) (eC (.int 0))))
    (sRet (eC .non))
    sNop)
    (sSeq (sSet 5 (eM1 gIndex (bVar 3) (bVar 4)))
    (sSeq (sSet 6 (asL (fCall gSortA (aCons (eOp gIx (bVar 2) (bVar 5)) aNil))))
    (sSeq (sSet 7 (eOp gIx (bVar 6) (eOp gSub (eOp gDiv (eOp gAdd (eCall gLen (aCons (bVar 6) aNil)) (eC (.int 1))) (eC (.int 2))) (eC (.int 1)))))
    (sSeq (sIf (asB (eOp gEq (bVar 7) (eOp gIx (bVar 6) (eUn gNeg (eC (.int 1))))))
    (sSet 7 (eCall gMaxA (aCons (asL (fLc [9] (iSeq (bVar 6)) (gNm 9) (asB (eOp gLt (bVar 9) (eOp gIx (bVar 6) (eUn gNeg (eC (.int 1)))))) (eVar 9))) aNil)))
    sNop)
    (sRet (eTup (aCons (eVar 5) (aCons (eVar 7) aNil))))))))))))
def run_split_at : List D → Option D := runC 2 8 b_split_at
theorem ok_split_at (B : Bs mg) (F : FunT K mg "split_at" s_split_at) : FnT P w K mg base "split_at" 1 2 run_split_at :=
  fnt_mk (lv := 0) F sc_split_at rfl rfl (fun _ _ _ _ _ _ us hl => match us, hl with | [_, _], _ => rfl) (fun f cdv A outer s H E hr =>
    (ssx_cons (sx_setLc (i := 2) (own := [("axis", 5)]) rfl sc_split_at.nd rfl rfl (sw_true rfl rfl rfl (by decide +kernel)) (ilx_c (ilx_rg1 (by rfl) B.b_range (abx_cons (bx (ex_callB clen (by rfl) B.b_len PySem.boot_len (abx_cons (bx (ex_ix (bx_var (i := 0) rfl (Or.inr (Or.inl rfl))) (bx (ex_ix (bx_var (i := 1) rfl (Or.inr (Or.inl rfl))) (bx ex_int) (fun _ _ => rfl))) (fun _ _ => rfl))) abx_nil))) abx_nil))) (blkOk_by (by kernel_rfl)) (by decide) (fun _ _ _ _ _ => (gx_nm (i := 5) sc_split_at.nd rfl (by first | exact Or.inl rfl | exact Or.inr rfl))) (fun _ _ _ _ _ => pts_no) (fun _ _ _ _ _ => (ex_f (fx_lc (own := [("place", 8)]) rfl sc_split_at.nd (icx_seq (bx_var (i := 1) rfl (by first | exact Or.inl rfl | exact Or.inr (Or.inr rfl) | exact Or.inr (Or.inl rfl)))) (blkOk_by (by kernel_rfl)) (by decide) (fun _ _ _ _ _ => (gx_nm (i := 8) sc_split_at.nd rfl (by first | exact Or.inl rfl | exact Or.inr rfl))) (fun _ _ _ _ _ => pts_no) (fun _ _ _ _ _ => (ex_ix (bx (ex_ix (bx_var (i := 0) rfl (by first | exact Or.inl rfl | exact Or.inr (Or.inr rfl) | exact Or.inr (Or.inl rfl))) (bx_var (i := 8) rfl (by first | exact Or.inl rfl | exact Or.inr (Or.inr rfl) | exact Or.inr (Or.inl rfl))) (fun _ _ => rfl))) (bx_var (i := 5) rfl (by first | exact Or.inl rfl | exact Or.inr (Or.inr rfl) | exact Or.inr (Or.inl rfl))) (fun _ _ => rfl))))))) (ssx_cons (sx_setLc (i := 3) (own := [("row", 6)]) rfl sc_split_at.nd rfl rfl (sw_true rfl rfl rfl (by decide +kernel)) (icx_seq (bx_var (i := 2) rfl (Or.inl rfl))) (blkOk_by (by kernel_rfl)) (by decide) (fun _ _ _ _ _ => (gx_nm (i := 6) sc_split_at.nd rfl (by first | exact Or.inl rfl | exact Or.inr rfl))) (fun _ _ _ _ _ => pts_no) (fun _ _ _ _ _ => (ex_op osub (bx (ex_callB (cmaxA rfl (room65 hr)) (by rfl) B.b_max (by decide +kernel) (abx_cons (bx_var (i := 6) rfl (by first | exact Or.inl rfl | exact Or.inr (Or.inr rfl) | exact Or.inr (Or.inl rfl))) abx_nil))) (bx (ex_callB (cminA rfl (room65 hr)) (by rfl) B.b_min (by decide +kernel) (abx_cons (bx_var (i := 6) rfl (by first | exact Or.inl rfl | exact Or.inr (Or.inr rfl) | exact Or.inr (Or.inl rfl))) abx_nil)))))) (ssx_cons (sx_set (i := 4) sc_split_at.nd rfl (Or.inl rfl) (ex_callB (cmaxA rfl (room65 hr)) (by rfl) B.b_max (by decide +kernel) (abx_cons (bx_var (i := 3) rfl (Or.inl rfl)) abx_nil))) (ssx_cons (sx_if (tx_cmp (oeq hr.units) (bx_var (i := 4) rfl (Or.inl rfl)) (bx ex_int) (nomark _)) (ssx_one (sx_ret ex_non)) ssx_nil) (ssx_cons (sx_set (i := 5) sc_split_at.nd rfl (Or.inl rfl) (ex_index (room65 hr) (bx_var (i := 3) rfl (Or.inl rfl)) (bx_var (i := 4) rfl (Or.inl rfl)))) (ssx_cons (sx_set (i := 6) sc_split_at.nd rfl (Or.inr rfl) (ex_f (fx_callB (csortA (room65 hr)) (by rfl) B.b_sorted (by decide +kernel) (abx_cons (bx (ex_ix (bx_var (i := 2) rfl (Or.inl rfl)) (bx_var (i := 5) rfl (Or.inl rfl)) (fun _ _ => rfl))) abx_nil)))) (ssx_cons (sx_set (i := 7) sc_split_at.nd rfl (Or.inl rfl) (ex_ix (bx_var (i := 6) rfl (Or.inr (Or.inl rfl))) (bx (ex_op osub (bx (ex_op odiv (bx (ex_op oadd (bx (ex_callB clen (by rfl) B.b_len PySem.boot_len (abx_cons (bx_var (i := 6) rfl (Or.inr (Or.inl rfl))) abx_nil))) (bx ex_int))) (bx ex_int))) (bx ex_int))) (fun _ _ => rfl))) (ssx_cons (sx_if (tx_cmp (oeq hr.units) (bx_var (i := 7) rfl (Or.inl rfl)) (bx (ex_ix (bx_var (i := 6) rfl (Or.inr (Or.inl rfl))) (bx (ex_neg (bx ex_int))) (fun _ _ => rfl))) (nomark _)) (ssx_one (sx_set (i := 7) sc_split_at.nd rfl (Or.inl rfl) (ex_callB (cmaxA rfl (room65 hr)) (by rfl) B.b_max (by decide +kernel) (abx_cons (bx (ex_f (fx_lc (own := [("part", 9)]) rfl sc_split_at.nd (icx_seq (bx_var (i := 6) rfl (Or.inr (Or.inl rfl)))) (blkOk_by (by kernel_rfl)) (by decide) (fun _ _ _ _ _ => (gx_nm (i := 9) sc_split_at.nd rfl (by first | exact Or.inl rfl | exact Or.inr rfl))) (fun _ _ _ _ _ => (pts_if (tx_cmp olt (bx_var (i := 9) rfl (by first | exact Or.inl rfl | exact Or.inr (Or.inr rfl) | exact Or.inr (Or.inl rfl))) (bx (ex_ix (bx_var (i := 6) rfl (by first | exact Or.inl rfl | exact Or.inr (Or.inr rfl) | exact Or.inr (Or.inl rfl))) (bx (ex_neg (bx ex_int))) (fun _ _ => rfl))) (nomark _)))) (fun _ _ _ _ _ => (ex_var (i := 9) rfl (by first | exact Or.inl rfl | exact Or.inr (Or.inr rfl) | exact Or.inr (Or.inl rfl))))))) abx_nil)))) ssx_nil) (ssx_one (sx_ret (ex_tup (ax_cons (ex_var (i := 5) rfl (Or.inl rfl)) (ax_cons (ex_var (i := 7) rfl (Or.inl rfl)) ax_nil))))))))))))))

/-! tree_of_places(cloud, places): 0 cloud, 1 places, 2 at, 3 axis, 4 value, 5 low, 6 high, 7 place -/
abbrev s_tree_of_places : Stmt := topS 5
theorem sc_tree_of_places : FnScope ["cloud", "places", "at", "axis", "value", "low", "high", "place"] ["cloud", "places"] (defScope s_tree_of_places) := ⟨rfl, rfl, rfl, by decide +kernel, rfl, by decide +kernel, by decide +kernel⟩
def b_tree_of_places (rec : List D → Option D) : Cmd :=
    (sSeq (sIf (tNotF (asT (bVar 1)))
    (sRet (eC .non))
    sNop)
    (sSeq (sSet 2 (eIf (asB (eOp gGt (eCall gLen (aCons (bVar 1) aNil)) (eC (.int 2)))) (eFn run_split_at (aCons (eVar 0) (aCons (eVar 1) aNil))) (eC .non)))
    (sSeq (sIf (asB (eOp gIs (bVar 2) (eC .non)))
    (sRet (eCall gTuple (aCons (bVar 1) aNil)))
    sNop)
    (sSeq (sAsg (gTp (gsCons (gNm 3) (gsCons (gNm 4) gsNil))) (eVar 2))
    (sSeq (sSet 5 (asL (fLc [7] (iSeq (bVar 1)) (gNm 7) (asB (eOp gLe (eOp gIx (eOp gIx (bVar 0) (bVar 7)) (bVar 3)) (bVar 4))) (eVar 7))))
    (sSeq (sSet 6 (asL (fLc [7] (iSeq (bVar 1)) (gNm 7) (asB (eOp gGt (eOp gIx (eOp gIx (bVar 0) (bVar 7)) (bVar 3)) (bVar 4))) (eVar 7))))
    (sRet (eTup (aCons (eVar 3) (aCons (eVar 4) (aCons (eFn rec (aCons (eVar 0) (aCons (eVar 5) aNil))) (aCons (eFn rec (aCons (eVar 0) (aCons (eVar 6) aNil))) aNil))))))))))))
def run_tree_of_places : Nat → List D → Option D
  | 0 => fun _ => none
  | fuel + 1 => runC 2 6 (b_tree_of_places (run_tree_of_places fuel))
theorem ok_tree_of_places (B : Bs mg) (C_LEAF : CI mg "LEAF" 2) (F : FunT K mg "tree_of_places" s_tree_of_places) (c_split_at : FnT P w K mg base "split_at" 1 2 run_split_at) : ∀ fuel, FnT P w K mg base "tree_of_places" (1 + fuel) 2 (run_tree_of_places fuel)
  | 0 => fnt_zero (ps := ["cloud", "places"]) F (fun _ _ _ _ _ _ us hl => match us, hl with | [_, _], _ => rfl)
  | fuel + 1 => have c_tree_of_places := ok_tree_of_places B C_LEAF F c_split_at fuel
    fnt_mk (lv := 1 + fuel) F sc_tree_of_places rfl rfl (fun _ _ _ _ _ _ us hl => match us, hl with | [_, _], _ => rfl) (fun f cdv A outer s H E hr =>
    (ssx_cons (sx_if (tx_not (tx_tru (bx_var (i := 1) rfl (Or.inl rfl)))) (ssx_one (sx_ret ex_non)) ssx_nil) (ssx_cons (sx_set (i := 2) sc_tree_of_places.nd rfl (Or.inl rfl) (ex_if (tx_cmp ogt (bx (ex_callB clen (by rfl) B.b_len PySem.boot_len (abx_cons (bx_var (i := 1) rfl (Or.inl rfl)) abx_nil))) (bx (ex_ci C_LEAF (by rfl))) (nomark _)) (ex_fnT c_split_at hr (by omega) (by rfl) (ax_cons (ex_var (i := 0) rfl (Or.inr (Or.inl rfl))) (ax_cons (ex_var (i := 1) rfl (Or.inl rfl)) ax_nil))) ex_non)) (ssx_cons (sx_if (tx_cmp ois (bx_var (i := 2) rfl (Or.inl rfl)) (bx ex_non) (nomark _)) (ssx_one (sx_ret (ex_callTy ctuple (by rfl) B.b_tuple (by decide +kernel) (abx_cons (bx_var (i := 1) rfl (Or.inl rfl)) abx_nil)))) ssx_nil) (ssx_cons (sx_asg (ex_var (i := 2) rfl (Or.inl rfl)) (gx_tp rfl (gsx_cons (gx_nm (i := 3) sc_tree_of_places.nd rfl (Or.inr rfl)) (gsx_cons (gx_nm (i := 4) sc_tree_of_places.nd rfl (Or.inr rfl)) gsx_nil)) (gsl_cons (gsl_cons gsl_nil)))) (ssx_cons (sx_setLc (i := 5) (own := [("place", 7)]) rfl sc_tree_of_places.nd rfl rfl (sw_true rfl rfl rfl (by decide +kernel)) (icx_seq (bx_var (i := 1) rfl (Or.inl rfl))) (blkOk_by (by kernel_rfl)) (by decide) (fun _ _ _ _ _ => (gx_nm (i := 7) sc_tree_of_places.nd rfl (by first | exact Or.inl rfl | exact Or.inr rfl))) (fun _ _ _ _ _ => (pts_if (tx_cmp ole (bx (ex_ix (bx (ex_ix (bx_var (i := 0) rfl (by first | exact Or.inl rfl | exact Or.inr (Or.inr rfl) | exact Or.inr (Or.inl rfl))) (bx_var (i := 7) rfl (by first | exact Or.inl rfl | exact Or.inr (Or.inr rfl) | exact Or.inr (Or.inl rfl))) (fun _ _ => rfl))) (bx_var (i := 3) rfl (by first | exact Or.inl rfl | exact Or.inr (Or.inr rfl) | exact Or.inr (Or.inl rfl))) (fun _ _ => rfl))) (bx_var (i := 4) rfl (by first | exact Or.inl rfl | exact Or.inr (Or.inr rfl) | exact Or.inr (Or.inl rfl))) (nomark _)))) (fun _ _ _ _ _ => (ex_var (i := 7) rfl (by first | exact Or.inl rfl | exact Or.inr (Or.inr rfl) | exact Or.inr (Or.inl rfl))))) (ssx_cons (sx_setLc (i := 6) (own := [("place", 7)]) rfl sc_tree_of_places.nd rfl rfl (sw_true rfl rfl rfl (by decide +kernel)) (icx_seq (bx_var (i := 1) rfl (Or.inl rfl))) (blkOk_by (by kernel_rfl)) (by decide) (fun _ _ _ _ _ => (gx_nm (i := 7) sc_tree_of_places.nd rfl (by first | exact Or.inl rfl | exact Or.inr rfl))) (fun _ _ _ _ _ => (pts_if (tx_cmp ogt (bx (ex_ix (bx (ex_ix (bx_var (i := 0) rfl (by first | exact Or.inl rfl | exact Or.inr (Or.inr rfl) | exact Or.inr (Or.inl rfl))) (bx_var (i := 7) rfl (by first | exact Or.inl rfl | exact Or.inr (Or.inr rfl) | exact Or.inr (Or.inl rfl))) (fun _ _ => rfl))) (bx_var (i := 3) rfl (by first | exact Or.inl rfl | exact Or.inr (Or.inr rfl) | exact Or.inr (Or.inl rfl))) (fun _ _ => rfl))) (bx_var (i := 4) rfl (by first | exact Or.inl rfl | exact Or.inr (Or.inr rfl) | exact Or.inr (Or.inl rfl))) (nomark _)))) (fun _ _ _ _ _ => (ex_var (i := 7) rfl (by first | exact Or.inl rfl | exact Or.inr (Or.inr rfl) | exact Or.inr (Or.inl rfl))))) (ssx_one (sx_ret (ex_tup (ax_cons (ex_var (i := 3) rfl (Or.inr (Or.inl rfl))) (ax_cons (ex_var (i := 4) rfl (Or.inr (Or.inl rfl))) (ax_cons (ex_fnT c_tree_of_places hr (by omega) (by rfl) (ax_cons (ex_var (i := 0) rfl (Or.inr (Or.inl rfl))) (ax_cons (ex_var (i := 5) rfl (Or.inl rfl)) ax_nil))) (ax_cons (ex_fnT c_tree_of_places hr (by omega) (by rfl) (ax_cons (ex_var (i := 0) rfl (Or.inr (Or.inl rfl))) (ax_cons (ex_var (i := 6) rfl (Or.inl rfl)) ax_nil))) ax_nil))))))))))))))

/-! split_tree(cloud): 0 cloud -/
abbrev s_split_tree : Stmt := topS 6
theorem sc_split_tree : FnScope ["cloud"] ["cloud"] (defScope s_split_tree) := ⟨rfl, rfl, rfl, by decide +kernel, rfl, by decide +kernel, by decide +kernel⟩
def b_split_tree : Cmd :=
    (sRet (eFn (run_tree_of_places 14) (aCons (eVar 0) (aCons (asL (iRg1' (eCall gLen (aCons (bVar 0) aNil)))) aNil))))
def run_split_tree : List D → Option D := runC 1 0 b_split_tree
theorem ok_split_tree (B : Bs mg) (F : FunT K mg "split_tree" s_split_tree) (c_tree_of_places : FnT P w K mg base "tree_of_places" 15 2 (run_tree_of_places 14)) : FnT P w K mg base "split_tree" 16 1 run_split_tree :=
  fnt_mk (lv := 15) F sc_split_tree rfl rfl (fun _ _ _ _ _ _ us hl => match us, hl with | [_], _ => rfl) (fun f cdv A outer s H E hr =>
    (ssx_one (sx_ret (ex_fnT c_tree_of_places hr (by decide) (by rfl) (ax_cons (ex_var (i := 0) rfl (Or.inl rfl)) (ax_cons (ex_f (fx_lrg1 rfl (by rfl) B.b_list (by rfl) B.b_range (bx (ex_callB clen (by rfl) B.b_len PySem.boot_len (abx_cons (bx_var (i := 0) rfl (Or.inl rfl)) abx_nil))))) ax_nil))))))

/-! is_split(tree): 0 tree -/
abbrev s_is_split : Stmt := topS 7
theorem sc_is_split : FnScope ["tree"] ["tree"] (defScope s_is_split) := ⟨rfl, rfl, rfl, by decide +kernel, rfl, by decide +kernel, by decide +kernel⟩
def b_is_split : Cmd :=
    (sRet (eAnd (eOp gIsNot (bVar 0) (eC .non)) (eAnd (eOp gEq (eCall gLen (aCons (bVar 0) aNil)) (eC (.int 4))) (eNot (eIsi "int" (eOp gIx (bVar 0) (eC (.int 3))))))))
def run_is_split : List D → Option D := runC 1 0 b_is_split
theorem ok_is_split (B : Bs mg) (F : FunT K mg "is_split" s_is_split) : FnT P w K mg base "is_split" 1 1 run_is_split :=
  fnt_mk (lv := 0) F sc_is_split rfl rfl (fun _ _ _ _ _ _ us hl => match us, hl with | [_], _ => rfl) (fun f cdv A outer s H E hr =>
    (ssx_one (sx_ret (ex_and (ex_cmp oisn (bx_var (i := 0) rfl (Or.inl rfl)) (bx ex_non) (nomark _)) (ex_and (ex_cmp (oeq hr.units) (bx (ex_callB clen (by rfl) B.b_len PySem.boot_len (abx_cons (bx_var (i := 0) rfl (Or.inl rfl)) abx_nil))) (bx ex_int) (nomark _)) (ex_one (ex_not (ex_isi kit_int (by rfl) B.b_isinstance (bx (ex_ix (bx_var (i := 0) rfl (Or.inl rfl)) (bx ex_int) (fun _ _ => rfl))) (by rfl) B.b_int (by decide +kernel)))))))))

/-! split_depth(tree): 0 tree -/
abbrev s_split_depth : Stmt := topS 8
theorem sc_split_depth : FnScope ["tree"] ["tree"] (defScope s_split_depth) := ⟨rfl, rfl, rfl, by decide +kernel, rfl, by decide +kernel, by decide +kernel⟩
def b_split_depth (rec : List D → Option D) : Cmd :=
    (sSeq (sIf (tNotF (asT (eFn run_is_split (aCons (eVar 0) aNil))))
    (sRet (eC (.int 0)))
    sNop)
    (sRet (eOp gAdd (eC (.int 1)) (eCall gMax2 (aCons (eFn rec (aCons (eOp gIx (bVar 0) (eC (.int 2))) aNil)) (aCons (eFn rec (aCons (eOp gIx (bVar 0) (eC (.int 3))) aNil)) aNil))))))
def run_split_depth : Nat → List D → Option D
  | 0 => fun _ => none
  | fuel + 1 => runC 1 0 (b_split_depth (run_split_depth fuel))
theorem ok_split_depth (B : Bs mg) (F : FunT K mg "split_depth" s_split_depth) (c_is_split : FnT P w K mg base "is_split" 1 1 run_is_split) : ∀ fuel, FnT P w K mg base "split_depth" (1 + fuel) 1 (run_split_depth fuel)
  | 0 => fnt_zero (ps := ["tree"]) F (fun _ _ _ _ _ _ us hl => match us, hl with | [_], _ => rfl)
  | fuel + 1 => have c_split_depth := ok_split_depth B F c_is_split fuel
    fnt_mk (lv := 1 + fuel) F sc_split_depth rfl rfl (fun _ _ _ _ _ _ us hl => match us, hl with | [_], _ => rfl) (fun f cdv A outer s H E hr =>
    (ssx_cons (sx_if (tx_not (tx_tru (bx (ex_fnT c_is_split hr (by omega) (by rfl) (ax_cons (ex_var (i := 0) rfl (Or.inl rfl)) ax_nil))))) (ssx_one (sx_ret ex_int)) ssx_nil) (ssx_one (sx_ret (ex_op oadd (bx ex_int) (bx (ex_callB (cmax2 rfl) (by rfl) B.b_max (by decide +kernel) (abx_cons (bx (ex_fnT c_split_depth hr (by omega) (by rfl) (ax_cons (ex_ix (bx_var (i := 0) rfl (Or.inl rfl)) (bx ex_int) (fun _ _ => rfl)) ax_nil))) (abx_cons (bx (ex_fnT c_split_depth hr (by omega) (by rfl) (ax_cons (ex_ix (bx_var (i := 0) rfl (Or.inl rfl)) (bx ex_int) (fun _ _ => rfl)) ax_nil))) abx_nil)))))))))

/-! with_pairs(found, pairs, k): 0 found, 1 pairs, 2 k -/
abbrev s_with_pairs : Stmt := topS 9
theorem sc_with_pairs : FnScope ["found", "pairs", "k"] ["found", "pairs", "k"] (defScope s_with_pairs) := ⟨rfl, rfl, rfl, by decide +kernel, rfl, by decide +kernel, by decide +kernel⟩
def b_with_pairs : Cmd :=
    (sRet (eSl (asL (fCall gSortA (aCons (eOp gAdd (bVar 0) (bVar 1)) aNil))) oNo (oYes (bVar 2))))
def run_with_pairs : List D → Option D := runC 3 0 b_with_pairs
theorem ok_with_pairs (B : Bs mg) (F : FunT K mg "with_pairs" s_with_pairs) : FnT P w K mg base "with_pairs" 1 3 run_with_pairs :=
  fnt_mk (lv := 0) F sc_with_pairs rfl rfl (fun _ _ _ _ _ _ us hl => match us, hl with | [_, _, _], _ => rfl) (fun f cdv A outer s H E hr =>
    (ssx_one (sx_ret (ex_sl (bx (ex_f (fx_callB (csortA (room65 hr)) (by rfl) B.b_sorted (by decide +kernel) (abx_cons (bx (ex_op oadd (bx_var (i := 0) rfl (Or.inl rfl)) (bx_var (i := 1) rfl (Or.inl rfl)))) abx_nil)))) ox_no (ox_yes (bx_var (i := 2) rfl (Or.inl rfl)))))))

/-! axis_gap(way, step): 0 way, 1 step -/
abbrev s_axis_gap : Stmt := topS 10
theorem sc_axis_gap : FnScope ["way", "step"] ["way", "step"] (defScope s_axis_gap) := ⟨rfl, rfl, rfl, by decide +kernel, rfl, by decide +kernel, by decide +kernel⟩
def b_axis_gap : Cmd :=
    (sRet (eIf (asB (eOp gEq (bVar 0) (eC (.str (PySem.Str.ofString "air"))))) (eOp gMul (bVar 1) (bVar 1)) (eCall gAbs (aCons (bVar 1) aNil))))
def run_axis_gap : List D → Option D := runC 2 0 b_axis_gap
theorem ok_axis_gap (B : Bs mg) (F : FunT K mg "axis_gap" s_axis_gap) : FnT P w K mg base "axis_gap" 1 2 run_axis_gap :=
  fnt_mk (lv := 0) F sc_axis_gap rfl rfl (fun _ _ _ _ _ _ us hl => match us, hl with | [_, _], _ => rfl) (fun f cdv A outer s H E hr =>
    (ssx_one (sx_ret (ex_if (tx_cmp (oeq hr.units) (bx_var (i := 0) rfl (Or.inl rfl)) (bx ex_str) (nomark _)) (ex_op omul (bx_var (i := 1) rfl (Or.inl rfl)) (bx_var (i := 1) rfl (Or.inl rfl))) (ex_callB cabs (by rfl) B.b_abs (by decide +kernel) (abx_cons (bx_var (i := 1) rfl (Or.inl rfl)) abx_nil))))))

/-! go_down(cloud, tree, vector, way, k, found): 0 cloud, 1 tree, 2 vector, 3 way, 4 k, 5 found, 6 pairs, 7 axis, 8 value, 9 low, 10 high, 11 sides, 12 looks, 13 gap, 14 more, 15 place -/
abbrev s_go_down : Stmt := topS 11
theorem sc_go_down : FnScope ["cloud", "tree", "vector", "way", "k", "found", "pairs", "axis", "value", "low", "high", "sides", "looks", "gap", "more", "place"] ["cloud", "tree", "vector", "way", "k", "found"] (defScope s_go_down) := ⟨rfl, rfl, rfl, by decide +kernel, rfl, by decide +kernel, by decide +kernel⟩
def b_go_down (rec : List D → Option D) : Cmd :=
    (sSeq (sIf (asB (eOp gIs (bVar 1) (eC .non)))
    (sRet (eTup (aCons (eVar 5) (aCons (eC (.int 0)) aNil))))
    sNop)
    (sSeq (sIf (tNotF (asT (eFn run_is_split (aCons (eVar 1) aNil))))
    (sSeq (sSet 6 (asL (fLc [15] (iSeq (bVar 1)) (gNm 15) tYesF (eTup (aCons (eFn run_far (aCons (eVar 3) (aCons (eVar 2) (aCons (eOp gIx (bVar 0) (bVar 15)) aNil)))) (aCons (eVar 15) aNil))))))
    (sRet (eTup (aCons (eFn run_with_pairs (aCons (eVar 5) (aCons (eVar 6) (aCons (eVar 4) aNil)))) (aCons (eCall gLen (aCons (bVar 1) aNil)) aNil)))))
    sNop)
    (sSeq (sAsg (gTp (gsCons (gNm 7) (gsCons (gNm 8) (gsCons (gNm 9) (gsCons (gNm 10) gsNil))))) (eVar 1))
    (sSeq (sSet 11 (eIf (asB (eOp gLe (eOp gIx (bVar 2) (bVar 7)) (bVar 8))) (eLst (aCons (eTup (aCons (eVar 9) (aCons (eVar 8) aNil))) (aCons (eTup (aCons (eVar 10) (aCons (eOp gAdd (bVar 8) (eC (.int 1))) aNil))) aNil))) (eLst (aCons (eTup (aCons (eVar 10) (aCons (eOp gAdd (bVar 8) (eC (.int 1))) aNil))) (aCons (eTup (aCons (eVar 9) (aCons (eVar 8) aNil))) aNil)))))
    (sSeq (sAsg (gTp (gsCons (gNm 5) (gsCons (gNm 12) gsNil))) (eFn rec (aCons (eVar 0) (aCons (eOp gIx (eOp gIx (bVar 11) (eC (.int 0))) (eC (.int 0))) (aCons (eVar 2) (aCons (eVar 3) (aCons (eVar 4) (aCons (eVar 5) aNil))))))))
    (sSeq (sSet 13 (eFn run_axis_gap (aCons (eVar 3) (aCons (eOp gSub (eOp gIx (bVar 2) (bVar 7)) (eOp gIx (eOp gIx (bVar 11) (eC (.int 1))) (eC (.int 1)))) aNil))))
    (sSeq (sIf (tAndF (asB (eOp gGe (eCall gLen (aCons (bVar 5) aNil)) (bVar 4))) (tOrF (asB (eOp gEq (bVar 4) (eC (.int 0)))) (asB (eOp gGt (bVar 13) (eOp gIx (eOp gIx (bVar 5) (eUn gNeg (eC (.int 1)))) (eC (.int 0)))))))
    (sRet (eTup (aCons (eVar 5) (aCons (eVar 12) aNil))))
    sNop)
    (sSeq (sAsg (gTp (gsCons (gNm 5) (gsCons (gNm 14) gsNil))) (eFn rec (aCons (eVar 0) (aCons (eOp gIx (eOp gIx (bVar 11) (eC (.int 1))) (eC (.int 0))) (aCons (eVar 2) (aCons (eVar 3) (aCons (eVar 4) (aCons (eVar 5) aNil))))))))
    (sRet (eTup (aCons (eVar 5) (aCons (eOp gAdd (bVar 12) (bVar 14)) aNil))))))))))))
def run_go_down : Nat → List D → Option D
  | 0 => fun _ => none
  | fuel + 1 => runC 6 10 (b_go_down (run_go_down fuel))
theorem ok_go_down (B : Bs mg) (F : FunT K mg "go_down" s_go_down) (c_axis_gap : FnT P w K mg base "axis_gap" 1 2 run_axis_gap) (c_is_split : FnT P w K mg base "is_split" 1 1 run_is_split) (c_with_pairs : FnT P w K mg base "with_pairs" 1 3 run_with_pairs) (c_far : FnT P w K mg base "far" 1 3 run_far) : ∀ fuel, FnT P w K mg base "go_down" (1 + fuel) 6 (run_go_down fuel)
  | 0 => fnt_zero (ps := ["cloud", "tree", "vector", "way", "k", "found"]) F (fun _ _ _ _ _ _ us hl => match us, hl with | [_, _, _, _, _, _], _ => rfl)
  | fuel + 1 => have c_go_down := ok_go_down B F c_axis_gap c_is_split c_with_pairs c_far fuel
    fnt_mk (lv := 1 + fuel) F sc_go_down rfl rfl (fun _ _ _ _ _ _ us hl => match us, hl with | [_, _, _, _, _, _], _ => rfl) (fun f cdv A outer s H E hr =>
    (ssx_cons (sx_if (tx_cmp ois (bx_var (i := 1) rfl (Or.inl rfl)) (bx ex_non) (nomark _)) (ssx_one (sx_ret (ex_tup (ax_cons (ex_var (i := 5) rfl (Or.inl rfl)) (ax_cons ex_int ax_nil))))) ssx_nil) (ssx_cons (sx_if (tx_not (tx_tru (bx (ex_fnT c_is_split hr (by omega) (by rfl) (ax_cons (ex_var (i := 1) rfl (Or.inl rfl)) ax_nil))))) (ssx_cons (sx_setLc (i := 6) (own := [("place", 15)]) rfl sc_go_down.nd rfl rfl (sw_true rfl rfl rfl (by decide +kernel)) (icx_seq (bx_var (i := 1) rfl (Or.inl rfl))) (blkOk_by (by kernel_rfl)) (by decide) (fun _ _ _ _ _ => (gx_nm (i := 15) sc_go_down.nd rfl (by first | exact Or.inl rfl | exact Or.inr rfl))) (fun _ _ _ _ _ => pts_no) (fun _ _ _ _ _ => (ex_tup (ax_cons (ex_fnT c_far hr (by omega) (by rfl) (ax_cons (ex_var (i := 3) rfl (by first | exact Or.inl rfl | exact Or.inr (Or.inr rfl) | exact Or.inr (Or.inl rfl))) (ax_cons (ex_var (i := 2) rfl (by first | exact Or.inl rfl | exact Or.inr (Or.inr rfl) | exact Or.inr (Or.inl rfl))) (ax_cons (ex_ix (bx_var (i := 0) rfl (by first | exact Or.inl rfl | exact Or.inr (Or.inr rfl) | exact Or.inr (Or.inl rfl))) (bx_var (i := 15) rfl (by first | exact Or.inl rfl | exact Or.inr (Or.inr rfl) | exact Or.inr (Or.inl rfl))) (fun _ _ => rfl)) ax_nil)))) (ax_cons (ex_var (i := 15) rfl (by first | exact Or.inl rfl | exact Or.inr (Or.inr rfl) | exact Or.inr (Or.inl rfl))) ax_nil))))) (ssx_one (sx_ret (ex_tup (ax_cons (ex_fnT c_with_pairs hr (by omega) (by rfl) (ax_cons (ex_var (i := 5) rfl (Or.inl rfl)) (ax_cons (ex_var (i := 6) rfl (Or.inl rfl)) (ax_cons (ex_var (i := 4) rfl (Or.inl rfl)) ax_nil)))) (ax_cons (ex_callB clen (by rfl) B.b_len PySem.boot_len (abx_cons (bx_var (i := 1) rfl (Or.inl rfl)) abx_nil)) ax_nil)))))) ssx_nil) (ssx_cons (sx_asg (ex_var (i := 1) rfl (Or.inl rfl)) (gx_tp rfl (gsx_cons (gx_nm (i := 7) sc_go_down.nd rfl (Or.inl rfl)) (gsx_cons (gx_nm (i := 8) sc_go_down.nd rfl (Or.inl rfl)) (gsx_cons (gx_nm (i := 9) sc_go_down.nd rfl (Or.inl rfl)) (gsx_cons (gx_nm (i := 10) sc_go_down.nd rfl (Or.inl rfl)) gsx_nil)))) (gsl_cons (gsl_cons (gsl_cons (gsl_cons gsl_nil)))))) (ssx_cons (sx_set (i := 11) sc_go_down.nd rfl (Or.inl rfl) (ex_if (tx_cmp ole (bx (ex_ix (bx_var (i := 2) rfl (Or.inr (Or.inl rfl))) (bx_var (i := 7) rfl (Or.inl rfl)) (fun _ _ => rfl))) (bx_var (i := 8) rfl (Or.inl rfl)) (nomark _)) (ex_lst (ax_cons (ex_tup (ax_cons (ex_var (i := 9) rfl (Or.inl rfl)) (ax_cons (ex_var (i := 8) rfl (Or.inl rfl)) ax_nil))) (ax_cons (ex_tup (ax_cons (ex_var (i := 10) rfl (Or.inl rfl)) (ax_cons (ex_op oadd (bx_var (i := 8) rfl (Or.inl rfl)) (bx ex_int)) ax_nil))) ax_nil))) (ex_lst (ax_cons (ex_tup (ax_cons (ex_var (i := 10) rfl (Or.inl rfl)) (ax_cons (ex_op oadd (bx_var (i := 8) rfl (Or.inl rfl)) (bx ex_int)) ax_nil))) (ax_cons (ex_tup (ax_cons (ex_var (i := 9) rfl (Or.inl rfl)) (ax_cons (ex_var (i := 8) rfl (Or.inl rfl)) ax_nil))) ax_nil))))) (ssx_cons (sx_asg (ex_fnT c_go_down hr (by omega) (by rfl) (ax_cons (ex_var (i := 0) rfl (Or.inr (Or.inl rfl))) (ax_cons (ex_ix (bx (ex_ix (bx_var (i := 11) rfl (Or.inl rfl)) (bx ex_int) (fun _ _ => rfl))) (bx ex_int) (fun _ _ => rfl)) (ax_cons (ex_var (i := 2) rfl (Or.inr (Or.inl rfl))) (ax_cons (ex_var (i := 3) rfl (Or.inr (Or.inl rfl))) (ax_cons (ex_var (i := 4) rfl (Or.inl rfl)) (ax_cons (ex_var (i := 5) rfl (Or.inl rfl)) ax_nil))))))) (gx_tp rfl (gsx_cons (gx_nm (i := 5) sc_go_down.nd rfl (Or.inl rfl)) (gsx_cons (gx_nm (i := 12) sc_go_down.nd rfl (Or.inl rfl)) gsx_nil)) (gsl_cons (gsl_cons gsl_nil)))) (ssx_cons (sx_set (i := 13) sc_go_down.nd rfl (Or.inl rfl) (ex_fnT c_axis_gap hr (by omega) (by rfl) (ax_cons (ex_var (i := 3) rfl (Or.inr (Or.inl rfl))) (ax_cons (ex_op osub (bx (ex_ix (bx_var (i := 2) rfl (Or.inr (Or.inl rfl))) (bx_var (i := 7) rfl (Or.inl rfl)) (fun _ _ => rfl))) (bx (ex_ix (bx (ex_ix (bx_var (i := 11) rfl (Or.inl rfl)) (bx ex_int) (fun _ _ => rfl))) (bx ex_int) (fun _ _ => rfl)))) ax_nil)))) (ssx_cons (sx_if (PW.pt (wx_and (tx_cmp oge (bx (ex_callB clen (by rfl) B.b_len PySem.boot_len (abx_cons (bx_var (i := 5) rfl (Or.inl rfl)) abx_nil))) (bx_var (i := 4) rfl (Or.inl rfl)) (nomark _)) (wx_and1 (PW.pt (wx_or (tx_cmp (oeq hr.units) (bx_var (i := 4) rfl (Or.inl rfl)) (bx ex_int) (nomark _)) (wx_or1 (tx_cmp ogt (bx_var (i := 13) rfl (Or.inl rfl)) (bx (ex_ix (bx (ex_ix (bx_var (i := 5) rfl (Or.inl rfl)) (bx (ex_neg (bx ex_int))) (fun _ _ => rfl))) (bx ex_int) (fun _ _ => rfl))) (nomark _)))))))) (ssx_one (sx_ret (ex_tup (ax_cons (ex_var (i := 5) rfl (Or.inl rfl)) (ax_cons (ex_var (i := 12) rfl (Or.inl rfl)) ax_nil))))) ssx_nil) (ssx_cons (sx_asg (ex_fnT c_go_down hr (by omega) (by rfl) (ax_cons (ex_var (i := 0) rfl (Or.inr (Or.inl rfl))) (ax_cons (ex_ix (bx (ex_ix (bx_var (i := 11) rfl (Or.inl rfl)) (bx ex_int) (fun _ _ => rfl))) (bx ex_int) (fun _ _ => rfl)) (ax_cons (ex_var (i := 2) rfl (Or.inr (Or.inl rfl))) (ax_cons (ex_var (i := 3) rfl (Or.inr (Or.inl rfl))) (ax_cons (ex_var (i := 4) rfl (Or.inl rfl)) (ax_cons (ex_var (i := 5) rfl (Or.inl rfl)) ax_nil))))))) (gx_tp rfl (gsx_cons (gx_nm (i := 5) sc_go_down.nd rfl (Or.inl rfl)) (gsx_cons (gx_nm (i := 14) sc_go_down.nd rfl (Or.inl rfl)) gsx_nil)) (gsl_cons (gsl_cons gsl_nil)))) (ssx_one (sx_ret (ex_tup (ax_cons (ex_var (i := 5) rfl (Or.inl rfl)) (ax_cons (ex_op oadd (bx_var (i := 12) rfl (Or.inl rfl)) (bx_var (i := 14) rfl (Or.inl rfl))) ax_nil))))))))))))))

/-! tree_nearest(cloud, vector, way, k): 0 cloud, 1 vector, 2 way, 3 k, 4 found, 5 looks -/
abbrev s_tree_nearest : Stmt := topS 12
theorem sc_tree_nearest : FnScope ["cloud", "vector", "way", "k", "found", "looks"] ["cloud", "vector", "way", "k"] (defScope s_tree_nearest) := ⟨rfl, rfl, rfl, by decide +kernel, rfl, by decide +kernel, by decide +kernel⟩
def b_tree_nearest : Cmd :=
    (sSeq (sAsg (gTp (gsCons (gNm 4) (gsCons (gNm 5) gsNil))) (eFn (run_go_down 14) (aCons (eVar 0) (aCons (eFn run_split_tree (aCons (eVar 0) aNil)) (aCons (eVar 1) (aCons (eVar 2) (aCons (eVar 3) (aCons (eLst aNil) aNil))))))))
    (sRet (eTup (aCons (eCall gTuple (aCons (bVar 4) aNil)) (aCons (eVar 5) aNil)))))
def run_tree_nearest : List D → Option D := runC 4 2 b_tree_nearest
theorem ok_tree_nearest (B : Bs mg) (F : FunT K mg "tree_nearest" s_tree_nearest) (c_go_down : FnT P w K mg base "go_down" 15 6 (run_go_down 14)) (c_split_tree : FnT P w K mg base "split_tree" 16 1 run_split_tree) : FnT P w K mg base "tree_nearest" 17 4 run_tree_nearest :=
  fnt_mk (lv := 16) F sc_tree_nearest rfl rfl (fun _ _ _ _ _ _ us hl => match us, hl with | [_, _, _, _], _ => rfl) (fun f cdv A outer s H E hr =>
    (ssx_cons (sx_asg (ex_fnT c_go_down hr (by decide) (by rfl) (ax_cons (ex_var (i := 0) rfl (Or.inl rfl)) (ax_cons (ex_fnT c_split_tree hr (by decide) (by rfl) (ax_cons (ex_var (i := 0) rfl (Or.inl rfl)) ax_nil)) (ax_cons (ex_var (i := 1) rfl (Or.inl rfl)) (ax_cons (ex_var (i := 2) rfl (Or.inl rfl)) (ax_cons (ex_var (i := 3) rfl (Or.inl rfl)) (ax_cons (ex_lst ax_nil) ax_nil))))))) (gx_tp rfl (gsx_cons (gx_nm (i := 4) sc_tree_nearest.nd rfl (Or.inl rfl)) (gsx_cons (gx_nm (i := 5) sc_tree_nearest.nd rfl (Or.inl rfl)) gsx_nil)) (gsl_cons (gsl_cons gsl_nil)))) (ssx_one (sx_ret (ex_tup (ax_cons (ex_callTy ctuple (by rfl) B.b_tuple (by decide +kernel) (abx_cons (bx_var (i := 4) rfl (Or.inl rfl)) abx_nil)) (ax_cons (ex_var (i := 5) rfl (Or.inl rfl)) ax_nil)))))))

/-! rings_of(cloud, way, places): 0 cloud, 1 way, 2 places, 3 first, 4 rest, 5 numbers, 6 most, 7 inner, 8 outer, 9 place -/
abbrev s_rings_of : Stmt := topS 13
theorem sc_rings_of : FnScope ["cloud", "way", "places", "first", "rest", "numbers", "most", "inner", "outer", "place"] ["cloud", "way", "places"] (defScope s_rings_of) := ⟨rfl, rfl, rfl, by decide +kernel, rfl, by decide +kernel, by decide +kernel⟩
def b_rings_of (rec : List D → Option D) : Cmd :=
    (sSeq (sIf (tNotF (asT (bVar 2)))
    (sRet (eC .non))
    sNop)
    (sSeq (sAsg (gTp (gsCons (gNm 3) (gsCons (gNm 4) gsNil))) (eTup (aCons (eOp gIx (bVar 2) (eC (.int 0))) (aCons (eSl (bVar 2) (oYes (eC (.int 1))) oNo) aNil))))
    (sSeq (sIf (tNotF (asT (bVar 4)))
    (sRet (eVar 3))
    sNop)
    (sSeq (sSet 5 (asL (fCall gSortA (aCons (asL (fLc [9] (iSeq (bVar 4)) (gNm 9) tYesF (eFn run_far (aCons (eVar 1) (aCons (eOp gIx (bVar 0) (bVar 3)) (aCons (eOp gIx (bVar 0) (bVar 9)) aNil)))))) aNil))))
    (sSeq (sSet 6 (eOp gIx (bVar 5) (eOp gSub (eOp gDiv (eOp gAdd (eCall gLen (aCons (bVar 4) aNil)) (eC (.int 1))) (eC (.int 2))) (eC (.int 1)))))
    (sSeq (sSet 7 (asL (fLc [9] (iSeq (bVar 4)) (gNm 9) (asB (eOp gLe (eFn run_far (aCons (eVar 1) (aCons (eOp gIx (bVar 0) (bVar 3)) (aCons (eOp gIx (bVar 0) (bVar 9)) aNil)))) (bVar 6))) (eVar 9))))
    (sSeq (sSet 8 (asL (fLc [9] (iSeq (bVar 4)) (gNm 9) (asB (eOp gGt (eFn run_far (aCons (eVar 1) (aCons (eOp gIx (bVar 0) (bVar 3)) (aCons (eOp gIx (bVar 0) (bVar 9)) aNil)))) (bVar 6))) (eVar 9))))
    (sRet (eTup (aCons (eVar 3) (aCons (eVar 6) (aCons (eFn rec (aCons (eVar 0) (aCons (eVar 1) (aCons (eVar 7) aNil)))) (aCons (eFn rec (aCons (eVar 0) (aCons (eVar 1) (aCons (eVar 8) aNil)))) aNil)))))))))))))
def run_rings_of : Nat → List D → Option D
  | 0 => fun _ => none
  | fuel + 1 => runC 3 7 (b_rings_of (run_rings_of fuel))
theorem ok_rings_of (B : Bs mg) (F : FunT K mg "rings_of" s_rings_of) (c_far : FnT P w K mg base "far" 1 3 run_far) : ∀ fuel, FnT P w K mg base "rings_of" (1 + fuel) 3 (run_rings_of fuel)
  | 0 => fnt_zero (ps := ["cloud", "way", "places"]) F (fun _ _ _ _ _ _ us hl => match us, hl with | [_, _, _], _ => rfl)
  | fuel + 1 => have c_rings_of := ok_rings_of B F c_far fuel
    fnt_mk (lv := 1 + fuel) F sc_rings_of rfl rfl (fun _ _ _ _ _ _ us hl => match us, hl with | [_, _, _], _ => rfl) (fun f cdv A outer s H E hr =>
    (ssx_cons (sx_if (tx_not (tx_tru (bx_var (i := 2) rfl (Or.inl rfl)))) (ssx_one (sx_ret ex_non)) ssx_nil) (ssx_cons (sx_asg (ex_tup (ax_cons (ex_ix (bx_var (i := 2) rfl (Or.inl rfl)) (bx ex_int) (fun _ _ => rfl)) (ax_cons (ex_sl (bx_var (i := 2) rfl (Or.inl rfl)) (ox_yes (bx ex_int)) ox_no) ax_nil))) (gx_tp rfl (gsx_cons (gx_nm (i := 3) sc_rings_of.nd rfl (Or.inr rfl)) (gsx_cons (gx_nm (i := 4) sc_rings_of.nd rfl (Or.inl rfl)) gsx_nil)) (gsl_cons (gsl_cons gsl_nil)))) (ssx_cons (sx_if (tx_not (tx_tru (bx_var (i := 4) rfl (Or.inl rfl)))) (ssx_one (sx_ret (ex_var (i := 3) rfl (Or.inr (Or.inl rfl))))) ssx_nil) (ssx_cons (sx_set (i := 5) sc_rings_of.nd rfl (Or.inl rfl) (ex_f (fx_callB (csortA (room65 hr)) (by rfl) B.b_sorted (by decide +kernel) (abx_cons (bx (ex_f (fx_lc (own := [("place", 9)]) rfl sc_rings_of.nd (icx_seq (bx_var (i := 4) rfl (Or.inl rfl))) (blkOk_by (by kernel_rfl)) (by decide) (fun _ _ _ _ _ => (gx_nm (i := 9) sc_rings_of.nd rfl (by first | exact Or.inl rfl | exact Or.inr rfl))) (fun _ _ _ _ _ => pts_no) (fun _ _ _ _ _ => (ex_fnT c_far hr (by omega) (by rfl) (ax_cons (ex_var (i := 1) rfl (by first | exact Or.inl rfl | exact Or.inr (Or.inr rfl) | exact Or.inr (Or.inl rfl))) (ax_cons (ex_ix (bx_var (i := 0) rfl (by first | exact Or.inl rfl | exact Or.inr (Or.inr rfl) | exact Or.inr (Or.inl rfl))) (bx_var (i := 3) rfl (by first | exact Or.inl rfl | exact Or.inr (Or.inr rfl) | exact Or.inr (Or.inl rfl))) (fun _ _ => rfl)) (ax_cons (ex_ix (bx_var (i := 0) rfl (by first | exact Or.inl rfl | exact Or.inr (Or.inr rfl) | exact Or.inr (Or.inl rfl))) (bx_var (i := 9) rfl (by first | exact Or.inl rfl | exact Or.inr (Or.inr rfl) | exact Or.inr (Or.inl rfl))) (fun _ _ => rfl)) ax_nil)))))))) abx_nil)))) (ssx_cons (sx_set (i := 6) sc_rings_of.nd rfl (Or.inr rfl) (ex_ix (bx_var (i := 5) rfl (Or.inl rfl)) (bx (ex_op osub (bx (ex_op odiv (bx (ex_op oadd (bx (ex_callB clen (by rfl) B.b_len PySem.boot_len (abx_cons (bx_var (i := 4) rfl (Or.inl rfl)) abx_nil))) (bx ex_int))) (bx ex_int))) (bx ex_int))) (fun _ _ => rfl))) (ssx_cons (sx_setLc (i := 7) (own := [("place", 9)]) rfl sc_rings_of.nd rfl rfl (sw_true rfl rfl rfl (by decide +kernel)) (icx_seq (bx_var (i := 4) rfl (Or.inl rfl))) (blkOk_by (by kernel_rfl)) (by decide) (fun _ _ _ _ _ => (gx_nm (i := 9) sc_rings_of.nd rfl (by first | exact Or.inl rfl | exact Or.inr rfl))) (fun _ _ _ _ _ => (pts_if (tx_cmp ole (bx (ex_fnT c_far hr (by omega) (by rfl) (ax_cons (ex_var (i := 1) rfl (by first | exact Or.inl rfl | exact Or.inr (Or.inr rfl) | exact Or.inr (Or.inl rfl))) (ax_cons (ex_ix (bx_var (i := 0) rfl (by first | exact Or.inl rfl | exact Or.inr (Or.inr rfl) | exact Or.inr (Or.inl rfl))) (bx_var (i := 3) rfl (by first | exact Or.inl rfl | exact Or.inr (Or.inr rfl) | exact Or.inr (Or.inl rfl))) (fun _ _ => rfl)) (ax_cons (ex_ix (bx_var (i := 0) rfl (by first | exact Or.inl rfl | exact Or.inr (Or.inr rfl) | exact Or.inr (Or.inl rfl))) (bx_var (i := 9) rfl (by first | exact Or.inl rfl | exact Or.inr (Or.inr rfl) | exact Or.inr (Or.inl rfl))) (fun _ _ => rfl)) ax_nil))))) (bx_var (i := 6) rfl (by first | exact Or.inl rfl | exact Or.inr (Or.inr rfl) | exact Or.inr (Or.inl rfl))) (nomark _)))) (fun _ _ _ _ _ => (ex_var (i := 9) rfl (by first | exact Or.inl rfl | exact Or.inr (Or.inr rfl) | exact Or.inr (Or.inl rfl))))) (ssx_cons (sx_setLc (i := 8) (own := [("place", 9)]) rfl sc_rings_of.nd rfl rfl (sw_true rfl rfl rfl (by decide +kernel)) (icx_seq (bx_var (i := 4) rfl (Or.inl rfl))) (blkOk_by (by kernel_rfl)) (by decide) (fun _ _ _ _ _ => (gx_nm (i := 9) sc_rings_of.nd rfl (by first | exact Or.inl rfl | exact Or.inr rfl))) (fun _ _ _ _ _ => (pts_if (tx_cmp ogt (bx (ex_fnT c_far hr (by omega) (by rfl) (ax_cons (ex_var (i := 1) rfl (by first | exact Or.inl rfl | exact Or.inr (Or.inr rfl) | exact Or.inr (Or.inl rfl))) (ax_cons (ex_ix (bx_var (i := 0) rfl (by first | exact Or.inl rfl | exact Or.inr (Or.inr rfl) | exact Or.inr (Or.inl rfl))) (bx_var (i := 3) rfl (by first | exact Or.inl rfl | exact Or.inr (Or.inr rfl) | exact Or.inr (Or.inl rfl))) (fun _ _ => rfl)) (ax_cons (ex_ix (bx_var (i := 0) rfl (by first | exact Or.inl rfl | exact Or.inr (Or.inr rfl) | exact Or.inr (Or.inl rfl))) (bx_var (i := 9) rfl (by first | exact Or.inl rfl | exact Or.inr (Or.inr rfl) | exact Or.inr (Or.inl rfl))) (fun _ _ => rfl)) ax_nil))))) (bx_var (i := 6) rfl (by first | exact Or.inl rfl | exact Or.inr (Or.inr rfl) | exact Or.inr (Or.inl rfl))) (nomark _)))) (fun _ _ _ _ _ => (ex_var (i := 9) rfl (by first | exact Or.inl rfl | exact Or.inr (Or.inr rfl) | exact Or.inr (Or.inl rfl))))) (ssx_one (sx_ret (ex_tup (ax_cons (ex_var (i := 3) rfl (Or.inr (Or.inl rfl))) (ax_cons (ex_var (i := 6) rfl (Or.inr (Or.inl rfl))) (ax_cons (ex_fnT c_rings_of hr (by omega) (by rfl) (ax_cons (ex_var (i := 0) rfl (Or.inr (Or.inl rfl))) (ax_cons (ex_var (i := 1) rfl (Or.inr (Or.inl rfl))) (ax_cons (ex_var (i := 7) rfl (Or.inl rfl)) ax_nil)))) (ax_cons (ex_fnT c_rings_of hr (by omega) (by rfl) (ax_cons (ex_var (i := 0) rfl (Or.inr (Or.inl rfl))) (ax_cons (ex_var (i := 1) rfl (Or.inr (Or.inl rfl))) (ax_cons (ex_var (i := 8) rfl (Or.inl rfl)) ax_nil)))) ax_nil)))))))))))))))

/-! ring_tree(cloud, way): 0 cloud, 1 way -/
abbrev s_ring_tree : Stmt := topS 14
theorem sc_ring_tree : FnScope ["cloud", "way"] ["cloud", "way"] (defScope s_ring_tree) := ⟨rfl, rfl, rfl, by decide +kernel, rfl, by decide +kernel, by decide +kernel⟩
def b_ring_tree : Cmd :=
    (sRet (eFn (run_rings_of 14) (aCons (eVar 0) (aCons (eVar 1) (aCons (asL (iRg1' (eCall gLen (aCons (bVar 0) aNil)))) aNil)))))
def run_ring_tree : List D → Option D := runC 2 0 b_ring_tree
theorem ok_ring_tree (B : Bs mg) (F : FunT K mg "ring_tree" s_ring_tree) (c_rings_of : FnT P w K mg base "rings_of" 15 3 (run_rings_of 14)) : FnT P w K mg base "ring_tree" 16 2 run_ring_tree :=
  fnt_mk (lv := 15) F sc_ring_tree rfl rfl (fun _ _ _ _ _ _ us hl => match us, hl with | [_, _], _ => rfl) (fun f cdv A outer s H E hr =>
    (ssx_one (sx_ret (ex_fnT c_rings_of hr (by decide) (by rfl) (ax_cons (ex_var (i := 0) rfl (Or.inl rfl)) (ax_cons (ex_var (i := 1) rfl (Or.inl rfl)) (ax_cons (ex_f (fx_lrg1 rfl (by rfl) B.b_list (by rfl) B.b_range (bx (ex_callB clen (by rfl) B.b_len PySem.boot_len (abx_cons (bx_var (i := 0) rfl (Or.inl rfl)) abx_nil))))) ax_nil)))))))

/-! go_in(cloud, tree, vector, way, k, found): 0 cloud, 1 tree, 2 vector, 3 way, 4 k, 5 found, 6 place, 7 most, 8 inner, 9 outer, 10 distance, 11 looks, 12 sides, 13 side, 14 gap, 15 more -/
abbrev s_go_in : Stmt := topS 15
theorem sc_go_in : FnScope ["cloud", "tree", "vector", "way", "k", "found", "place", "most", "inner", "outer", "distance", "looks", "sides", "side", "gap", "more"] ["cloud", "tree", "vector", "way", "k", "found"] (defScope s_go_in) := ⟨rfl, rfl, rfl, by decide +kernel, rfl, by decide +kernel, by decide +kernel⟩
def b_go_in (rec : List D → Option D) : Cmd :=
    (sSeq (sIf (asB (eOp gIs (bVar 1) (eC .non)))
    (sRet (eTup (aCons (eVar 5) (aCons (eC (.int 0)) aNil))))
    sNop)
    (sSeq (sIf (asT (eIsi "int" (bVar 1)))
    (sRet (eTup (aCons (eFn run_with_pairs (aCons (eVar 5) (aCons (eLst (aCons (eTup (aCons (eFn run_far (aCons (eVar 3) (aCons (eVar 2) (aCons (eOp gIx (bVar 0) (bVar 1)) aNil)))) (aCons (eVar 1) aNil))) aNil)) (aCons (eVar 4) aNil)))) (aCons (eC (.int 1)) aNil))))
    sNop)
    (sSeq (sAsg (gTp (gsCons (gNm 6) (gsCons (gNm 7) (gsCons (gNm 8) (gsCons (gNm 9) gsNil))))) (eVar 1))
    (sSeq (sSet 10 (eFn run_far (aCons (eVar 3) (aCons (eVar 2) (aCons (eOp gIx (bVar 0) (bVar 6)) aNil)))))
    (sSeq (sParN 5 11 (vN (eFn run_with_pairs (aCons (eVar 5) (aCons (eLst (aCons (eTup (aCons (eVar 10) (aCons (eVar 6) aNil))) aNil)) (aCons (eVar 4) aNil))))) (vN (eC (.int 1))))
    (sSeq (sSet 12 (eLst (aCons (eTup (aCons (eVar 8) (aCons (eOp gSub (bVar 10) (bVar 7)) aNil))) (aCons (eTup (aCons (eVar 9) (aCons (eOp gSub (eOp gAdd (bVar 7) (eC (.int 1))) (bVar 10)) aNil))) aNil))))
    (sSeq (sIf (asB (eOp gGt (bVar 10) (bVar 7)))
    (sSet 12 (eRev (bVar 12)))
    sNop)
    (sSeq (sFor (iSeq (eVar 12)) (gTp (gsCons (gNm 13) (gsCons (gNm 14) gsNil)))
    (sIf (tOrF (asB (eOp gLt (eCall gLen (aCons (bVar 5) aNil)) (bVar 4))) (tAndF (asB (eOp gGt (bVar 4) (eC (.int 0)))) (asB (eOp gLe (bVar 14) (eOp gIx (eOp gIx (bVar 5) (eUn gNeg (eC (.int 1)))) (eC (.int 0)))))))
    (sSeq (sAsg (gTp (gsCons (gNm 5) (gsCons (gNm 15) gsNil))) (eFn rec (aCons (eVar 0) (aCons (eVar 13) (aCons (eVar 2) (aCons (eVar 3) (aCons (eVar 4) (aCons (eVar 5) aNil))))))))
    (sAug 11 (gI (fun _ _ => true) fun i j => .int (i + j)) (bVar 15)))
    sNop))
    (sRet (eTup (aCons (eVar 5) (aCons (eVar 11) aNil))))))))))))
def run_go_in : Nat → List D → Option D
  | 0 => fun _ => none
  | fuel + 1 => runC 6 10 (b_go_in (run_go_in fuel))
theorem ok_go_in (B : Bs mg) (F : FunT K mg "go_in" s_go_in) (c_with_pairs : FnT P w K mg base "with_pairs" 1 3 run_with_pairs) (c_far : FnT P w K mg base "far" 1 3 run_far) : ∀ fuel, FnT P w K mg base "go_in" (1 + fuel) 6 (run_go_in fuel)
  | 0 => fnt_zero (ps := ["cloud", "tree", "vector", "way", "k", "found"]) F (fun _ _ _ _ _ _ us hl => match us, hl with | [_, _, _, _, _, _], _ => rfl)
  | fuel + 1 => have c_go_in := ok_go_in B F c_with_pairs c_far fuel
    fnt_mk (lv := 1 + fuel) F sc_go_in rfl rfl (fun _ _ _ _ _ _ us hl => match us, hl with | [_, _, _, _, _, _], _ => rfl) (fun f cdv A outer s H E hr =>
    (ssx_cons (sx_if (tx_cmp ois (bx_var (i := 1) rfl (Or.inl rfl)) (bx ex_non) (nomark _)) (ssx_one (sx_ret (ex_tup (ax_cons (ex_var (i := 5) rfl (Or.inl rfl)) (ax_cons ex_int ax_nil))))) ssx_nil) (ssx_cons (sx_if (tx_tru (bx (ex_isi kit_int (by rfl) B.b_isinstance (bx_var (i := 1) rfl (Or.inl rfl)) (by rfl) B.b_int (by decide +kernel)))) (ssx_one (sx_ret (ex_tup (ax_cons (ex_fnT c_with_pairs hr (by omega) (by rfl) (ax_cons (ex_var (i := 5) rfl (Or.inl rfl)) (ax_cons (ex_lst (ax_cons (ex_tup (ax_cons (ex_fnT c_far hr (by omega) (by rfl) (ax_cons (ex_var (i := 3) rfl (Or.inl rfl)) (ax_cons (ex_var (i := 2) rfl (Or.inl rfl)) (ax_cons (ex_ix (bx_var (i := 0) rfl (Or.inl rfl)) (bx_var (i := 1) rfl (Or.inl rfl)) (fun _ _ => rfl)) ax_nil)))) (ax_cons (ex_var (i := 1) rfl (Or.inl rfl)) ax_nil))) ax_nil)) (ax_cons (ex_var (i := 4) rfl (Or.inl rfl)) ax_nil)))) (ax_cons ex_int ax_nil))))) ssx_nil) (ssx_cons (sx_asg (ex_var (i := 1) rfl (Or.inl rfl)) (gx_tp rfl (gsx_cons (gx_nm (i := 6) sc_go_in.nd rfl (Or.inl rfl)) (gsx_cons (gx_nm (i := 7) sc_go_in.nd rfl (Or.inl rfl)) (gsx_cons (gx_nm (i := 8) sc_go_in.nd rfl (Or.inl rfl)) (gsx_cons (gx_nm (i := 9) sc_go_in.nd rfl (Or.inl rfl)) gsx_nil)))) (gsl_cons (gsl_cons (gsl_cons (gsl_cons gsl_nil)))))) (ssx_cons (sx_set (i := 10) sc_go_in.nd rfl (Or.inl rfl) (ex_fnT c_far hr (by omega) (by rfl) (ax_cons (ex_var (i := 3) rfl (Or.inl rfl)) (ax_cons (ex_var (i := 2) rfl (Or.inl rfl)) (ax_cons (ex_ix (bx_var (i := 0) rfl (Or.inl rfl)) (bx_var (i := 6) rfl (Or.inl rfl)) (fun _ _ => rfl)) ax_nil))))) (ssx_cons (sx_parN (i := 5) (j := 11) rfl sc_go_in.nd rfl rfl (by decide) rfl rfl (nx_v (ex_fnT c_with_pairs hr (by omega) (by rfl) (ax_cons (ex_var (i := 5) rfl (Or.inl rfl)) (ax_cons (ex_lst (ax_cons (ex_tup (ax_cons (ex_var (i := 10) rfl (Or.inl rfl)) (ax_cons (ex_var (i := 6) rfl (Or.inl rfl)) ax_nil))) ax_nil)) (ax_cons (ex_var (i := 4) rfl (Or.inl rfl)) ax_nil))))) (nx_v ex_int) (by rfl)) (ssx_cons (sx_set (i := 12) sc_go_in.nd rfl (Or.inl rfl) (ex_lst (ax_cons (ex_tup (ax_cons (ex_var (i := 8) rfl (Or.inl rfl)) (ax_cons (ex_op osub (bx_var (i := 10) rfl (Or.inl rfl)) (bx_var (i := 7) rfl (Or.inl rfl))) ax_nil))) (ax_cons (ex_tup (ax_cons (ex_var (i := 9) rfl (Or.inl rfl)) (ax_cons (ex_op osub (bx (ex_op oadd (bx_var (i := 7) rfl (Or.inl rfl)) (bx ex_int))) (bx_var (i := 10) rfl (Or.inl rfl))) ax_nil))) ax_nil)))) (ssx_cons (sx_if (tx_cmp ogt (bx_var (i := 10) rfl (Or.inl rfl)) (bx_var (i := 7) rfl (Or.inl rfl)) (nomark _)) (ssx_one (sx_set (i := 12) sc_go_in.nd rfl (Or.inl rfl) (ex_revL (bx_var (i := 12) rfl (Or.inl rfl))))) ssx_nil) (ssx_cons (sx_for PassesOwn.never rfl (ilx_seq (ex_var (i := 12) rfl (Or.inl rfl))) (gx_tp rfl (gsx_cons (gx_nm (i := 13) sc_go_in.nd rfl (Or.inl rfl)) (gsx_cons (gx_nm (i := 14) sc_go_in.nd rfl (Or.inl rfl)) gsx_nil)) (gsl_cons (gsl_cons gsl_nil))) (ssx_one (sx_if (PW.pt (wx_or (tx_cmp olt (bx (ex_callB clen (by rfl) B.b_len PySem.boot_len (abx_cons (bx_var (i := 5) rfl (Or.inl rfl)) abx_nil))) (bx_var (i := 4) rfl (Or.inl rfl)) (nomark _)) (wx_or1 (PW.pt (wx_and (tx_cmp ogt (bx_var (i := 4) rfl (Or.inl rfl)) (bx ex_int) (nomark _)) (wx_and1 (tx_cmp ole (bx_var (i := 14) rfl (Or.inl rfl)) (bx (ex_ix (bx (ex_ix (bx_var (i := 5) rfl (Or.inl rfl)) (bx (ex_neg (bx ex_int))) (fun _ _ => rfl))) (bx ex_int) (fun _ _ => rfl))) (nomark _)))))))) (ssx_cons (sx_asg (ex_fnT c_go_in hr (by omega) (by rfl) (ax_cons (ex_var (i := 0) rfl (Or.inl rfl)) (ax_cons (ex_var (i := 13) rfl (Or.inl rfl)) (ax_cons (ex_var (i := 2) rfl (Or.inl rfl)) (ax_cons (ex_var (i := 3) rfl (Or.inl rfl)) (ax_cons (ex_var (i := 4) rfl (Or.inl rfl)) (ax_cons (ex_var (i := 5) rfl (Or.inl rfl)) ax_nil))))))) (gx_tp rfl (gsx_cons (gx_nm (i := 5) sc_go_in.nd rfl (Or.inl rfl)) (gsx_cons (gx_nm (i := 15) sc_go_in.nd rfl (Or.inl rfl)) gsx_nil)) (gsl_cons (gsl_cons gsl_nil)))) (ssx_one (sx_aug (i := 11) sc_go_in.nd rfl (Or.inl rfl) (bx_var (i := 15) rfl (Or.inl rfl)) iadd))) ssx_nil))) (ssx_one (sx_ret (ex_tup (ax_cons (ex_var (i := 5) rfl (Or.inl rfl)) (ax_cons (ex_var (i := 11) rfl (Or.inl rfl)) ax_nil))))))))))))))

/-! ring_nearest(cloud, vector, way, k): 0 cloud, 1 vector, 2 way, 3 k, 4 found, 5 looks -/
abbrev s_ring_nearest : Stmt := topS 16
theorem sc_ring_nearest : FnScope ["cloud", "vector", "way", "k", "found", "looks"] ["cloud", "vector", "way", "k"] (defScope s_ring_nearest) := ⟨rfl, rfl, rfl, by decide +kernel, rfl, by decide +kernel, by decide +kernel⟩
def b_ring_nearest : Cmd :=
    (sSeq (sAsg (gTp (gsCons (gNm 4) (gsCons (gNm 5) gsNil))) (eFn (run_go_in 14) (aCons (eVar 0) (aCons (eFn run_ring_tree (aCons (eVar 0) (aCons (eVar 2) aNil))) (aCons (eVar 1) (aCons (eVar 2) (aCons (eVar 3) (aCons (eLst aNil) aNil))))))))
    (sRet (eTup (aCons (eCall gTuple (aCons (bVar 4) aNil)) (aCons (eVar 5) aNil)))))
def run_ring_nearest : List D → Option D := runC 4 2 b_ring_nearest
theorem ok_ring_nearest (B : Bs mg) (F : FunT K mg "ring_nearest" s_ring_nearest) (c_go_in : FnT P w K mg base "go_in" 15 6 (run_go_in 14)) (c_ring_tree : FnT P w K mg base "ring_tree" 16 2 run_ring_tree) : FnT P w K mg base "ring_nearest" 17 4 run_ring_nearest :=
  fnt_mk (lv := 16) F sc_ring_nearest rfl rfl (fun _ _ _ _ _ _ us hl => match us, hl with | [_, _, _, _], _ => rfl) (fun f cdv A outer s H E hr =>
    (ssx_cons (sx_asg (ex_fnT c_go_in hr (by decide) (by rfl) (ax_cons (ex_var (i := 0) rfl (Or.inl rfl)) (ax_cons (ex_fnT c_ring_tree hr (by decide) (by rfl) (ax_cons (ex_var (i := 0) rfl (Or.inl rfl)) (ax_cons (ex_var (i := 2) rfl (Or.inl rfl)) ax_nil))) (ax_cons (ex_var (i := 1) rfl (Or.inl rfl)) (ax_cons (ex_var (i := 2) rfl (Or.inl rfl)) (ax_cons (ex_var (i := 3) rfl (Or.inl rfl)) (ax_cons (ex_lst ax_nil) ax_nil))))))) (gx_tp rfl (gsx_cons (gx_nm (i := 4) sc_ring_nearest.nd rfl (Or.inl rfl)) (gsx_cons (gx_nm (i := 5) sc_ring_nearest.nd rfl (Or.inl rfl)) gsx_nil)) (gsl_cons (gsl_cons gsl_nil)))) (ssx_one (sx_ret (ex_tup (ax_cons (ex_callTy ctuple (by rfl) B.b_tuple (by decide +kernel) (abx_cons (bx_var (i := 4) rfl (Or.inl rfl)) abx_nil)) (ax_cons (ex_var (i := 5) rfl (Or.inl rfl)) ax_nil)))))))

/-! told_pairs(shelf, vector, way): 0 shelf, 1 vector, 2 way, 3 key, 4 kept, 5 tag -/
abbrev s_told_pairs : Stmt := topS 18
theorem sc_told_pairs : FnScope ["shelf", "vector", "way", "key", "kept", "tag"] ["shelf", "vector", "way"] (defScope s_told_pairs) := ⟨rfl, rfl, rfl, by decide +kernel, rfl, by decide +kernel, by decide +kernel⟩
def b_told_pairs : Cmd :=
    (sRet (asL (fCall gSortA (aCons (asL (fLc [3, 4, 5] (iSeq (bVar 0)) (gTp (gsCons (gNm 3) (gsCons (gNm 4) (gsCons (gNm 5) gsNil)))) tYesF (eTup (aCons (eFn run_far (aCons (eVar 2) (aCons (eVar 1) (aCons (eVar 4) aNil)))) (aCons (eVar 3) aNil))))) aNil))))
def run_told_pairs : List D → Option D := runC 3 3 b_told_pairs
theorem ok_told_pairs (B : Bs mg) (F : FunT K mg "told_pairs" s_told_pairs) (c_far : FnT P w K mg base "far" 1 3 run_far) : FnT P w K mg base "told_pairs" 2 3 run_told_pairs :=
  fnt_mk (lv := 1) F sc_told_pairs rfl rfl (fun _ _ _ _ _ _ us hl => match us, hl with | [_, _, _], _ => rfl) (fun f cdv A outer s H E hr =>
    (ssx_one (sx_ret (ex_f (fx_callB (csortA (room65 hr)) (by rfl) B.b_sorted (by decide +kernel) (abx_cons (bx (ex_f (fx_lc (own := [("key", 3), ("kept", 4), ("tag", 5)]) rfl sc_told_pairs.nd (icx_seq (bx_var (i := 0) rfl (Or.inl rfl))) (blkOk_by (by kernel_rfl)) (by decide) (fun _ _ _ _ _ => (gx_tp rfl (gsx_cons (gx_nm (i := 3) sc_told_pairs.nd rfl (by first | exact Or.inl rfl | exact Or.inr rfl)) (gsx_cons (gx_nm (i := 4) sc_told_pairs.nd rfl (by first | exact Or.inl rfl | exact Or.inr rfl)) (gsx_cons (gx_nm (i := 5) sc_told_pairs.nd rfl (by first | exact Or.inl rfl | exact Or.inr rfl)) gsx_nil))) (gsl_cons (gsl_cons (gsl_cons gsl_nil))))) (fun _ _ _ _ _ => pts_no) (fun _ _ _ _ _ => (ex_tup (ax_cons (ex_fnT c_far hr (by decide) (by rfl) (ax_cons (ex_var (i := 2) rfl (by first | exact Or.inl rfl | exact Or.inr (Or.inr rfl) | exact Or.inr (Or.inl rfl))) (ax_cons (ex_var (i := 1) rfl (by first | exact Or.inl rfl | exact Or.inr (Or.inr rfl) | exact Or.inr (Or.inl rfl))) (ax_cons (ex_var (i := 4) rfl (by first | exact Or.inl rfl | exact Or.inr (Or.inr rfl) | exact Or.inr (Or.inl rfl))) ax_nil)))) (ax_cons (ex_var (i := 3) rfl (by first | exact Or.inl rfl | exact Or.inr (Or.inr rfl) | exact Or.inr (Or.inl rfl))) ax_nil))))))) abx_nil))))))

/-! nearest(shelf, vector, way, k): 0 shelf, 1 vector, 2 way, 3 k -/
abbrev s_nearest : Stmt := topS 19
theorem sc_nearest : FnScope ["shelf", "vector", "way", "k"] ["shelf", "vector", "way", "k"] (defScope s_nearest) := ⟨rfl, rfl, rfl, by decide +kernel, rfl, by decide +kernel, by decide +kernel⟩
def b_nearest : Cmd :=
    (sRet (eCall gTuple (aCons (eSl (eFn run_told_pairs (aCons (eVar 0) (aCons (eVar 1) (aCons (eVar 2) aNil)))) oNo (oYes (bVar 3))) aNil)))
def run_nearest : List D → Option D := runC 4 0 b_nearest
theorem ok_nearest (B : Bs mg) (F : FunT K mg "nearest" s_nearest) (c_told_pairs : FnT P w K mg base "told_pairs" 2 3 run_told_pairs) : FnT P w K mg base "nearest" 3 4 run_nearest :=
  fnt_mk (lv := 2) F sc_nearest rfl rfl (fun _ _ _ _ _ _ us hl => match us, hl with | [_, _, _, _], _ => rfl) (fun f cdv A outer s H E hr =>
    (ssx_one (sx_ret (ex_callTy ctuple (by rfl) B.b_tuple (by decide +kernel) (abx_cons (bx (ex_sl (bx (ex_fnT c_told_pairs hr (by decide) (by rfl) (ax_cons (ex_var (i := 0) rfl (Or.inl rfl)) (ax_cons (ex_var (i := 1) rfl (Or.inl rfl)) (ax_cons (ex_var (i := 2) rfl (Or.inl rfl)) ax_nil))))) ox_no (ox_yes (bx_var (i := 3) rfl (Or.inl rfl))))) abx_nil)))))

/-! _law_mixed(script, k): 0 script, 1 k, 2 cell, 3 first, 4 second, 5 third -/
abbrev s_l_mixed : Stmt := topS 21
theorem sc_l_mixed : FnScope ["script", "k", "cell", "first", "second", "third"] ["script", "k"] (defScope s_l_mixed) := ⟨rfl, rfl, rfl, by decide +kernel, rfl, by decide +kernel, by decide +kernel⟩
def b_l_mixed : Cmd :=
    (sSeq (sSet 2 (eC (.int 0)))
    (sSeq (sIf (asB (eOp gGt (eCall gLen (aCons (bVar 0) aNil)) (eC (.int 0))))
    (sSet 2 (eOp gIx (bVar 0) (eOp gMod (bVar 1) (eCall gLen (aCons (bVar 0) aNil)))))
    sNop)
    (sSeq (sSet 3 (eOp gMod (eCall gInt (aCons (eOp gAdd (eOp gAdd (eOp gMul (bVar 2) (eC (.int 48271))) (eOp gMul (bVar 1) (eC (.int 69621)))) (eC (.int 8191))) aNil)) (eC (.int 2147483647))))
    (sSeq (sSet 4 (eOp gMod (eCall gInt (aCons (eOp gAdd (eOp gAdd (eOp gMul (bVar 3) (bVar 3)) (eOp gDiv (bVar 3) (eC (.int 7)))) (eOp gMul (bVar 1) (eC (.int 16807)))) aNil)) (eC (.int 2147483629))))
    (sSeq (sSet 5 (eOp gMod (eCall gInt (aCons (eOp gAdd (eOp gAdd (eOp gMul (bVar 4) (bVar 4)) (eOp gDiv (bVar 4) (eC (.int 11)))) (eC (.int 40692))) aNil)) (eC (.int 2147483563))))
    (sRet (eOp gMod (eOp gDiv (bVar 5) (eC (.int 5))) (eC (.int 1000003)))))))))
def run_l_mixed : List D → Option D := runC 2 4 b_l_mixed
theorem ok_l_mixed (B : Bs mg) (F : FunT K mg "_law_mixed" s_l_mixed) : FnT P w K mg base "_law_mixed" 1 2 run_l_mixed :=
  fnt_mk (lv := 0) F sc_l_mixed rfl rfl (fun _ _ _ _ _ _ us hl => match us, hl with | [_, _], _ => rfl) (fun f cdv A outer s H E hr =>
    (ssx_cons (sx_set (i := 2) sc_l_mixed.nd rfl (Or.inl rfl) ex_int) (ssx_cons (sx_if (tx_cmp ogt (bx (ex_callB clen (by rfl) B.b_len PySem.boot_len (abx_cons (bx_var (i := 0) rfl (Or.inl rfl)) abx_nil))) (bx ex_int) (nomark _)) (ssx_one (sx_set (i := 2) sc_l_mixed.nd rfl (Or.inl rfl) (ex_ix (bx_var (i := 0) rfl (Or.inl rfl)) (bx (ex_op omod (bx_var (i := 1) rfl (Or.inl rfl)) (bx (ex_callB clen (by rfl) B.b_len PySem.boot_len (abx_cons (bx_var (i := 0) rfl (Or.inl rfl)) abx_nil))))) (fun _ _ => rfl)))) ssx_nil) (ssx_cons (sx_set (i := 3) sc_l_mixed.nd rfl (Or.inl rfl) (ex_op omod (bx (ex_callTy cint (by rfl) B.b_int (by decide +kernel) (abx_cons (bx (ex_op oadd (bx (ex_op oadd (bx (ex_op omul (bx_var (i := 2) rfl (Or.inl rfl)) (bx ex_int))) (bx (ex_op omul (bx_var (i := 1) rfl (Or.inl rfl)) (bx ex_int))))) (bx ex_int))) abx_nil))) (bx ex_int))) (ssx_cons (sx_set (i := 4) sc_l_mixed.nd rfl (Or.inl rfl) (ex_op omod (bx (ex_callTy cint (by rfl) B.b_int (by decide +kernel) (abx_cons (bx (ex_op oadd (bx (ex_op oadd (bx (ex_op omul (bx_var (i := 3) rfl (Or.inl rfl)) (bx_var (i := 3) rfl (Or.inl rfl)))) (bx (ex_op odiv (bx_var (i := 3) rfl (Or.inl rfl)) (bx ex_int))))) (bx (ex_op omul (bx_var (i := 1) rfl (Or.inl rfl)) (bx ex_int))))) abx_nil))) (bx ex_int))) (ssx_cons (sx_set (i := 5) sc_l_mixed.nd rfl (Or.inl rfl) (ex_op omod (bx (ex_callTy cint (by rfl) B.b_int (by decide +kernel) (abx_cons (bx (ex_op oadd (bx (ex_op oadd (bx (ex_op omul (bx_var (i := 4) rfl (Or.inl rfl)) (bx_var (i := 4) rfl (Or.inl rfl)))) (bx (ex_op odiv (bx_var (i := 4) rfl (Or.inl rfl)) (bx ex_int))))) (bx ex_int))) abx_nil))) (bx ex_int))) (ssx_one (sx_ret (ex_op omod (bx (ex_op odiv (bx_var (i := 5) rfl (Or.inl rfl)) (bx ex_int))) (bx ex_int))))))))))

/-! _law_row(script, many): 0 script, 1 many, 2 big, 3 row, 4 k -/
abbrev s_l_row : Stmt := topS 22
theorem sc_l_row : FnScope ["script", "many", "big", "row", "k"] ["script", "many"] (defScope s_l_row) := ⟨rfl, rfl, rfl, by decide +kernel, rfl, by decide +kernel, by decide +kernel⟩
def b_l_row : Cmd :=
    (sSeq (sSet 2 (eC (.int 0)))
    (sSeq (sIf (tAndF (asB (eOp gGt (eCall gLen (aCons (bVar 0) aNil)) (eC (.int 0)))) (asB (eOp gGe (eOp gIx (bVar 0) (eC (.int 0))) (eOp gPow (eC (.int 10)) (eC (.int 18))))))
    (sSet 2 (eOp gIx (bVar 0) (eC (.int 0))))
    sNop)
    (sSeq (sSetO 3 (fun env => (aNil env).bind fun ds => if lim ds.length then some ds else none))
    (sSeq (sFor (iRg1 (aCons (bVar 1) aNil)) (gNm 4)
    (sIf (asB (eOp gGt (bVar 2) (eC (.int 0))))
    (sSeq (sApp 3 (eOp gMod (eCall gInt (aCons (bVar 2) aNil)) (eC (.int 1000))))
    (sSet 2 (eOp gDiv (bVar 2) (eC (.int 1000)))))
    (sApp 3 (eFn run_l_mixed (aCons (eVar 0) (aCons (eVar 4) aNil))))))
    (sFrz [3] (sRet (eVar 3)))))))
def run_l_row : List D → Option D := runC 2 3 b_l_row
theorem ok_l_row (B : Bs mg) (F : FunT K mg "_law_row" s_l_row) (c_l_mixed : FnT P w K mg base "_law_mixed" 1 2 run_l_mixed) : FnT P w K mg base "_law_row" 2 2 run_l_row :=
  fnt_mk (lv := 1) F sc_l_row rfl rfl (fun _ _ _ _ _ _ us hl => match us, hl with | [_, _], _ => rfl) (fun f cdv A outer s H E hr =>
    (ssx_cons (sx_set (i := 2) sc_l_row.nd rfl (Or.inl rfl) ex_int) (ssx_cons (sx_if (PW.pt (wx_and (tx_cmp ogt (bx (ex_callB clen (by rfl) B.b_len PySem.boot_len (abx_cons (bx_var (i := 0) rfl (Or.inl rfl)) abx_nil))) (bx ex_int) (nomark _)) (wx_and1 (tx_cmp oge (bx (ex_ix (bx_var (i := 0) rfl (Or.inl rfl)) (bx ex_int) (fun _ _ => rfl))) (bx (ex_op opow (bx ex_int) (bx ex_int))) (nomark _))))) (ssx_one (sx_set (i := 2) sc_l_row.nd rfl (Or.inl rfl) (ex_ix (bx_var (i := 0) rfl (Or.inl rfl)) (bx ex_int) (fun _ _ => rfl)))) ssx_nil) (ssx_cons (sx_setO (i := 3) sc_l_row.nd rfl (Or.inl rfl) (fx_lst ax_nil)) (ssx_cons (sx_for PassesOwn.never rfl (ilx_rg1 (by rfl) B.b_range (abx_cons (bx_var (i := 1) rfl (Or.inl rfl)) abx_nil)) (gx_nm (i := 4) sc_l_row.nd rfl (Or.inl rfl)) (ssx_one (sx_if (tx_cmp ogt (bx_var (i := 2) rfl (Or.inl rfl)) (bx ex_int) (nomark _)) (ssx_cons (sx_app (i := 3) rfl (Or.inl rfl) (ex_op omod (bx (ex_callTy cint (by rfl) B.b_int (by decide +kernel) (abx_cons (bx_var (i := 2) rfl (Or.inl rfl)) abx_nil))) (bx ex_int))) (ssx_one (sx_set (i := 2) sc_l_row.nd rfl (Or.inl rfl) (ex_op odiv (bx_var (i := 2) rfl (Or.inl rfl)) (bx ex_int))))) (ssx_one (sx_app (i := 3) rfl (Or.inl rfl) (ex_fnT c_l_mixed hr (by decide) (by rfl) (ax_cons (ex_var (i := 0) rfl (Or.inl rfl)) (ax_cons (ex_var (i := 4) rfl (Or.inl rfl)) ax_nil)))))))) (ssx_one (sx_frz (is := [3]) (sx_ret (ex_var (i := 3) rfl (Or.inl rfl))))))))))

/-! _law_is_int(value): 0 value -/
abbrev s_l_is_int : Stmt := topS 23
theorem sc_l_is_int : FnScope ["value"] ["value"] (defScope s_l_is_int) := ⟨rfl, rfl, rfl, by decide +kernel, rfl, by decide +kernel, by decide +kernel⟩
def b_l_is_int : Cmd :=
    (sRet (eAnd (eIsi "int" (bVar 0)) (eNot (eIsi "bool" (bVar 0)))))
def run_l_is_int : List D → Option D := runC 1 0 b_l_is_int
theorem ok_l_is_int (B : Bs mg) (F : FunT K mg "_law_is_int" s_l_is_int) : FnT P w K mg base "_law_is_int" 1 1 run_l_is_int :=
  fnt_mk (lv := 0) F sc_l_is_int rfl rfl (fun _ _ _ _ _ _ us hl => match us, hl with | [_], _ => rfl) (fun f cdv A outer s H E hr =>
    (ssx_one (sx_ret (ex_and (ex_isi kit_int (by rfl) B.b_isinstance (bx_var (i := 0) rfl (Or.inl rfl)) (by rfl) B.b_int (by decide +kernel)) (ex_one (ex_not (ex_isi kit_bool (by rfl) B.b_isinstance (bx_var (i := 0) rfl (Or.inl rfl)) (by rfl) B.b_bool (by decide +kernel))))))))

/-! _law_like(value, due): 0 value, 1 due, 2 k -/
abbrev s_l_like : Stmt := topS 24
theorem sc_l_like : FnScope ["value", "due", "k"] ["value", "due"] (defScope s_l_like) := ⟨rfl, rfl, rfl, by decide +kernel, rfl, by decide +kernel, by decide +kernel⟩
def b_l_like (rec : List D → Option D) : Cmd :=
    (sSeq (sIf (asB (eOp gIs (bVar 1) (eC .non)))
    (sRet (eOp gIs (bVar 0) (eC .non)))
    sNop)
    (sSeq (sIf (asT (eIsi "bool" (bVar 1)))
    (sRet (eAnd (eIsi "bool" (bVar 0)) (eOp gEq (bVar 0) (bVar 1))))
    sNop)
    (sSeq (sIf (asT (eIsi "tuple" (bVar 1)))
    (sSeq (sIf (tOrF (tNotF (asT (eIsi "tuple" (bVar 0)))) (asB (eOp gNe (eCall gLen (aCons (bVar 0) aNil)) (eCall gLen (aCons (bVar 1) aNil)))))
    (sRet (eC (.bl false)))
    sNop)
    (sRet (eCall gAll (aCons (asL (fLc [2] (iRg1 (aCons (eCall gLen (aCons (bVar 1) aNil)) aNil)) (gNm 2) tYesF (eFn rec (aCons (eOp gIx (bVar 0) (bVar 2)) (aCons (eOp gIx (bVar 1) (bVar 2)) aNil))))) aNil))))
    sNop)
    (sSeq (sIf (asT (eIsi "str" (bVar 1)))
    (sRet (eAnd (eIsi "str" (bVar 0)) (eOp gEq (bVar 0) (bVar 1))))
    sNop)
    (sRet (eAnd (eFn run_l_is_int (aCons (eVar 0) aNil)) (eOp gEq (bVar 0) (bVar 1))))))))
def run_l_like : Nat → List D → Option D
  | 0 => fun _ => none
  | fuel + 1 => runC 2 1 (b_l_like (run_l_like fuel))
theorem ok_l_like (B : Bs mg) (F : FunT K mg "_law_like" s_l_like) (c_l_is_int : FnT P w K mg base "_law_is_int" 1 1 run_l_is_int) : ∀ fuel, FnT P w K mg base "_law_like" (1 + fuel) 2 (run_l_like fuel)
  | 0 => fnt_zero (ps := ["value", "due"]) F (fun _ _ _ _ _ _ us hl => match us, hl with | [_, _], _ => rfl)
  | fuel + 1 => have c_l_like := ok_l_like B F c_l_is_int fuel
    fnt_mk (lv := 1 + fuel) F sc_l_like rfl rfl (fun _ _ _ _ _ _ us hl => match us, hl with | [_, _], _ => rfl) (fun f cdv A outer s H E hr =>
    (ssx_cons (sx_if (tx_cmp ois (bx_var (i := 1) rfl (Or.inr (Or.inl rfl))) (bx ex_non) (nomark _)) (ssx_one (sx_ret (ex_cmp ois (bx_var (i := 0) rfl (Or.inr (Or.inl rfl))) (bx ex_non) (nomark _)))) ssx_nil) (ssx_cons (sx_if (tx_tru (bx (ex_isi kit_bool (by rfl) B.b_isinstance (bx_var (i := 1) rfl (Or.inr (Or.inl rfl))) (by rfl) B.b_bool (by decide +kernel)))) (ssx_one (sx_ret (ex_and (ex_isi kit_bool (by rfl) B.b_isinstance (bx_var (i := 0) rfl (Or.inr (Or.inl rfl))) (by rfl) B.b_bool (by decide +kernel)) (ex_one (ex_cmp (oeq hr.units) (bx_var (i := 0) rfl (Or.inr (Or.inl rfl))) (bx_var (i := 1) rfl (Or.inr (Or.inl rfl))) (nomark _)))))) ssx_nil) (ssx_cons (sx_if (tx_tru (bx (ex_isi kit_tuple (by rfl) B.b_isinstance (bx_var (i := 1) rfl (Or.inr (Or.inl rfl))) (by rfl) B.b_tuple (by decide +kernel)))) (ssx_cons (sx_if (PW.pt (wx_or (tx_not (tx_tru (bx (ex_isi kit_tuple (by rfl) B.b_isinstance (bx_var (i := 0) rfl (Or.inr (Or.inl rfl))) (by rfl) B.b_tuple (by decide +kernel))))) (wx_or1 (tx_cmp (one hr.units) (bx (ex_callB clen (by rfl) B.b_len PySem.boot_len (abx_cons (bx_var (i := 0) rfl (Or.inr (Or.inl rfl))) abx_nil))) (bx (ex_callB clen (by rfl) B.b_len PySem.boot_len (abx_cons (bx_var (i := 1) rfl (Or.inr (Or.inl rfl))) abx_nil))) (nomark _))))) (ssx_one (sx_ret ex_bl)) ssx_nil) (ssx_one (sx_ret (ex_callB (call rfl) (by rfl) B.b_all (by decide +kernel) (abx_cons (bx (ex_f (fx_lc (own := [("k", 2)]) rfl sc_l_like.nd (ilx_c (ilx_rg1 (by rfl) B.b_range (abx_cons (bx (ex_callB clen (by rfl) B.b_len PySem.boot_len (abx_cons (bx_var (i := 1) rfl (Or.inr (Or.inl rfl))) abx_nil))) abx_nil))) (blkOk_by (by kernel_rfl)) (by decide) (fun _ _ _ _ _ => (gx_nm (i := 2) sc_l_like.nd rfl (by first | exact Or.inl rfl | exact Or.inr rfl))) (fun _ _ _ _ _ => pts_no) (fun _ _ _ _ _ => (ex_fnT c_l_like hr (by omega) (by rfl) (ax_cons (ex_ix (bx_var (i := 0) rfl (by first | exact Or.inl rfl | exact Or.inr (Or.inr rfl) | exact Or.inr (Or.inl rfl))) (bx_var (i := 2) rfl (by first | exact Or.inl rfl | exact Or.inr (Or.inr rfl) | exact Or.inr (Or.inl rfl))) (fun _ _ => rfl)) (ax_cons (ex_ix (bx_var (i := 1) rfl (by first | exact Or.inl rfl | exact Or.inr (Or.inr rfl) | exact Or.inr (Or.inl rfl))) (bx_var (i := 2) rfl (by first | exact Or.inl rfl | exact Or.inr (Or.inr rfl) | exact Or.inr (Or.inl rfl))) (fun _ _ => rfl)) ax_nil))))))) abx_nil))))) ssx_nil) (ssx_cons (sx_if (tx_tru (bx (ex_isi kit_str (by rfl) B.b_isinstance (bx_var (i := 1) rfl (Or.inr (Or.inl rfl))) (by rfl) B.b_str (by decide +kernel)))) (ssx_one (sx_ret (ex_and (ex_isi kit_str (by rfl) B.b_isinstance (bx_var (i := 0) rfl (Or.inr (Or.inl rfl))) (by rfl) B.b_str (by decide +kernel)) (ex_one (ex_cmp (oeq hr.units) (bx_var (i := 0) rfl (Or.inr (Or.inl rfl))) (bx_var (i := 1) rfl (Or.inr (Or.inl rfl))) (nomark _)))))) ssx_nil) (ssx_one (sx_ret (ex_and (ex_fnT c_l_is_int hr (by omega) (by rfl) (ax_cons (ex_var (i := 0) rfl (Or.inr (Or.inl rfl))) ax_nil)) (ex_one (ex_cmp (oeq hr.units) (bx_var (i := 0) rfl (Or.inr (Or.inl rfl))) (bx_var (i := 1) rfl (Or.inr (Or.inl rfl))) (nomark _)))))))))))

/-! _law_cloud(row, at, most, length, top): 0 row, 1 at, 2 most, 3 length, 4 top, 5 found, 6 k, 7 j -/
abbrev s_l_cloud : Stmt := topS 25
theorem sc_l_cloud : FnScope ["row", "at", "most", "length", "top", "found", "k", "j"] ["row", "at", "most", "length", "top"] (defScope s_l_cloud) := ⟨rfl, rfl, rfl, by decide +kernel, rfl, by decide +kernel, by decide +kernel⟩
def b_l_cloud : Cmd :=
    (sSeq (sSetO 5 (fun env => (aNil env).bind fun ds => if lim ds.length then some ds else none))
    (sSeq (sFor (iRg1 (aCons (eOp gMod (eCall gInt (aCons (eOp gIx (bVar 0) (bVar 1)) aNil)) (eOp gAdd (bVar 2) (eC (.int 1)))) aNil)) (gNm 6)
    (sApp 5 (eCall gTuple (aCons (asL (fLc [7] (iRg1 (aCons (bVar 3) aNil)) (gNm 7) tYesF (eOp gSub (eOp gMod (eCall gInt (aCons (eOp gIx (bVar 0) (eOp gAdd (eOp gAdd (eOp gAdd (bVar 1) (eC (.int 1))) (eOp gMul (eC (.int 3)) (bVar 6))) (bVar 7))) aNil)) (eOp gAdd (eOp gMul (eC (.int 2)) (bVar 4)) (eC (.int 1)))) (bVar 4)))) aNil))))
    (sRet (eCall gTuple (aCons (bVar 5) aNil)))))
def run_l_cloud : List D → Option D := runC 5 3 b_l_cloud
theorem ok_l_cloud (B : Bs mg) (F : FunT K mg "_law_cloud" s_l_cloud) : FnT P w K mg base "_law_cloud" 1 5 run_l_cloud :=
  fnt_mk (lv := 0) F sc_l_cloud rfl rfl (fun _ _ _ _ _ _ us hl => match us, hl with | [_, _, _, _, _], _ => rfl) (fun f cdv A outer s H E hr =>
    (ssx_cons (sx_setO (i := 5) sc_l_cloud.nd rfl (Or.inl rfl) (fx_lst ax_nil)) (ssx_cons (sx_for PassesOwn.never rfl (ilx_rg1 (by rfl) B.b_range (abx_cons (bx (ex_op omod (bx (ex_callTy cint (by rfl) B.b_int (by decide +kernel) (abx_cons (bx (ex_ix (bx_var (i := 0) rfl (Or.inr (Or.inl rfl))) (bx_var (i := 1) rfl (Or.inr (Or.inl rfl))) (fun _ _ => rfl))) abx_nil))) (bx (ex_op oadd (bx_var (i := 2) rfl (Or.inl rfl)) (bx ex_int))))) abx_nil)) (gx_nm (i := 6) sc_l_cloud.nd rfl (Or.inr rfl)) (ssx_one (sx_app (i := 5) rfl (Or.inl rfl) (ex_callTy ctuple (by rfl) B.b_tuple (by decide +kernel) (abx_cons (bx (ex_f (fx_lc (own := [("j", 7)]) rfl sc_l_cloud.nd (ilx_c (ilx_rg1 (by rfl) B.b_range (abx_cons (bx_var (i := 3) rfl (Or.inl rfl)) abx_nil))) (blkOk_by (by kernel_rfl)) (by decide) (fun _ _ _ _ _ => (gx_nm (i := 7) sc_l_cloud.nd rfl (by first | exact Or.inl rfl | exact Or.inr rfl))) (fun _ _ _ _ _ => pts_no) (fun _ _ _ _ _ => (ex_op osub (bx (ex_op omod (bx (ex_callTy cint (by rfl) B.b_int (by decide +kernel) (abx_cons (bx (ex_ix (bx_var (i := 0) rfl (by first | exact Or.inl rfl | exact Or.inr (Or.inr rfl) | exact Or.inr (Or.inl rfl))) (bx (ex_op oadd (bx (ex_op oadd (bx (ex_op oadd (bx_var (i := 1) rfl (by first | exact Or.inl rfl | exact Or.inr (Or.inr rfl) | exact Or.inr (Or.inl rfl))) (bx ex_int))) (bx (ex_op omul (bx ex_int) (bx_var (i := 6) rfl (by first | exact Or.inl rfl | exact Or.inr (Or.inr rfl) | exact Or.inr (Or.inl rfl))))))) (bx_var (i := 7) rfl (by first | exact Or.inl rfl | exact Or.inr (Or.inr rfl) | exact Or.inr (Or.inl rfl))))) (fun _ _ => rfl))) abx_nil))) (bx (ex_op oadd (bx (ex_op omul (bx ex_int) (bx_var (i := 4) rfl (by first | exact Or.inl rfl | exact Or.inr (Or.inr rfl) | exact Or.inr (Or.inl rfl))))) (bx ex_int))))) (bx_var (i := 4) rfl (by first | exact Or.inl rfl | exact Or.inr (Or.inr rfl) | exact Or.inr (Or.inl rfl)))))))) abx_nil))))) (ssx_one (sx_ret (ex_callTy ctuple (by rfl) B.b_tuple (by decide +kernel) (abx_cons (bx_var (i := 5) rfl (Or.inl rfl)) abx_nil)))))))

/-! _law_way(row, at, length): 0 row, 1 at, 2 length, 3 kind, 4 lines, 5 i, 6 j -/
abbrev s_l_way : Stmt := topS 26
theorem sc_l_way : FnScope ["row", "at", "length", "kind", "lines", "i", "j"] ["row", "at", "length"] (defScope s_l_way) := ⟨rfl, rfl, rfl, by decide +kernel, rfl, by decide +kernel, by decide +kernel⟩
def b_l_way : Cmd :=
    (sSeq (sSet 3 (eOp gMod (eCall gInt (aCons (eOp gIx (bVar 0) (bVar 1)) aNil)) (eC (.int 6))))
    (sSeq (sIf (asB (eOp gEq (bVar 3) (eC (.int 4))))
    (sRet (eTup (aCons (eC (.str (PySem.Str.ofString "weights"))) (aCons (eCall gTuple (aCons (asL (fLc [6] (iRg1 (aCons (bVar 2) aNil)) (gNm 6) tYesF (eOp gAdd (eC (.int 1)) (eOp gMod (eCall gInt (aCons (eOp gIx (bVar 0) (eOp gAdd (eOp gAdd (bVar 1) (eC (.int 1))) (bVar 6))) aNil)) (eC (.int 5)))))) aNil)) aNil))))
    sNop)
    (sSeq (sIf (asB (eOp gEq (bVar 3) (eC (.int 5))))
    (sSeq (sSetO 4 (fun env => (aNil env).bind fun ds => if lim ds.length then some ds else none))
    (sSeq (sFor (iRg1 (aCons (bVar 2) aNil)) (gNm 5)
    (sApp 4 (eCall gTuple (aCons (asL (fLc [6] (iRg1 (aCons (bVar 2) aNil)) (gNm 6) tYesF (eOp gAdd (eOp gMul (eOp gAdd (eOp gMod (eCall gInt (aCons (eOp gIx (bVar 0) (eOp gAdd (eOp gAdd (bVar 1) (eC (.int 1))) (bVar 5))) aNil)) (eC (.int 3))) (eC (.int 4))) (eCall gInt (aCons (eOp gEq (bVar 5) (bVar 6)) aNil))) (eOp gMul (eOp gSub (eOp gMod (eCall gInt (aCons (eOp gIx (bVar 0) (eOp gAdd (bVar 1) (eC (.int 4)))) aNil)) (eC (.int 3))) (eC (.int 1))) (eCall gInt (aCons (eOp gNe (bVar 5) (bVar 6)) aNil)))))) aNil))))
    (sRet (eTup (aCons (eC (.str (PySem.Str.ofString "form"))) (aCons (eCall gTuple (aCons (bVar 4) aNil)) aNil))))))
    sNop)
    (sRet (eOp gIx (eTup (aCons (eC (.str (PySem.Str.ofString "steps"))) (aCons (eC (.str (PySem.Str.ofString "air"))) (aCons (eC (.str (PySem.Str.ofString "widest"))) (aCons (eC (.str (PySem.Str.ofString "unlike"))) aNil))))) (bVar 3))))))
def run_l_way : List D → Option D := runC 3 4 b_l_way
theorem ok_l_way (B : Bs mg) (F : FunT K mg "_law_way" s_l_way) : FnT P w K mg base "_law_way" 1 3 run_l_way :=
  fnt_mk (lv := 0) F sc_l_way rfl rfl (fun _ _ _ _ _ _ us hl => match us, hl with | [_, _, _], _ => rfl) (fun f cdv A outer s H E hr =>
    (ssx_cons (sx_set (i := 3) sc_l_way.nd rfl (Or.inl rfl) (ex_op omod (bx (ex_callTy cint (by rfl) B.b_int (by decide +kernel) (abx_cons (bx (ex_ix (bx_var (i := 0) rfl (Or.inr (Or.inl rfl))) (bx_var (i := 1) rfl (Or.inr (Or.inl rfl))) (fun _ _ => rfl))) abx_nil))) (bx ex_int))) (ssx_cons (sx_if (tx_cmp (oeq hr.units) (bx_var (i := 3) rfl (Or.inl rfl)) (bx ex_int) (nomark _)) (ssx_one (sx_ret (ex_tup (ax_cons ex_str (ax_cons (ex_callTy ctuple (by rfl) B.b_tuple (by decide +kernel) (abx_cons (bx (ex_f (fx_lc (own := [("j", 6)]) rfl sc_l_way.nd (ilx_c (ilx_rg1 (by rfl) B.b_range (abx_cons (bx_var (i := 2) rfl (Or.inl rfl)) abx_nil))) (blkOk_by (by kernel_rfl)) (by decide) (fun _ _ _ _ _ => (gx_nm (i := 6) sc_l_way.nd rfl (by first | exact Or.inl rfl | exact Or.inr rfl))) (fun _ _ _ _ _ => pts_no) (fun _ _ _ _ _ => (ex_op oadd (bx ex_int) (bx (ex_op omod (bx (ex_callTy cint (by rfl) B.b_int (by decide +kernel) (abx_cons (bx (ex_ix (bx_var (i := 0) rfl (by first | exact Or.inl rfl | exact Or.inr (Or.inr rfl) | exact Or.inr (Or.inl rfl))) (bx (ex_op oadd (bx (ex_op oadd (bx_var (i := 1) rfl (by first | exact Or.inl rfl | exact Or.inr (Or.inr rfl) | exact Or.inr (Or.inl rfl))) (bx ex_int))) (bx_var (i := 6) rfl (by first | exact Or.inl rfl | exact Or.inr (Or.inr rfl) | exact Or.inr (Or.inl rfl))))) (fun _ _ => rfl))) abx_nil))) (bx ex_int)))))))) abx_nil)) ax_nil))))) ssx_nil) (ssx_cons (sx_if (tx_cmp (oeq hr.units) (bx_var (i := 3) rfl (Or.inl rfl)) (bx ex_int) (nomark _)) (ssx_cons (sx_setO (i := 4) sc_l_way.nd rfl (Or.inl rfl) (fx_lst ax_nil)) (ssx_cons (sx_for PassesOwn.never rfl (ilx_rg1 (by rfl) B.b_range (abx_cons (bx_var (i := 2) rfl (Or.inl rfl)) abx_nil)) (gx_nm (i := 5) sc_l_way.nd rfl (Or.inr rfl)) (ssx_one (sx_app (i := 4) rfl (Or.inl rfl) (ex_callTy ctuple (by rfl) B.b_tuple (by decide +kernel) (abx_cons (bx (ex_f (fx_lc (own := [("j", 6)]) rfl sc_l_way.nd (ilx_c (ilx_rg1 (by rfl) B.b_range (abx_cons (bx_var (i := 2) rfl (Or.inl rfl)) abx_nil))) (blkOk_by (by kernel_rfl)) (by decide) (fun _ _ _ _ _ => (gx_nm (i := 6) sc_l_way.nd rfl (by first | exact Or.inl rfl | exact Or.inr rfl))) (fun _ _ _ _ _ => pts_no) (fun _ _ _ _ _ => (ex_op oadd (bx (ex_op omul (bx (ex_op oadd (bx (ex_op omod (bx (ex_callTy cint (by rfl) B.b_int (by decide +kernel) (abx_cons (bx (ex_ix (bx_var (i := 0) rfl (by first | exact Or.inl rfl | exact Or.inr (Or.inr rfl) | exact Or.inr (Or.inl rfl))) (bx (ex_op oadd (bx (ex_op oadd (bx_var (i := 1) rfl (by first | exact Or.inl rfl | exact Or.inr (Or.inr rfl) | exact Or.inr (Or.inl rfl))) (bx ex_int))) (bx_var (i := 5) rfl (by first | exact Or.inl rfl | exact Or.inr (Or.inr rfl) | exact Or.inr (Or.inl rfl))))) (fun _ _ => rfl))) abx_nil))) (bx ex_int))) (bx ex_int))) (bx (ex_callTy cint (by rfl) B.b_int (by decide +kernel) (abx_cons (bx (ex_cmp (oeq hr.units) (bx_var (i := 5) rfl (by first | exact Or.inl rfl | exact Or.inr (Or.inr rfl) | exact Or.inr (Or.inl rfl))) (bx_var (i := 6) rfl (by first | exact Or.inl rfl | exact Or.inr (Or.inr rfl) | exact Or.inr (Or.inl rfl))) (nomark _))) abx_nil))))) (bx (ex_op omul (bx (ex_op osub (bx (ex_op omod (bx (ex_callTy cint (by rfl) B.b_int (by decide +kernel) (abx_cons (bx (ex_ix (bx_var (i := 0) rfl (by first | exact Or.inl rfl | exact Or.inr (Or.inr rfl) | exact Or.inr (Or.inl rfl))) (bx (ex_op oadd (bx_var (i := 1) rfl (by first | exact Or.inl rfl | exact Or.inr (Or.inr rfl) | exact Or.inr (Or.inl rfl))) (bx ex_int))) (fun _ _ => rfl))) abx_nil))) (bx ex_int))) (bx ex_int))) (bx (ex_callTy cint (by rfl) B.b_int (by decide +kernel) (abx_cons (bx (ex_cmp (one hr.units) (bx_var (i := 5) rfl (by first | exact Or.inl rfl | exact Or.inr (Or.inr rfl) | exact Or.inr (Or.inl rfl))) (bx_var (i := 6) rfl (by first | exact Or.inl rfl | exact Or.inr (Or.inr rfl) | exact Or.inr (Or.inl rfl))) (nomark _))) abx_nil)))))))))) abx_nil))))) (ssx_one (sx_ret (ex_tup (ax_cons ex_str (ax_cons (ex_callTy ctuple (by rfl) B.b_tuple (by decide +kernel) (abx_cons (bx_var (i := 4) rfl (Or.inl rfl)) abx_nil)) ax_nil))))))) ssx_nil) (ssx_one (sx_ret (ex_ix (bx (ex_tup (ax_cons ex_str (ax_cons ex_str (ax_cons ex_str (ax_cons ex_str ax_nil)))))) (bx_var (i := 3) rfl (Or.inl rfl)) (fun _ _ => rfl))))))))

/-! _law_far(way, u, v): 0 way, 1 u, 2 v, 3 steps, 4 total, 5 i, 6 k, 7 step, 8 j -/
abbrev s_l_far : Stmt := topS 27
theorem sc_l_far : FnScope ["way", "u", "v", "steps", "total", "i", "k", "step", "j"] ["way", "u", "v"] (defScope s_l_far) := ⟨rfl, rfl, rfl, by decide +kernel, rfl, by decide +kernel, by decide +kernel⟩
def b_l_far : Cmd :=
    (sSeq (sSet 3 (asL (fLc [6] (iRg1 (aCons (eCall gLen (aCons (bVar 1) aNil)) aNil)) (gNm 6) tYesF (eOp gSub (eOp gIx (bVar 1) (bVar 6)) (eOp gIx (bVar 2) (bVar 6))))))
    (sSeq (sIf (asB (eOp gEq (bVar 0) (eC (.str (PySem.Str.ofString "steps")))))
    (sRet (eCall gSum (aCons (asL (fLc [7] (iSeq (bVar 3)) (gNm 7) tYesF (eCall gAbs (aCons (bVar 7) aNil)))) aNil)))
    sNop)
    (sSeq (sIf (asB (eOp gEq (bVar 0) (eC (.str (PySem.Str.ofString "air")))))
    (sRet (eCall gSum (aCons (asL (fLc [7] (iSeq (bVar 3)) (gNm 7) tYesF (eOp gMul (bVar 7) (bVar 7)))) aNil)))
    sNop)
    (sSeq (sIf (asB (eOp gEq (bVar 0) (eC (.str (PySem.Str.ofString "widest")))))
    (sRet (eCall gMaxA (aCons (asL (fLc [7] (iSeq (bVar 3)) (gNm 7) tYesF (eCall gAbs (aCons (bVar 7) aNil)))) aNil)))
    sNop)
    (sSeq (sIf (asB (eOp gEq (bVar 0) (eC (.str (PySem.Str.ofString "unlike")))))
    (sRet (eCall gLen (aCons (asL (fLc [7] (iSeq (bVar 3)) (gNm 7) (asB (eOp gNe (bVar 7) (eC (.int 0)))) (eVar 7))) aNil)))
    sNop)
    (sSeq (sIf (asB (eOp gEq (eOp gIx (bVar 0) (eC (.int 0))) (eC (.str (PySem.Str.ofString "weights")))))
    (sRet (eCall gSum (aCons (asL (fLc [6] (iRg1 (aCons (eCall gLen (aCons (bVar 1) aNil)) aNil)) (gNm 6) tYesF (eOp gMul (eOp gIx (eOp gIx (bVar 0) (eC (.int 1))) (bVar 6)) (eCall gAbs (aCons (eOp gIx (bVar 3) (bVar 6)) aNil))))) aNil)))
    sNop)
    (sSeq (sSet 4 (eC (.int 0)))
    (sSeq (sFor (iRg1 (aCons (eCall gLen (aCons (bVar 1) aNil)) aNil)) (gNm 5)
    (sSet 4 (eOp gAdd (bVar 4) (eOp gMul (eOp gIx (bVar 3) (bVar 5)) (eCall gSum (aCons (asL (fLc [8] (iRg1 (aCons (eCall gLen (aCons (bVar 1) aNil)) aNil)) (gNm 8) tYesF (eOp gMul (eOp gIx (eOp gIx (eOp gIx (bVar 0) (eC (.int 1))) (bVar 5)) (bVar 8)) (eOp gIx (bVar 3) (bVar 8))))) aNil))))))
    (sRet (eVar 4))))))))))
def run_l_far : List D → Option D := runC 3 6 b_l_far
theorem ok_l_far (B : Bs mg) (F : FunT K mg "_law_far" s_l_far) : FnT P w K mg base "_law_far" 1 3 run_l_far :=
  fnt_mk (lv := 0) F sc_l_far rfl rfl (fun _ _ _ _ _ _ us hl => match us, hl with | [_, _, _], _ => rfl) (fun f cdv A outer s H E hr =>
    (ssx_cons (sx_set (i := 3) sc_l_far.nd rfl (Or.inr rfl) (ex_f (fx_lc (own := [("k", 6)]) rfl sc_l_far.nd (ilx_c (ilx_rg1 (by rfl) B.b_range (abx_cons (bx (ex_callB clen (by rfl) B.b_len PySem.boot_len (abx_cons (bx_var (i := 1) rfl (Or.inr (Or.inl rfl))) abx_nil))) abx_nil))) (blkOk_by (by kernel_rfl)) (by decide) (fun _ _ _ _ _ => (gx_nm (i := 6) sc_l_far.nd rfl (by first | exact Or.inl rfl | exact Or.inr rfl))) (fun _ _ _ _ _ => pts_no) (fun _ _ _ _ _ => (ex_op osub (bx (ex_ix (bx_var (i := 1) rfl (by first | exact Or.inl rfl | exact Or.inr (Or.inr rfl) | exact Or.inr (Or.inl rfl))) (bx_var (i := 6) rfl (by first | exact Or.inl rfl | exact Or.inr (Or.inr rfl) | exact Or.inr (Or.inl rfl))) (fun _ _ => rfl))) (bx (ex_ix (bx_var (i := 2) rfl (by first | exact Or.inl rfl | exact Or.inr (Or.inr rfl) | exact Or.inr (Or.inl rfl))) (bx_var (i := 6) rfl (by first | exact Or.inl rfl | exact Or.inr (Or.inr rfl) | exact Or.inr (Or.inl rfl))) (fun _ _ => rfl)))))))) (ssx_cons (sx_if (tx_cmp (oeq hr.units) (bx_var (i := 0) rfl (Or.inr (Or.inl rfl))) (bx ex_str) (nomark _)) (ssx_one (sx_ret (ex_callB (csum rfl) (by rfl) B.b_sum (by decide +kernel) (abx_cons (bx (ex_f (fx_lc (own := [("step", 7)]) rfl sc_l_far.nd (icx_seq (bx_var (i := 3) rfl (Or.inr (Or.inl rfl)))) (blkOk_by (by kernel_rfl)) (by decide) (fun _ _ _ _ _ => (gx_nm (i := 7) sc_l_far.nd rfl (by first | exact Or.inl rfl | exact Or.inr rfl))) (fun _ _ _ _ _ => pts_no) (fun _ _ _ _ _ => (ex_callB cabs (by rfl) B.b_abs (by decide +kernel) (abx_cons (bx_var (i := 7) rfl (by first | exact Or.inl rfl | exact Or.inr (Or.inr rfl) | exact Or.inr (Or.inl rfl))) abx_nil)))))) abx_nil)))) ssx_nil) (ssx_cons (sx_if (tx_cmp (oeq hr.units) (bx_var (i := 0) rfl (Or.inr (Or.inl rfl))) (bx ex_str) (nomark _)) (ssx_one (sx_ret (ex_callB (csum rfl) (by rfl) B.b_sum (by decide +kernel) (abx_cons (bx (ex_f (fx_lc (own := [("step", 7)]) rfl sc_l_far.nd (icx_seq (bx_var (i := 3) rfl (Or.inr (Or.inl rfl)))) (blkOk_by (by kernel_rfl)) (by decide) (fun _ _ _ _ _ => (gx_nm (i := 7) sc_l_far.nd rfl (by first | exact Or.inl rfl | exact Or.inr rfl))) (fun _ _ _ _ _ => pts_no) (fun _ _ _ _ _ => (ex_op omul (bx_var (i := 7) rfl (by first | exact Or.inl rfl | exact Or.inr (Or.inr rfl) | exact Or.inr (Or.inl rfl))) (bx_var (i := 7) rfl (by first | exact Or.inl rfl | exact Or.inr (Or.inr rfl) | exact Or.inr (Or.inl rfl)))))))) abx_nil)))) ssx_nil) (ssx_cons (sx_if (tx_cmp (oeq hr.units) (bx_var (i := 0) rfl (Or.inr (Or.inl rfl))) (bx ex_str) (nomark _)) (ssx_one (sx_ret (ex_callB (cmaxA rfl (room65 hr)) (by rfl) B.b_max (by decide +kernel) (abx_cons (bx (ex_f (fx_lc (own := [("step", 7)]) rfl sc_l_far.nd (icx_seq (bx_var (i := 3) rfl (Or.inr (Or.inl rfl)))) (blkOk_by (by kernel_rfl)) (by decide) (fun _ _ _ _ _ => (gx_nm (i := 7) sc_l_far.nd rfl (by first | exact Or.inl rfl | exact Or.inr rfl))) (fun _ _ _ _ _ => pts_no) (fun _ _ _ _ _ => (ex_callB cabs (by rfl) B.b_abs (by decide +kernel) (abx_cons (bx_var (i := 7) rfl (by first | exact Or.inl rfl | exact Or.inr (Or.inr rfl) | exact Or.inr (Or.inl rfl))) abx_nil)))))) abx_nil)))) ssx_nil) (ssx_cons (sx_if (tx_cmp (oeq hr.units) (bx_var (i := 0) rfl (Or.inr (Or.inl rfl))) (bx ex_str) (nomark _)) (ssx_one (sx_ret (ex_callB clen (by rfl) B.b_len PySem.boot_len (abx_cons (bx (ex_f (fx_lc (own := [("step", 7)]) rfl sc_l_far.nd (icx_seq (bx_var (i := 3) rfl (Or.inr (Or.inl rfl)))) (blkOk_by (by kernel_rfl)) (by decide) (fun _ _ _ _ _ => (gx_nm (i := 7) sc_l_far.nd rfl (by first | exact Or.inl rfl | exact Or.inr rfl))) (fun _ _ _ _ _ => (pts_if (tx_cmp (one hr.units) (bx_var (i := 7) rfl (by first | exact Or.inl rfl | exact Or.inr (Or.inr rfl) | exact Or.inr (Or.inl rfl))) (bx ex_int) (nomark _)))) (fun _ _ _ _ _ => (ex_var (i := 7) rfl (by first | exact Or.inl rfl | exact Or.inr (Or.inr rfl) | exact Or.inr (Or.inl rfl))))))) abx_nil)))) ssx_nil) (ssx_cons (sx_if (tx_cmp (oeq hr.units) (bx (ex_ix (bx_var (i := 0) rfl (Or.inr (Or.inl rfl))) (bx ex_int) (fun _ _ => rfl))) (bx ex_str) (nomark _)) (ssx_one (sx_ret (ex_callB (csum rfl) (by rfl) B.b_sum (by decide +kernel) (abx_cons (bx (ex_f (fx_lc (own := [("k", 6)]) rfl sc_l_far.nd (ilx_c (ilx_rg1 (by rfl) B.b_range (abx_cons (bx (ex_callB clen (by rfl) B.b_len PySem.boot_len (abx_cons (bx_var (i := 1) rfl (Or.inr (Or.inl rfl))) abx_nil))) abx_nil))) (blkOk_by (by kernel_rfl)) (by decide) (fun _ _ _ _ _ => (gx_nm (i := 6) sc_l_far.nd rfl (by first | exact Or.inl rfl | exact Or.inr rfl))) (fun _ _ _ _ _ => pts_no) (fun _ _ _ _ _ => (ex_op omul (bx (ex_ix (bx (ex_ix (bx_var (i := 0) rfl (by first | exact Or.inl rfl | exact Or.inr (Or.inr rfl) | exact Or.inr (Or.inl rfl))) (bx ex_int) (fun _ _ => rfl))) (bx_var (i := 6) rfl (by first | exact Or.inl rfl | exact Or.inr (Or.inr rfl) | exact Or.inr (Or.inl rfl))) (fun _ _ => rfl))) (bx (ex_callB cabs (by rfl) B.b_abs (by decide +kernel) (abx_cons (bx (ex_ix (bx_var (i := 3) rfl (by first | exact Or.inl rfl | exact Or.inr (Or.inr rfl) | exact Or.inr (Or.inl rfl))) (bx_var (i := 6) rfl (by first | exact Or.inl rfl | exact Or.inr (Or.inr rfl) | exact Or.inr (Or.inl rfl))) (fun _ _ => rfl))) abx_nil)))))))) abx_nil)))) ssx_nil) (ssx_cons (sx_set (i := 4) sc_l_far.nd rfl (Or.inl rfl) ex_int) (ssx_cons (sx_for PassesOwn.never rfl (ilx_rg1 (by rfl) B.b_range (abx_cons (bx (ex_callB clen (by rfl) B.b_len PySem.boot_len (abx_cons (bx_var (i := 1) rfl (Or.inr (Or.inl rfl))) abx_nil))) abx_nil)) (gx_nm (i := 5) sc_l_far.nd rfl (Or.inr rfl)) (ssx_one (sx_set (i := 4) sc_l_far.nd rfl (Or.inl rfl) (ex_op oadd (bx_var (i := 4) rfl (Or.inl rfl)) (bx (ex_op omul (bx (ex_ix (bx_var (i := 3) rfl (Or.inr (Or.inl rfl))) (bx_var (i := 5) rfl (Or.inr (Or.inl rfl))) (fun _ _ => rfl))) (bx (ex_callB (csum rfl) (by rfl) B.b_sum (by decide +kernel) (abx_cons (bx (ex_f (fx_lc (own := [("j", 8)]) rfl sc_l_far.nd (ilx_c (ilx_rg1 (by rfl) B.b_range (abx_cons (bx (ex_callB clen (by rfl) B.b_len PySem.boot_len (abx_cons (bx_var (i := 1) rfl (Or.inr (Or.inl rfl))) abx_nil))) abx_nil))) (blkOk_by (by kernel_rfl)) (by decide) (fun _ _ _ _ _ => (gx_nm (i := 8) sc_l_far.nd rfl (by first | exact Or.inl rfl | exact Or.inr rfl))) (fun _ _ _ _ _ => pts_no) (fun _ _ _ _ _ => (ex_op omul (bx (ex_ix (bx (ex_ix (bx (ex_ix (bx_var (i := 0) rfl (by first | exact Or.inl rfl | exact Or.inr (Or.inr rfl) | exact Or.inr (Or.inl rfl))) (bx ex_int) (fun _ _ => rfl))) (bx_var (i := 5) rfl (by first | exact Or.inl rfl | exact Or.inr (Or.inr rfl) | exact Or.inr (Or.inl rfl))) (fun _ _ => rfl))) (bx_var (i := 8) rfl (by first | exact Or.inl rfl | exact Or.inr (Or.inr rfl) | exact Or.inr (Or.inl rfl))) (fun _ _ => rfl))) (bx (ex_ix (bx_var (i := 3) rfl (by first | exact Or.inl rfl | exact Or.inr (Or.inr rfl) | exact Or.inr (Or.inl rfl))) (bx_var (i := 8) rfl (by first | exact Or.inl rfl | exact Or.inr (Or.inr rfl) | exact Or.inr (Or.inl rfl))) (fun _ _ => rfl)))))))) abx_nil))))))))) (ssx_one (sx_ret (ex_var (i := 4) rfl (Or.inl rfl)))))))))))))

/-! _law_split(cloud, places): 0 cloud, 1 places, 2 best, 3 axis, 4 numbers, 5 gap, 6 value, 7 low, 8 place, 9 number -/
abbrev s_l_split : Stmt := topS 28
theorem sc_l_split : FnScope ["cloud", "places", "best", "axis", "numbers", "gap", "value", "low", "place", "number"] ["cloud", "places"] (defScope s_l_split) := ⟨rfl, rfl, rfl, by decide +kernel, rfl, by decide +kernel, by decide +kernel⟩
def b_l_split (rec : List D → Option D) : Cmd :=
    (sSeq (sIf (asB (eOp gEq (eCall gLen (aCons (bVar 1) aNil)) (eC (.int 0))))
    (sRet (eC .non))
    sNop)
    (sSeq (sSet 2 (eC .non))
    (sSeq (sFor (iRg1 (aCons (eCall gLen (aCons (eOp gIx (bVar 0) (eC (.int 0))) aNil)) aNil)) (gNm 3)
    (sSeq (sSet 4 (asL (fCall gSortA (aCons (asL (fLc [8] (iSeq (bVar 1)) (gNm 8) tYesF (eOp gIx (eOp gIx (bVar 0) (bVar 8)) (bVar 3)))) aNil))))
    (sSeq (sSet 5 (eOp gSub (eOp gIx (bVar 4) (eOp gSub (eCall gLen (aCons (bVar 4) aNil)) (eC (.int 1)))) (eOp gIx (bVar 4) (eC (.int 0)))))
    (sIf (tOrF (asB (eOp gIs (bVar 2) (eC .non))) (asB (eOp gGt (bVar 5) (eOp gIx (bVar 2) (eC (.int 0))))))
    (sSet 2 (eTup (aCons (eVar 5) (aCons (eVar 3) (aCons (eVar 4) aNil)))))
    sNop))))
    (sSeq (sAsg (gTp (gsCons (gNm 5) (gsCons (gNm 3) (gsCons (gNm 4) gsNil)))) (eVar 2))
    (sSeq (sIf (tOrF (asB (eOp gLe (eCall gLen (aCons (bVar 1) aNil)) (eC (.int 2)))) (asB (eOp gEq (bVar 5) (eC (.int 0)))))
    (sRet (eCall gTuple (aCons (bVar 1) aNil)))
    sNop)
    (sSeq (sSet 6 (eOp gIx (bVar 4) (eOp gSub (eOp gDiv (eOp gAdd (eCall gLen (aCons (bVar 4) aNil)) (eC (.int 1))) (eC (.int 2))) (eC (.int 1)))))
    (sSeq (sIf (asB (eOp gEq (bVar 6) (eOp gIx (bVar 4) (eOp gSub (eCall gLen (aCons (bVar 4) aNil)) (eC (.int 1))))))
    (sSet 6 (eCall gMaxA (aCons (asL (fLc [9] (iSeq (bVar 4)) (gNm 9) (asB (eOp gLt (bVar 9) (bVar 6))) (eVar 9))) aNil)))
    sNop)
    (sSeq (sSet 7 (asL (fLc [8] (iSeq (bVar 1)) (gNm 8) (asB (eOp gLe (eOp gIx (eOp gIx (bVar 0) (bVar 8)) (bVar 3)) (bVar 6))) (eVar 8))))
    (sRet (eTup (aCons (eVar 3) (aCons (eVar 6) (aCons (eFn rec (aCons (eVar 0) (aCons (eVar 7) aNil))) (aCons (eFn rec (aCons (eVar 0) (aCons (asL (fLc [8] (iSeq (bVar 1)) (gNm 8) (asB (eOp gNotIn (bVar 8) (bVar 7))) (eVar 8))) aNil))) aNil))))))))))))))
def run_l_split : Nat → List D → Option D
  | 0 => fun _ => none
  | fuel + 1 => runC 2 8 (b_l_split (run_l_split fuel))
theorem ok_l_split (B : Bs mg) (F : FunT K mg "_law_split" s_l_split) : ∀ fuel, FnT P w K mg base "_law_split" (0 + fuel) 2 (run_l_split fuel)
  | 0 => fnt_zero (ps := ["cloud", "places"]) F (fun _ _ _ _ _ _ us hl => match us, hl with | [_, _], _ => rfl)
  | fuel + 1 => have c_l_split := ok_l_split B F fuel
    fnt_mk (lv := 0 + fuel) F sc_l_split rfl rfl (fun _ _ _ _ _ _ us hl => match us, hl with | [_, _], _ => rfl) (fun f cdv A outer s H E hr =>
    (ssx_cons (sx_if (tx_cmp (oeq hr.units) (bx (ex_callB clen (by rfl) B.b_len PySem.boot_len (abx_cons (bx_var (i := 1) rfl (Or.inl rfl)) abx_nil))) (bx ex_int) (nomark _)) (ssx_one (sx_ret ex_non)) ssx_nil) (ssx_cons (sx_set (i := 2) sc_l_split.nd rfl (Or.inl rfl) ex_non) (ssx_cons (sx_for PassesOwn.never rfl (ilx_rg1 (by rfl) B.b_range (abx_cons (bx (ex_callB clen (by rfl) B.b_len PySem.boot_len (abx_cons (bx (ex_ix (bx_var (i := 0) rfl (Or.inr (Or.inl rfl))) (bx ex_int) (fun _ _ => rfl))) abx_nil))) abx_nil)) (gx_nm (i := 3) sc_l_split.nd rfl (Or.inr rfl)) (ssx_cons (sx_set (i := 4) sc_l_split.nd rfl (Or.inl rfl) (ex_f (fx_callB (csortA (room65 hr)) (by rfl) B.b_sorted (by decide +kernel) (abx_cons (bx (ex_f (fx_lc (own := [("place", 8)]) rfl sc_l_split.nd (icx_seq (bx_var (i := 1) rfl (Or.inl rfl))) (blkOk_by (by kernel_rfl)) (by decide) (fun _ _ _ _ _ => (gx_nm (i := 8) sc_l_split.nd rfl (by first | exact Or.inl rfl | exact Or.inr rfl))) (fun _ _ _ _ _ => pts_no) (fun _ _ _ _ _ => (ex_ix (bx (ex_ix (bx_var (i := 0) rfl (by first | exact Or.inl rfl | exact Or.inr (Or.inr rfl) | exact Or.inr (Or.inl rfl))) (bx_var (i := 8) rfl (by first | exact Or.inl rfl | exact Or.inr (Or.inr rfl) | exact Or.inr (Or.inl rfl))) (fun _ _ => rfl))) (bx_var (i := 3) rfl (by first | exact Or.inl rfl | exact Or.inr (Or.inr rfl) | exact Or.inr (Or.inl rfl))) (fun _ _ => rfl)))))) abx_nil)))) (ssx_cons (sx_set (i := 5) sc_l_split.nd rfl (Or.inl rfl) (ex_op osub (bx (ex_ix (bx_var (i := 4) rfl (Or.inl rfl)) (bx (ex_op osub (bx (ex_callB clen (by rfl) B.b_len PySem.boot_len (abx_cons (bx_var (i := 4) rfl (Or.inl rfl)) abx_nil))) (bx ex_int))) (fun _ _ => rfl))) (bx (ex_ix (bx_var (i := 4) rfl (Or.inl rfl)) (bx ex_int) (fun _ _ => rfl))))) (ssx_one (sx_if (PW.pt (wx_or (tx_cmp ois (bx_var (i := 2) rfl (Or.inl rfl)) (bx ex_non) (nomark _)) (wx_or1 (tx_cmp ogt (bx_var (i := 5) rfl (Or.inl rfl)) (bx (ex_ix (bx_var (i := 2) rfl (Or.inl rfl)) (bx ex_int) (fun _ _ => rfl))) (nomark _))))) (ssx_one (sx_set (i := 2) sc_l_split.nd rfl (Or.inl rfl) (ex_tup (ax_cons (ex_var (i := 5) rfl (Or.inl rfl)) (ax_cons (ex_var (i := 3) rfl (Or.inr (Or.inl rfl))) (ax_cons (ex_var (i := 4) rfl (Or.inl rfl)) ax_nil)))))) ssx_nil))))) (ssx_cons (sx_asg (ex_var (i := 2) rfl (Or.inl rfl)) (gx_tp rfl (gsx_cons (gx_nm (i := 5) sc_l_split.nd rfl (Or.inl rfl)) (gsx_cons (gx_nm (i := 3) sc_l_split.nd rfl (Or.inr rfl)) (gsx_cons (gx_nm (i := 4) sc_l_split.nd rfl (Or.inl rfl)) gsx_nil))) (gsl_cons (gsl_cons (gsl_cons gsl_nil))))) (ssx_cons (sx_if (PW.pt (wx_or (tx_cmp ole (bx (ex_callB clen (by rfl) B.b_len PySem.boot_len (abx_cons (bx_var (i := 1) rfl (Or.inl rfl)) abx_nil))) (bx ex_int) (nomark _)) (wx_or1 (tx_cmp (oeq hr.units) (bx_var (i := 5) rfl (Or.inl rfl)) (bx ex_int) (nomark _))))) (ssx_one (sx_ret (ex_callTy ctuple (by rfl) B.b_tuple (by decide +kernel) (abx_cons (bx_var (i := 1) rfl (Or.inl rfl)) abx_nil)))) ssx_nil) (ssx_cons (sx_set (i := 6) sc_l_split.nd rfl (Or.inr rfl) (ex_ix (bx_var (i := 4) rfl (Or.inl rfl)) (bx (ex_op osub (bx (ex_op odiv (bx (ex_op oadd (bx (ex_callB clen (by rfl) B.b_len PySem.boot_len (abx_cons (bx_var (i := 4) rfl (Or.inl rfl)) abx_nil))) (bx ex_int))) (bx ex_int))) (bx ex_int))) (fun _ _ => rfl))) (ssx_cons (sx_if (tx_cmp (oeq hr.units) (bx_var (i := 6) rfl (Or.inr (Or.inl rfl))) (bx (ex_ix (bx_var (i := 4) rfl (Or.inl rfl)) (bx (ex_op osub (bx (ex_callB clen (by rfl) B.b_len PySem.boot_len (abx_cons (bx_var (i := 4) rfl (Or.inl rfl)) abx_nil))) (bx ex_int))) (fun _ _ => rfl))) (nomark _)) (ssx_one (sx_set (i := 6) sc_l_split.nd rfl (Or.inr rfl) (ex_callB (cmaxA rfl (room65 hr)) (by rfl) B.b_max (by decide +kernel) (abx_cons (bx (ex_f (fx_lc (own := [("number", 9)]) rfl sc_l_split.nd (icx_seq (bx_var (i := 4) rfl (Or.inl rfl))) (blkOk_by (by kernel_rfl)) (by decide) (fun _ _ _ _ _ => (gx_nm (i := 9) sc_l_split.nd rfl (by first | exact Or.inl rfl | exact Or.inr rfl))) (fun _ _ _ _ _ => (pts_if (tx_cmp olt (bx_var (i := 9) rfl (by first | exact Or.inl rfl | exact Or.inr (Or.inr rfl) | exact Or.inr (Or.inl rfl))) (bx_var (i := 6) rfl (by first | exact Or.inl rfl | exact Or.inr (Or.inr rfl) | exact Or.inr (Or.inl rfl))) (nomark _)))) (fun _ _ _ _ _ => (ex_var (i := 9) rfl (by first | exact Or.inl rfl | exact Or.inr (Or.inr rfl) | exact Or.inr (Or.inl rfl))))))) abx_nil)))) ssx_nil) (ssx_cons (sx_set (i := 7) sc_l_split.nd rfl (Or.inr rfl) (ex_f (fx_lc (own := [("place", 8)]) rfl sc_l_split.nd (icx_seq (bx_var (i := 1) rfl (Or.inl rfl))) (blkOk_by (by kernel_rfl)) (by decide) (fun _ _ _ _ _ => (gx_nm (i := 8) sc_l_split.nd rfl (by first | exact Or.inl rfl | exact Or.inr rfl))) (fun _ _ _ _ _ => (pts_if (tx_cmp ole (bx (ex_ix (bx (ex_ix (bx_var (i := 0) rfl (by first | exact Or.inl rfl | exact Or.inr (Or.inr rfl) | exact Or.inr (Or.inl rfl))) (bx_var (i := 8) rfl (by first | exact Or.inl rfl | exact Or.inr (Or.inr rfl) | exact Or.inr (Or.inl rfl))) (fun _ _ => rfl))) (bx_var (i := 3) rfl (by first | exact Or.inl rfl | exact Or.inr (Or.inr rfl) | exact Or.inr (Or.inl rfl))) (fun _ _ => rfl))) (bx_var (i := 6) rfl (by first | exact Or.inl rfl | exact Or.inr (Or.inr rfl) | exact Or.inr (Or.inl rfl))) (nomark _)))) (fun _ _ _ _ _ => (ex_var (i := 8) rfl (by first | exact Or.inl rfl | exact Or.inr (Or.inr rfl) | exact Or.inr (Or.inl rfl))))))) (ssx_one (sx_ret (ex_tup (ax_cons (ex_var (i := 3) rfl (Or.inr (Or.inl rfl))) (ax_cons (ex_var (i := 6) rfl (Or.inr (Or.inl rfl))) (ax_cons (ex_fnT c_l_split hr (by omega) (by rfl) (ax_cons (ex_var (i := 0) rfl (Or.inr (Or.inl rfl))) (ax_cons (ex_var (i := 7) rfl (Or.inr (Or.inl rfl))) ax_nil))) (ax_cons (ex_fnT c_l_split hr (by omega) (by rfl) (ax_cons (ex_var (i := 0) rfl (Or.inr (Or.inl rfl))) (ax_cons (ex_f (fx_lc (own := [("place", 8)]) rfl sc_l_split.nd (icx_seq (bx_var (i := 1) rfl (Or.inl rfl))) (blkOk_by (by kernel_rfl)) (by decide) (fun _ _ _ _ _ => (gx_nm (i := 8) sc_l_split.nd rfl (by first | exact Or.inl rfl | exact Or.inr rfl))) (fun _ _ _ _ _ => (pts_if (tx_cmp (onotin (room65 hr)) (bx_var (i := 8) rfl (by first | exact Or.inl rfl | exact Or.inr (Or.inr rfl) | exact Or.inr (Or.inl rfl))) (bx_var (i := 7) rfl (by first | exact Or.inl rfl | exact Or.inr (Or.inr rfl) | exact Or.inr (Or.inl rfl))) (by rfl)))) (fun _ _ _ _ _ => (ex_var (i := 8) rfl (by first | exact Or.inl rfl | exact Or.inr (Or.inr rfl) | exact Or.inr (Or.inl rfl)))))) ax_nil))) ax_nil))))))))))))))))

/-! _law_leaf(tree): 0 tree -/
abbrev s_l_leaf : Stmt := topS 29
theorem sc_l_leaf : FnScope ["tree"] ["tree"] (defScope s_l_leaf) := ⟨rfl, rfl, rfl, by decide +kernel, rfl, by decide +kernel, by decide +kernel⟩
def b_l_leaf : Cmd :=
    (sRet (eOr (eOp gIs (bVar 0) (eC .non)) (eOr (eOp gNe (eCall gLen (aCons (bVar 0) aNil)) (eC (.int 4))) (eFn run_l_is_int (aCons (eOp gIx (bVar 0) (eC (.int 3))) aNil)))))
def run_l_leaf : List D → Option D := runC 1 0 b_l_leaf
theorem ok_l_leaf (B : Bs mg) (F : FunT K mg "_law_leaf" s_l_leaf) (c_l_is_int : FnT P w K mg base "_law_is_int" 1 1 run_l_is_int) : FnT P w K mg base "_law_leaf" 2 1 run_l_leaf :=
  fnt_mk (lv := 1) F sc_l_leaf rfl rfl (fun _ _ _ _ _ _ us hl => match us, hl with | [_], _ => rfl) (fun f cdv A outer s H E hr =>
    (ssx_one (sx_ret (ex_or (ex_cmp ois (bx_var (i := 0) rfl (Or.inl rfl)) (bx ex_non) (nomark _)) (ex_or (ex_cmp (one hr.units) (bx (ex_callB clen (by rfl) B.b_len PySem.boot_len (abx_cons (bx_var (i := 0) rfl (Or.inl rfl)) abx_nil))) (bx ex_int) (nomark _)) (ex_one (ex_fnT c_l_is_int hr (by decide) (by rfl) (ax_cons (ex_ix (bx_var (i := 0) rfl (Or.inl rfl)) (bx ex_int) (fun _ _ => rfl)) ax_nil))))))))

/-! _law_down(cloud, tree, vector, way, k, found): 0 cloud, 1 tree, 2 vector, 3 way, 4 k, 5 found, 6 axis, 7 value, 8 low, 9 high, 10 order, 11 looks, 12 gap, 13 more, 14 place -/
abbrev s_l_down : Stmt := topS 30
theorem sc_l_down : FnScope ["cloud", "tree", "vector", "way", "k", "found", "axis", "value", "low", "high", "order", "looks", "gap", "more", "place"] ["cloud", "tree", "vector", "way", "k", "found"] (defScope s_l_down) := ⟨rfl, rfl, rfl, by decide +kernel, rfl, by decide +kernel, by decide +kernel⟩
def b_l_down (rec : List D → Option D) : Cmd :=
    (sSeq (sIf (asB (eOp gIs (bVar 1) (eC .non)))
    (sRet (eTup (aCons (eVar 5) (aCons (eC (.int 0)) aNil))))
    sNop)
    (sSeq (sIf (asT (eFn run_l_leaf (aCons (eVar 1) aNil)))
    (sRet (eTup (aCons (eSl (asL (fCall gSortA (aCons (eOp gAdd (bVar 5) (asL (fLc [14] (iSeq (bVar 1)) (gNm 14) tYesF (eTup (aCons (eFn run_l_far (aCons (eVar 3) (aCons (eVar 2) (aCons (eOp gIx (bVar 0) (bVar 14)) aNil)))) (aCons (eVar 14) aNil)))))) aNil))) oNo (oYes (bVar 4))) (aCons (eCall gLen (aCons (bVar 1) aNil)) aNil))))
    sNop)
    (sSeq (sAsg (gTp (gsCons (gNm 6) (gsCons (gNm 7) (gsCons (gNm 8) (gsCons (gNm 9) gsNil))))) (eVar 1))
    (sSeq (sSet 10 (eLst (aCons (eTup (aCons (eVar 8) (aCons (eVar 7) aNil))) (aCons (eTup (aCons (eVar 9) (aCons (eOp gAdd (bVar 7) (eC (.int 1))) aNil))) aNil))))
    (sSeq (sIf (asB (eOp gGt (eOp gIx (bVar 2) (bVar 6)) (bVar 7)))
    (sSet 10 (eRev (bVar 10)))
    sNop)
    (sSeq (sAsg (gTp (gsCons (gNm 5) (gsCons (gNm 11) gsNil))) (eFn rec (aCons (eVar 0) (aCons (eOp gIx (eOp gIx (bVar 10) (eC (.int 0))) (eC (.int 0))) (aCons (eVar 2) (aCons (eVar 3) (aCons (eVar 4) (aCons (eVar 5) aNil))))))))
    (sSeq (sSet 12 (eCall gAbs (aCons (eOp gSub (eOp gIx (bVar 2) (bVar 6)) (eOp gIx (eOp gIx (bVar 10) (eC (.int 1))) (eC (.int 1)))) aNil)))
    (sSeq (sIf (asB (eOp gEq (bVar 3) (eC (.str (PySem.Str.ofString "air")))))
    (sSet 12 (eOp gMul (bVar 12) (bVar 12)))
    sNop)
    (sSeq (sIf (tAndF (asB (eOp gEq (eCall gLen (aCons (bVar 5) aNil)) (bVar 4))) (asB (eOp gGt (bVar 12) (eOp gIx (eOp gIx (bVar 5) (eOp gSub (bVar 4) (eC (.int 1)))) (eC (.int 0))))))
    (sRet (eTup (aCons (eVar 5) (aCons (eVar 11) aNil))))
    sNop)
    (sSeq (sAsg (gTp (gsCons (gNm 5) (gsCons (gNm 13) gsNil))) (eFn rec (aCons (eVar 0) (aCons (eOp gIx (eOp gIx (bVar 10) (eC (.int 1))) (eC (.int 0))) (aCons (eVar 2) (aCons (eVar 3) (aCons (eVar 4) (aCons (eVar 5) aNil))))))))
    (sRet (eTup (aCons (eVar 5) (aCons (eOp gAdd (bVar 11) (bVar 13)) aNil))))))))))))))
def run_l_down : Nat → List D → Option D
  | 0 => fun _ => none
  | fuel + 1 => runC 6 9 (b_l_down (run_l_down fuel))
theorem ok_l_down (B : Bs mg) (F : FunT K mg "_law_down" s_l_down) (c_l_leaf : FnT P w K mg base "_law_leaf" 2 1 run_l_leaf) (c_l_far : FnT P w K mg base "_law_far" 1 3 run_l_far) : ∀ fuel, FnT P w K mg base "_law_down" (2 + fuel) 6 (run_l_down fuel)
  | 0 => fnt_zero (ps := ["cloud", "tree", "vector", "way", "k", "found"]) F (fun _ _ _ _ _ _ us hl => match us, hl with | [_, _, _, _, _, _], _ => rfl)
  | fuel + 1 => have c_l_down := ok_l_down B F c_l_leaf c_l_far fuel
    fnt_mk (lv := 2 + fuel) F sc_l_down rfl rfl (fun _ _ _ _ _ _ us hl => match us, hl with | [_, _, _, _, _, _], _ => rfl) (fun f cdv A outer s H E hr =>
    (ssx_cons (sx_if (tx_cmp ois (bx_var (i := 1) rfl (Or.inl rfl)) (bx ex_non) (nomark _)) (ssx_one (sx_ret (ex_tup (ax_cons (ex_var (i := 5) rfl (Or.inl rfl)) (ax_cons ex_int ax_nil))))) ssx_nil) (ssx_cons (sx_if (tx_tru (bx (ex_fnT c_l_leaf hr (by omega) (by rfl) (ax_cons (ex_var (i := 1) rfl (Or.inl rfl)) ax_nil)))) (ssx_one (sx_ret (ex_tup (ax_cons (ex_sl (bx (ex_f (fx_callB (csortA (room65 hr)) (by rfl) B.b_sorted (by decide +kernel) (abx_cons (bx (ex_op oadd (bx_var (i := 5) rfl (Or.inl rfl)) (bx (ex_f (fx_lc (own := [("place", 14)]) rfl sc_l_down.nd (icx_seq (bx_var (i := 1) rfl (Or.inl rfl))) (blkOk_by (by kernel_rfl)) (by decide) (fun _ _ _ _ _ => (gx_nm (i := 14) sc_l_down.nd rfl (by first | exact Or.inl rfl | exact Or.inr rfl))) (fun _ _ _ _ _ => pts_no) (fun _ _ _ _ _ => (ex_tup (ax_cons (ex_fnT c_l_far hr (by omega) (by rfl) (ax_cons (ex_var (i := 3) rfl (by first | exact Or.inl rfl | exact Or.inr (Or.inr rfl) | exact Or.inr (Or.inl rfl))) (ax_cons (ex_var (i := 2) rfl (by first | exact Or.inl rfl | exact Or.inr (Or.inr rfl) | exact Or.inr (Or.inl rfl))) (ax_cons (ex_ix (bx_var (i := 0) rfl (by first | exact Or.inl rfl | exact Or.inr (Or.inr rfl) | exact Or.inr (Or.inl rfl))) (bx_var (i := 14) rfl (by first | exact Or.inl rfl | exact Or.inr (Or.inr rfl) | exact Or.inr (Or.inl rfl))) (fun _ _ => rfl)) ax_nil)))) (ax_cons (ex_var (i := 14) rfl (by first | exact Or.inl rfl | exact Or.inr (Or.inr rfl) | exact Or.inr (Or.inl rfl))) ax_nil))))))))) abx_nil)))) ox_no (ox_yes (bx_var (i := 4) rfl (Or.inl rfl)))) (ax_cons (ex_callB clen (by rfl) B.b_len PySem.boot_len (abx_cons (bx_var (i := 1) rfl (Or.inl rfl)) abx_nil)) ax_nil))))) ssx_nil) (ssx_cons (sx_asg (ex_var (i := 1) rfl (Or.inl rfl)) (gx_tp rfl (gsx_cons (gx_nm (i := 6) sc_l_down.nd rfl (Or.inl rfl)) (gsx_cons (gx_nm (i := 7) sc_l_down.nd rfl (Or.inl rfl)) (gsx_cons (gx_nm (i := 8) sc_l_down.nd rfl (Or.inl rfl)) (gsx_cons (gx_nm (i := 9) sc_l_down.nd rfl (Or.inl rfl)) gsx_nil)))) (gsl_cons (gsl_cons (gsl_cons (gsl_cons gsl_nil)))))) (ssx_cons (sx_set (i := 10) sc_l_down.nd rfl (Or.inl rfl) (ex_lst (ax_cons (ex_tup (ax_cons (ex_var (i := 8) rfl (Or.inl rfl)) (ax_cons (ex_var (i := 7) rfl (Or.inl rfl)) ax_nil))) (ax_cons (ex_tup (ax_cons (ex_var (i := 9) rfl (Or.inl rfl)) (ax_cons (ex_op oadd (bx_var (i := 7) rfl (Or.inl rfl)) (bx ex_int)) ax_nil))) ax_nil)))) (ssx_cons (sx_if (tx_cmp ogt (bx (ex_ix (bx_var (i := 2) rfl (Or.inr (Or.inl rfl))) (bx_var (i := 6) rfl (Or.inl rfl)) (fun _ _ => rfl))) (bx_var (i := 7) rfl (Or.inl rfl)) (nomark _)) (ssx_one (sx_set (i := 10) sc_l_down.nd rfl (Or.inl rfl) (ex_revL (bx_var (i := 10) rfl (Or.inl rfl))))) ssx_nil) (ssx_cons (sx_asg (ex_fnT c_l_down hr (by omega) (by rfl) (ax_cons (ex_var (i := 0) rfl (Or.inr (Or.inl rfl))) (ax_cons (ex_ix (bx (ex_ix (bx_var (i := 10) rfl (Or.inl rfl)) (bx ex_int) (fun _ _ => rfl))) (bx ex_int) (fun _ _ => rfl)) (ax_cons (ex_var (i := 2) rfl (Or.inr (Or.inl rfl))) (ax_cons (ex_var (i := 3) rfl (Or.inr (Or.inl rfl))) (ax_cons (ex_var (i := 4) rfl (Or.inl rfl)) (ax_cons (ex_var (i := 5) rfl (Or.inl rfl)) ax_nil))))))) (gx_tp rfl (gsx_cons (gx_nm (i := 5) sc_l_down.nd rfl (Or.inl rfl)) (gsx_cons (gx_nm (i := 11) sc_l_down.nd rfl (Or.inl rfl)) gsx_nil)) (gsl_cons (gsl_cons gsl_nil)))) (ssx_cons (sx_set (i := 12) sc_l_down.nd rfl (Or.inl rfl) (ex_callB cabs (by rfl) B.b_abs (by decide +kernel) (abx_cons (bx (ex_op osub (bx (ex_ix (bx_var (i := 2) rfl (Or.inr (Or.inl rfl))) (bx_var (i := 6) rfl (Or.inl rfl)) (fun _ _ => rfl))) (bx (ex_ix (bx (ex_ix (bx_var (i := 10) rfl (Or.inl rfl)) (bx ex_int) (fun _ _ => rfl))) (bx ex_int) (fun _ _ => rfl))))) abx_nil))) (ssx_cons (sx_if (tx_cmp (oeq hr.units) (bx_var (i := 3) rfl (Or.inr (Or.inl rfl))) (bx ex_str) (nomark _)) (ssx_one (sx_set (i := 12) sc_l_down.nd rfl (Or.inl rfl) (ex_op omul (bx_var (i := 12) rfl (Or.inl rfl)) (bx_var (i := 12) rfl (Or.inl rfl))))) ssx_nil) (ssx_cons (sx_if (PW.pt (wx_and (tx_cmp (oeq hr.units) (bx (ex_callB clen (by rfl) B.b_len PySem.boot_len (abx_cons (bx_var (i := 5) rfl (Or.inl rfl)) abx_nil))) (bx_var (i := 4) rfl (Or.inl rfl)) (nomark _)) (wx_and1 (tx_cmp ogt (bx_var (i := 12) rfl (Or.inl rfl)) (bx (ex_ix (bx (ex_ix (bx_var (i := 5) rfl (Or.inl rfl)) (bx (ex_op osub (bx_var (i := 4) rfl (Or.inl rfl)) (bx ex_int))) (fun _ _ => rfl))) (bx ex_int) (fun _ _ => rfl))) (nomark _))))) (ssx_one (sx_ret (ex_tup (ax_cons (ex_var (i := 5) rfl (Or.inl rfl)) (ax_cons (ex_var (i := 11) rfl (Or.inl rfl)) ax_nil))))) ssx_nil) (ssx_cons (sx_asg (ex_fnT c_l_down hr (by omega) (by rfl) (ax_cons (ex_var (i := 0) rfl (Or.inr (Or.inl rfl))) (ax_cons (ex_ix (bx (ex_ix (bx_var (i := 10) rfl (Or.inl rfl)) (bx ex_int) (fun _ _ => rfl))) (bx ex_int) (fun _ _ => rfl)) (ax_cons (ex_var (i := 2) rfl (Or.inr (Or.inl rfl))) (ax_cons (ex_var (i := 3) rfl (Or.inr (Or.inl rfl))) (ax_cons (ex_var (i := 4) rfl (Or.inl rfl)) (ax_cons (ex_var (i := 5) rfl (Or.inl rfl)) ax_nil))))))) (gx_tp rfl (gsx_cons (gx_nm (i := 5) sc_l_down.nd rfl (Or.inl rfl)) (gsx_cons (gx_nm (i := 13) sc_l_down.nd rfl (Or.inl rfl)) gsx_nil)) (gsl_cons (gsl_cons gsl_nil)))) (ssx_one (sx_ret (ex_tup (ax_cons (ex_var (i := 5) rfl (Or.inl rfl)) (ax_cons (ex_op oadd (bx_var (i := 11) rfl (Or.inl rfl)) (bx_var (i := 13) rfl (Or.inl rfl))) ax_nil))))))))))))))))

/-! _law_depth(tree): 0 tree -/
abbrev s_l_depth : Stmt := topS 31
theorem sc_l_depth : FnScope ["tree"] ["tree"] (defScope s_l_depth) := ⟨rfl, rfl, rfl, by decide +kernel, rfl, by decide +kernel, by decide +kernel⟩
def b_l_depth (rec : List D → Option D) : Cmd :=
    (sSeq (sIf (asT (eFn run_l_leaf (aCons (eVar 0) aNil)))
    (sRet (eC (.int 0)))
    sNop)
    (sRet (eOp gAdd (eC (.int 1)) (eCall gMax2 (aCons (eFn rec (aCons (eOp gIx (bVar 0) (eC (.int 2))) aNil)) (aCons (eFn rec (aCons (eOp gIx (bVar 0) (eC (.int 3))) aNil)) aNil))))))
def run_l_depth : Nat → List D → Option D
  | 0 => fun _ => none
  | fuel + 1 => runC 1 0 (b_l_depth (run_l_depth fuel))
theorem ok_l_depth (B : Bs mg) (F : FunT K mg "_law_depth" s_l_depth) (c_l_leaf : FnT P w K mg base "_law_leaf" 2 1 run_l_leaf) : ∀ fuel, FnT P w K mg base "_law_depth" (2 + fuel) 1 (run_l_depth fuel)
  | 0 => fnt_zero (ps := ["tree"]) F (fun _ _ _ _ _ _ us hl => match us, hl with | [_], _ => rfl)
  | fuel + 1 => have c_l_depth := ok_l_depth B F c_l_leaf fuel
    fnt_mk (lv := 2 + fuel) F sc_l_depth rfl rfl (fun _ _ _ _ _ _ us hl => match us, hl with | [_], _ => rfl) (fun f cdv A outer s H E hr =>
    (ssx_cons (sx_if (tx_tru (bx (ex_fnT c_l_leaf hr (by omega) (by rfl) (ax_cons (ex_var (i := 0) rfl (Or.inl rfl)) ax_nil)))) (ssx_one (sx_ret ex_int)) ssx_nil) (ssx_one (sx_ret (ex_op oadd (bx ex_int) (bx (ex_callB (cmax2 rfl) (by rfl) B.b_max (by decide +kernel) (abx_cons (bx (ex_fnT c_l_depth hr (by omega) (by rfl) (ax_cons (ex_ix (bx_var (i := 0) rfl (Or.inl rfl)) (bx ex_int) (fun _ _ => rfl)) ax_nil))) (abx_cons (bx (ex_fnT c_l_depth hr (by omega) (by rfl) (ax_cons (ex_ix (bx_var (i := 0) rfl (Or.inl rfl)) (bx ex_int) (fun _ _ => rfl)) ax_nil))) abx_nil)))))))))

/-! _law_ring(cloud, way, places): 0 cloud, 1 way, 2 places, 3 fars, 4 most, 5 inner, 6 outer, 7 place -/
abbrev s_l_ring : Stmt := topS 32
theorem sc_l_ring : FnScope ["cloud", "way", "places", "fars", "most", "inner", "outer", "place"] ["cloud", "way", "places"] (defScope s_l_ring) := ⟨rfl, rfl, rfl, by decide +kernel, rfl, by decide +kernel, by decide +kernel⟩
def b_l_ring (rec : List D → Option D) : Cmd :=
    (sSeq (sIf (asB (eOp gEq (eCall gLen (aCons (bVar 2) aNil)) (eC (.int 0))))
    (sRet (eC .non))
    sNop)
    (sSeq (sIf (asB (eOp gEq (eCall gLen (aCons (bVar 2) aNil)) (eC (.int 1))))
    (sRet (eOp gIx (bVar 2) (eC (.int 0))))
    sNop)
    (sSeq (sSet 3 (asL (fCall gSortA (aCons (asL (fLc [7] (iSeq (eSl (bVar 2) (oYes (eC (.int 1))) oNo)) (gNm 7) tYesF (eFn run_l_far (aCons (eVar 1) (aCons (eOp gIx (bVar 0) (eOp gIx (bVar 2) (eC (.int 0)))) (aCons (eOp gIx (bVar 0) (bVar 7)) aNil)))))) aNil))))
    (sSeq (sSet 4 (eOp gIx (bVar 3) (eOp gSub (eOp gDiv (eCall gLen (aCons (bVar 2) aNil)) (eC (.int 2))) (eC (.int 1)))))
    (sSeq (sSet 5 (asL (fLc [7] (iSeq (eSl (bVar 2) (oYes (eC (.int 1))) oNo)) (gNm 7) (asB (eOp gLe (eFn run_l_far (aCons (eVar 1) (aCons (eOp gIx (bVar 0) (eOp gIx (bVar 2) (eC (.int 0)))) (aCons (eOp gIx (bVar 0) (bVar 7)) aNil)))) (bVar 4))) (eVar 7))))
    (sSeq (sSet 6 (asL (fLc [7] (iSeq (eSl (bVar 2) (oYes (eC (.int 1))) oNo)) (gNm 7) (asB (eOp gNotIn (bVar 7) (bVar 5))) (eVar 7))))
    (sRet (eTup (aCons (eOp gIx (bVar 2) (eC (.int 0))) (aCons (eVar 4) (aCons (eFn rec (aCons (eVar 0) (aCons (eVar 1) (aCons (eVar 5) aNil)))) (aCons (eFn rec (aCons (eVar 0) (aCons (eVar 1) (aCons (eVar 6) aNil)))) aNil))))))))))))
def run_l_ring : Nat → List D → Option D
  | 0 => fun _ => none
  | fuel + 1 => runC 3 5 (b_l_ring (run_l_ring fuel))
theorem ok_l_ring (B : Bs mg) (F : FunT K mg "_law_ring" s_l_ring) (c_l_far : FnT P w K mg base "_law_far" 1 3 run_l_far) : ∀ fuel, FnT P w K mg base "_law_ring" (1 + fuel) 3 (run_l_ring fuel)
  | 0 => fnt_zero (ps := ["cloud", "way", "places"]) F (fun _ _ _ _ _ _ us hl => match us, hl with | [_, _, _], _ => rfl)
  | fuel + 1 => have c_l_ring := ok_l_ring B F c_l_far fuel
    fnt_mk (lv := 1 + fuel) F sc_l_ring rfl rfl (fun _ _ _ _ _ _ us hl => match us, hl with | [_, _, _], _ => rfl) (fun f cdv A outer s H E hr =>
    (ssx_cons (sx_if (tx_cmp (oeq hr.units) (bx (ex_callB clen (by rfl) B.b_len PySem.boot_len (abx_cons (bx_var (i := 2) rfl (Or.inr (Or.inl rfl))) abx_nil))) (bx ex_int) (nomark _)) (ssx_one (sx_ret ex_non)) ssx_nil) (ssx_cons (sx_if (tx_cmp (oeq hr.units) (bx (ex_callB clen (by rfl) B.b_len PySem.boot_len (abx_cons (bx_var (i := 2) rfl (Or.inr (Or.inl rfl))) abx_nil))) (bx ex_int) (nomark _)) (ssx_one (sx_ret (ex_ix (bx_var (i := 2) rfl (Or.inr (Or.inl rfl))) (bx ex_int) (fun _ _ => rfl)))) ssx_nil) (ssx_cons (sx_set (i := 3) sc_l_ring.nd rfl (Or.inl rfl) (ex_f (fx_callB (csortA (room65 hr)) (by rfl) B.b_sorted (by decide +kernel) (abx_cons (bx (ex_f (fx_lc (own := [("place", 7)]) rfl sc_l_ring.nd (icx_seq (bx (ex_sl (bx_var (i := 2) rfl (Or.inr (Or.inl rfl))) (ox_yes (bx ex_int)) ox_no))) (blkOk_by (by kernel_rfl)) (by decide) (fun _ _ _ _ _ => (gx_nm (i := 7) sc_l_ring.nd rfl (by first | exact Or.inl rfl | exact Or.inr rfl))) (fun _ _ _ _ _ => pts_no) (fun _ _ _ _ _ => (ex_fnT c_l_far hr (by omega) (by rfl) (ax_cons (ex_var (i := 1) rfl (by first | exact Or.inl rfl | exact Or.inr (Or.inr rfl) | exact Or.inr (Or.inl rfl))) (ax_cons (ex_ix (bx_var (i := 0) rfl (by first | exact Or.inl rfl | exact Or.inr (Or.inr rfl) | exact Or.inr (Or.inl rfl))) (bx (ex_ix (bx_var (i := 2) rfl (by first | exact Or.inl rfl | exact Or.inr (Or.inr rfl) | exact Or.inr (Or.inl rfl))) (bx ex_int) (fun _ _ => rfl))) (fun _ _ => rfl)) (ax_cons (ex_ix (bx_var (i := 0) rfl (by first | exact Or.inl rfl | exact Or.inr (Or.inr rfl) | exact Or.inr (Or.inl rfl))) (bx_var (i := 7) rfl (by first | exact Or.inl rfl | exact Or.inr (Or.inr rfl) | exact Or.inr (Or.inl rfl))) (fun _ _ => rfl)) ax_nil)))))))) abx_nil)))) (ssx_cons (sx_set (i := 4) sc_l_ring.nd rfl (Or.inr rfl) (ex_ix (bx_var (i := 3) rfl (Or.inl rfl)) (bx (ex_op osub (bx (ex_op odiv (bx (ex_callB clen (by rfl) B.b_len PySem.boot_len (abx_cons (bx_var (i := 2) rfl (Or.inr (Or.inl rfl))) abx_nil))) (bx ex_int))) (bx ex_int))) (fun _ _ => rfl))) (ssx_cons (sx_set (i := 5) sc_l_ring.nd rfl (Or.inr rfl) (ex_f (fx_lc (own := [("place", 7)]) rfl sc_l_ring.nd (icx_seq (bx (ex_sl (bx_var (i := 2) rfl (Or.inr (Or.inl rfl))) (ox_yes (bx ex_int)) ox_no))) (blkOk_by (by kernel_rfl)) (by decide) (fun _ _ _ _ _ => (gx_nm (i := 7) sc_l_ring.nd rfl (by first | exact Or.inl rfl | exact Or.inr rfl))) (fun _ _ _ _ _ => (pts_if (tx_cmp ole (bx (ex_fnT c_l_far hr (by omega) (by rfl) (ax_cons (ex_var (i := 1) rfl (by first | exact Or.inl rfl | exact Or.inr (Or.inr rfl) | exact Or.inr (Or.inl rfl))) (ax_cons (ex_ix (bx_var (i := 0) rfl (by first | exact Or.inl rfl | exact Or.inr (Or.inr rfl) | exact Or.inr (Or.inl rfl))) (bx (ex_ix (bx_var (i := 2) rfl (by first | exact Or.inl rfl | exact Or.inr (Or.inr rfl) | exact Or.inr (Or.inl rfl))) (bx ex_int) (fun _ _ => rfl))) (fun _ _ => rfl)) (ax_cons (ex_ix (bx_var (i := 0) rfl (by first | exact Or.inl rfl | exact Or.inr (Or.inr rfl) | exact Or.inr (Or.inl rfl))) (bx_var (i := 7) rfl (by first | exact Or.inl rfl | exact Or.inr (Or.inr rfl) | exact Or.inr (Or.inl rfl))) (fun _ _ => rfl)) ax_nil))))) (bx_var (i := 4) rfl (by first | exact Or.inl rfl | exact Or.inr (Or.inr rfl) | exact Or.inr (Or.inl rfl))) (nomark _)))) (fun _ _ _ _ _ => (ex_var (i := 7) rfl (by first | exact Or.inl rfl | exact Or.inr (Or.inr rfl) | exact Or.inr (Or.inl rfl))))))) (ssx_cons (sx_setLc (i := 6) (own := [("place", 7)]) rfl sc_l_ring.nd rfl rfl (sw_true rfl rfl rfl (by decide +kernel)) (icx_seq (bx (ex_sl (bx_var (i := 2) rfl (Or.inr (Or.inl rfl))) (ox_yes (bx ex_int)) ox_no))) (blkOk_by (by kernel_rfl)) (by decide) (fun _ _ _ _ _ => (gx_nm (i := 7) sc_l_ring.nd rfl (by first | exact Or.inl rfl | exact Or.inr rfl))) (fun _ _ _ _ _ => (pts_if (tx_cmp (onotin (room65 hr)) (bx_var (i := 7) rfl (by first | exact Or.inl rfl | exact Or.inr (Or.inr rfl) | exact Or.inr (Or.inl rfl))) (bx_var (i := 5) rfl (by first | exact Or.inl rfl | exact Or.inr (Or.inr rfl) | exact Or.inr (Or.inl rfl))) (by rfl)))) (fun _ _ _ _ _ => (ex_var (i := 7) rfl (by first | exact Or.inl rfl | exact Or.inr (Or.inr rfl) | exact Or.inr (Or.inl rfl))))) (ssx_one (sx_ret (ex_tup (ax_cons (ex_ix (bx_var (i := 2) rfl (Or.inr (Or.inl rfl))) (bx ex_int) (fun _ _ => rfl)) (ax_cons (ex_var (i := 4) rfl (Or.inr (Or.inl rfl))) (ax_cons (ex_fnT c_l_ring hr (by omega) (by rfl) (ax_cons (ex_var (i := 0) rfl (Or.inr (Or.inl rfl))) (ax_cons (ex_var (i := 1) rfl (Or.inr (Or.inl rfl))) (ax_cons (ex_var (i := 5) rfl (Or.inr (Or.inl rfl))) ax_nil)))) (ax_cons (ex_fnT c_l_ring hr (by omega) (by rfl) (ax_cons (ex_var (i := 0) rfl (Or.inr (Or.inl rfl))) (ax_cons (ex_var (i := 1) rfl (Or.inr (Or.inl rfl))) (ax_cons (ex_var (i := 6) rfl (Or.inl rfl)) ax_nil)))) ax_nil))))))))))))))

/-! _law_in(cloud, tree, vector, way, k, found): 0 cloud, 1 tree, 2 vector, 3 way, 4 k, 5 found, 6 place, 7 most, 8 inner, 9 outer, 10 far_v, 11 looks, 12 side, 13 gap, 14 more -/
abbrev s_l_in : Stmt := topS 33
theorem sc_l_in : FnScope ["cloud", "tree", "vector", "way", "k", "found", "place", "most", "inner", "outer", "far_v", "looks", "side", "gap", "more"] ["cloud", "tree", "vector", "way", "k", "found"] (defScope s_l_in) := ⟨rfl, rfl, rfl, by decide +kernel, rfl, by decide +kernel, by decide +kernel⟩
def b_l_in (rec : List D → Option D) : Cmd :=
    (sSeq (sIf (asB (eOp gIs (bVar 1) (eC .non)))
    (sRet (eTup (aCons (eVar 5) (aCons (eC (.int 0)) aNil))))
    sNop)
    (sSeq (sIf (asT (eFn run_l_is_int (aCons (eVar 1) aNil)))
    (sRet (eTup (aCons (eSl (asL (fCall gSortA (aCons (eOp gAdd (bVar 5) (eLst (aCons (eTup (aCons (eFn run_l_far (aCons (eVar 3) (aCons (eVar 2) (aCons (eOp gIx (bVar 0) (bVar 1)) aNil)))) (aCons (eVar 1) aNil))) aNil))) aNil))) oNo (oYes (bVar 4))) (aCons (eC (.int 1)) aNil))))
    sNop)
    (sSeq (sAsg (gTp (gsCons (gNm 6) (gsCons (gNm 7) (gsCons (gNm 8) (gsCons (gNm 9) gsNil))))) (eVar 1))
    (sSeq (sSet 10 (eFn run_l_far (aCons (eVar 3) (aCons (eVar 2) (aCons (eOp gIx (bVar 0) (bVar 6)) aNil)))))
    (sSeq (sParN 5 11 (vN (eSl (asL (fCall gSortA (aCons (eOp gAdd (bVar 5) (eLst (aCons (eTup (aCons (eVar 10) (aCons (eVar 6) aNil))) aNil))) aNil))) oNo (oYes (bVar 4)))) (vN (eC (.int 1))))
    (sSeq (sFor (iSeq (eOp gIx (eTup (aCons (eTup (aCons (eC (.int 0)) (aCons (eC (.int 1)) aNil))) (aCons (eTup (aCons (eC (.int 1)) (aCons (eC (.int 0)) aNil))) aNil))) (eCall gInt (aCons (eOp gGt (bVar 10) (bVar 7)) aNil)))) (gNm 12)
    (sSeq (sSet 13 (eOp gIx (eTup (aCons (eOp gSub (bVar 10) (bVar 7)) (aCons (eOp gSub (eOp gAdd (bVar 7) (eC (.int 1))) (bVar 10)) aNil))) (bVar 12)))
    (sIf (tOrF (asB (eOp gLt (eCall gLen (aCons (bVar 5) aNil)) (bVar 4))) (asB (eOp gLe (bVar 13) (eOp gIx (eOp gIx (bVar 5) (eOp gSub (bVar 4) (eC (.int 1)))) (eC (.int 0))))))
    (sSeq (sAsg (gTp (gsCons (gNm 5) (gsCons (gNm 14) gsNil))) (eFn rec (aCons (eVar 0) (aCons (eOp gIx (eTup (aCons (eVar 8) (aCons (eVar 9) aNil))) (bVar 12)) (aCons (eVar 2) (aCons (eVar 3) (aCons (eVar 4) (aCons (eVar 5) aNil))))))))
    (sSet 11 (eOp gAdd (bVar 11) (bVar 14))))
    sNop)))
    (sRet (eTup (aCons (eVar 5) (aCons (eVar 11) aNil))))))))))
def run_l_in : Nat → List D → Option D
  | 0 => fun _ => none
  | fuel + 1 => runC 6 9 (b_l_in (run_l_in fuel))
theorem ok_l_in (B : Bs mg) (F : FunT K mg "_law_in" s_l_in) (c_l_far : FnT P w K mg base "_law_far" 1 3 run_l_far) (c_l_is_int : FnT P w K mg base "_law_is_int" 1 1 run_l_is_int) : ∀ fuel, FnT P w K mg base "_law_in" (1 + fuel) 6 (run_l_in fuel)
  | 0 => fnt_zero (ps := ["cloud", "tree", "vector", "way", "k", "found"]) F (fun _ _ _ _ _ _ us hl => match us, hl with | [_, _, _, _, _, _], _ => rfl)
  | fuel + 1 => have c_l_in := ok_l_in B F c_l_far c_l_is_int fuel
    fnt_mk (lv := 1 + fuel) F sc_l_in rfl rfl (fun _ _ _ _ _ _ us hl => match us, hl with | [_, _, _, _, _, _], _ => rfl) (fun f cdv A outer s H E hr =>
    (ssx_cons (sx_if (tx_cmp ois (bx_var (i := 1) rfl (Or.inl rfl)) (bx ex_non) (nomark _)) (ssx_one (sx_ret (ex_tup (ax_cons (ex_var (i := 5) rfl (Or.inl rfl)) (ax_cons ex_int ax_nil))))) ssx_nil) (ssx_cons (sx_if (tx_tru (bx (ex_fnT c_l_is_int hr (by omega) (by rfl) (ax_cons (ex_var (i := 1) rfl (Or.inl rfl)) ax_nil)))) (ssx_one (sx_ret (ex_tup (ax_cons (ex_sl (bx (ex_f (fx_callB (csortA (room65 hr)) (by rfl) B.b_sorted (by decide +kernel) (abx_cons (bx (ex_op oadd (bx_var (i := 5) rfl (Or.inl rfl)) (bx (ex_lst (ax_cons (ex_tup (ax_cons (ex_fnT c_l_far hr (by omega) (by rfl) (ax_cons (ex_var (i := 3) rfl (Or.inl rfl)) (ax_cons (ex_var (i := 2) rfl (Or.inl rfl)) (ax_cons (ex_ix (bx_var (i := 0) rfl (Or.inl rfl)) (bx_var (i := 1) rfl (Or.inl rfl)) (fun _ _ => rfl)) ax_nil)))) (ax_cons (ex_var (i := 1) rfl (Or.inl rfl)) ax_nil))) ax_nil))))) abx_nil)))) ox_no (ox_yes (bx_var (i := 4) rfl (Or.inl rfl)))) (ax_cons ex_int ax_nil))))) ssx_nil) (ssx_cons (sx_asg (ex_var (i := 1) rfl (Or.inl rfl)) (gx_tp rfl (gsx_cons (gx_nm (i := 6) sc_l_in.nd rfl (Or.inl rfl)) (gsx_cons (gx_nm (i := 7) sc_l_in.nd rfl (Or.inl rfl)) (gsx_cons (gx_nm (i := 8) sc_l_in.nd rfl (Or.inl rfl)) (gsx_cons (gx_nm (i := 9) sc_l_in.nd rfl (Or.inl rfl)) gsx_nil)))) (gsl_cons (gsl_cons (gsl_cons (gsl_cons gsl_nil)))))) (ssx_cons (sx_set (i := 10) sc_l_in.nd rfl (Or.inl rfl) (ex_fnT c_l_far hr (by omega) (by rfl) (ax_cons (ex_var (i := 3) rfl (Or.inl rfl)) (ax_cons (ex_var (i := 2) rfl (Or.inl rfl)) (ax_cons (ex_ix (bx_var (i := 0) rfl (Or.inl rfl)) (bx_var (i := 6) rfl (Or.inl rfl)) (fun _ _ => rfl)) ax_nil))))) (ssx_cons (sx_parN (i := 5) (j := 11) rfl sc_l_in.nd rfl rfl (by decide) rfl rfl (nx_v (ex_sl (bx (ex_f (fx_callB (csortA (room65 hr)) (by rfl) B.b_sorted (by decide +kernel) (abx_cons (bx (ex_op oadd (bx_var (i := 5) rfl (Or.inl rfl)) (bx (ex_lst (ax_cons (ex_tup (ax_cons (ex_var (i := 10) rfl (Or.inl rfl)) (ax_cons (ex_var (i := 6) rfl (Or.inl rfl)) ax_nil))) ax_nil))))) abx_nil)))) ox_no (ox_yes (bx_var (i := 4) rfl (Or.inl rfl))))) (nx_v ex_int) (by rfl)) (ssx_cons (sx_for PassesOwn.never rfl (ilx_seq (ex_ix (bx (ex_tup (ax_cons (ex_tup (ax_cons ex_int (ax_cons ex_int ax_nil))) (ax_cons (ex_tup (ax_cons ex_int (ax_cons ex_int ax_nil))) ax_nil)))) (bx (ex_callTy cint (by rfl) B.b_int (by decide +kernel) (abx_cons (bx (ex_cmp ogt (bx_var (i := 10) rfl (Or.inl rfl)) (bx_var (i := 7) rfl (Or.inl rfl)) (nomark _))) abx_nil))) (fun _ _ => rfl))) (gx_nm (i := 12) sc_l_in.nd rfl (Or.inl rfl)) (ssx_cons (sx_set (i := 13) sc_l_in.nd rfl (Or.inl rfl) (ex_ix (bx (ex_tup (ax_cons (ex_op osub (bx_var (i := 10) rfl (Or.inl rfl)) (bx_var (i := 7) rfl (Or.inl rfl))) (ax_cons (ex_op osub (bx (ex_op oadd (bx_var (i := 7) rfl (Or.inl rfl)) (bx ex_int))) (bx_var (i := 10) rfl (Or.inl rfl))) ax_nil)))) (bx_var (i := 12) rfl (Or.inl rfl)) (fun _ _ => rfl))) (ssx_one (sx_if (PW.pt (wx_or (tx_cmp olt (bx (ex_callB clen (by rfl) B.b_len PySem.boot_len (abx_cons (bx_var (i := 5) rfl (Or.inl rfl)) abx_nil))) (bx_var (i := 4) rfl (Or.inl rfl)) (nomark _)) (wx_or1 (tx_cmp ole (bx_var (i := 13) rfl (Or.inl rfl)) (bx (ex_ix (bx (ex_ix (bx_var (i := 5) rfl (Or.inl rfl)) (bx (ex_op osub (bx_var (i := 4) rfl (Or.inl rfl)) (bx ex_int))) (fun _ _ => rfl))) (bx ex_int) (fun _ _ => rfl))) (nomark _))))) (ssx_cons (sx_asg (ex_fnT c_l_in hr (by omega) (by rfl) (ax_cons (ex_var (i := 0) rfl (Or.inl rfl)) (ax_cons (ex_ix (bx (ex_tup (ax_cons (ex_var (i := 8) rfl (Or.inl rfl)) (ax_cons (ex_var (i := 9) rfl (Or.inl rfl)) ax_nil)))) (bx_var (i := 12) rfl (Or.inl rfl)) (fun _ _ => rfl)) (ax_cons (ex_var (i := 2) rfl (Or.inl rfl)) (ax_cons (ex_var (i := 3) rfl (Or.inl rfl)) (ax_cons (ex_var (i := 4) rfl (Or.inl rfl)) (ax_cons (ex_var (i := 5) rfl (Or.inl rfl)) ax_nil))))))) (gx_tp rfl (gsx_cons (gx_nm (i := 5) sc_l_in.nd rfl (Or.inl rfl)) (gsx_cons (gx_nm (i := 14) sc_l_in.nd rfl (Or.inl rfl)) gsx_nil)) (gsl_cons (gsl_cons gsl_nil)))) (ssx_one (sx_set (i := 11) sc_l_in.nd rfl (Or.inl rfl) (ex_op oadd (bx_var (i := 11) rfl (Or.inl rfl)) (bx_var (i := 14) rfl (Or.inl rfl)))))) ssx_nil)))) (ssx_one (sx_ret (ex_tup (ax_cons (ex_var (i := 5) rfl (Or.inl rfl)) (ax_cons (ex_var (i := 11) rfl (Or.inl rfl)) ax_nil))))))))))))

/-! law(script): 0 script, 1 row, 2 n, 3 cloud, 4 vector, 5 k, 6 tree, 7 shelf, 8 way, 9 due, 10 looks, 11 rings, 12 j -/
abbrev s_law : Stmt := topS 34
theorem sc_law : FnScope ["script", "row", "n", "cloud", "vector", "k", "tree", "shelf", "way", "due", "looks", "rings", "j"] ["script"] (defScope s_law) := ⟨rfl, rfl, rfl, by decide +kernel, rfl, by decide +kernel, by decide +kernel⟩
def b_law : Cmd :=
    (sSeq (sSet 1 (eFn run_l_row (aCons (eVar 0) (aCons (eC (.int 60)) aNil))))
    (sSeq (sSet 2 (eOp gAdd (eC (.int 1)) (eOp gMod (eCall gInt (aCons (eOp gIx (bVar 1) (eC (.int 1))) aNil)) (eC (.int 3)))))
    (sSeq (sSet 3 (eFn run_l_cloud (aCons (eVar 1) (aCons (eC (.int 2)) (aCons (eC (.int 12)) (aCons (eVar 2) (aCons (eOp gIx (eTup (aCons (eC (.int 3)) (aCons (eC (.int 12)) aNil))) (eOp gMod (eCall gInt (aCons (eOp gIx (bVar 1) (eC (.int 0))) aNil)) (eC (.int 2)))) aNil)))))))
    (sSeq (sSet 4 (eCall gTuple (aCons (asL (fLc [12] (iRg1 (aCons (bVar 2) aNil)) (gNm 12) tYesF (eOp gSub (eOp gMod (eCall gInt (aCons (eOp gIx (bVar 1) (eOp gAdd (eC (.int 50)) (bVar 12))) aNil)) (eC (.int 31))) (eC (.int 15))))) aNil)))
    (sSeq (sSet 5 (eOp gAdd (eC (.int 1)) (eOp gMod (eCall gInt (aCons (eOp gIx (bVar 1) (eC (.int 53))) aNil)) (eC (.int 4)))))
    (sSeq (sSet 6 (eFn (run_l_split 14) (aCons (eVar 3) (aCons (asL (iRg1' (eCall gLen (aCons (bVar 3) aNil)))) aNil))))
    (sSeq (sIf (tOrF (tNotF (asT (eFn (run_l_like 18) (aCons (eFn run_split_tree (aCons (eVar 3) aNil)) (aCons (eVar 6) aNil))))) (tNotF (asT (eFn (run_l_like 18) (aCons (eFn (run_split_depth 14) (aCons (eVar 6) aNil)) (aCons (eFn (run_l_depth 14) (aCons (eVar 6) aNil)) aNil))))))
    (sRet (eC (.bl false)))
    sNop)
    (sSeq (sSet 7 (eCall gTuple (aCons (asL (fLc [12] (iRg1 (aCons (eCall gLen (aCons (bVar 3) aNil)) aNil)) (gNm 12) tYesF (eTup (aCons (eVar 12) (aCons (eOp gIx (bVar 3) (bVar 12)) (aCons (eC (.int 0)) aNil)))))) aNil)))
    (sSeq (sFor (iSeq (eTup (aCons (eC (.str (PySem.Str.ofString "steps"))) (aCons (eC (.str (PySem.Str.ofString "air"))) (aCons (eC (.str (PySem.Str.ofString "widest"))) aNil))))) (gNm 8)
    (sSeq (sSet 9 (eCall gTuple (aCons (eSl (asL (fCall gSortA (aCons (asL (fLc [12] (iRg1 (aCons (eCall gLen (aCons (bVar 3) aNil)) aNil)) (gNm 12) tYesF (eTup (aCons (eFn run_l_far (aCons (eVar 8) (aCons (eVar 4) (aCons (eOp gIx (bVar 3) (bVar 12)) aNil)))) (aCons (eVar 12) aNil))))) aNil))) oNo (oYes (bVar 5))) aNil)))
    (sSeq (sSet 10 (eFn (run_l_down 14) (aCons (eVar 3) (aCons (eVar 6) (aCons (eVar 4) (aCons (eVar 8) (aCons (eVar 5) (aCons (eLst aNil) aNil))))))))
    (sSeq (sIf (tOrF (asB (eOp gNe (eCall gTuple (aCons (eOp gIx (bVar 10) (eC (.int 0))) aNil)) (bVar 9))) (tOrF (asB (eOp gGt (eOp gIx (bVar 10) (eC (.int 1))) (eCall gLen (aCons (bVar 3) aNil)))) (tNotF (asT (eFn (run_l_like 18) (aCons (eFn run_tree_nearest (aCons (eVar 3) (aCons (eVar 4) (aCons (eVar 8) (aCons (eVar 5) aNil))))) (aCons (eTup (aCons (eVar 9) (aCons (eOp gIx (bVar 10) (eC (.int 1))) aNil))) aNil)))))))
    (sRet (eC (.bl false)))
    sNop)
    (sIf (asB (eOp gNe (eFn run_nearest (aCons (eVar 7) (aCons (eVar 4) (aCons (eVar 8) (aCons (eVar 5) aNil))))) (bVar 9)))
    (sRet (eC (.bl false)))
    sNop)))))
    (sSeq (sSet 8 (eOp gIx (eTup (aCons (eC (.str (PySem.Str.ofString "steps"))) (aCons (eC (.str (PySem.Str.ofString "widest"))) (aCons (eC (.str (PySem.Str.ofString "unlike"))) (aCons (eTup (aCons (eC (.str (PySem.Str.ofString "weights"))) (aCons (eSl (eTup (aCons (eC (.int 2)) (aCons (eC (.int 1)) (aCons (eC (.int 3)) aNil)))) oNo (oYes (bVar 2))) aNil))) aNil))))) (eOp gMod (eCall gInt (aCons (eOp gIx (bVar 1) (eC (.int 54))) aNil)) (eC (.int 4)))))
    (sSeq (sSet 11 (eFn (run_l_ring 14) (aCons (eVar 3) (aCons (eVar 8) (aCons (asL (iRg1' (eCall gLen (aCons (bVar 3) aNil)))) aNil)))))
    (sSeq (sSet 9 (eCall gTuple (aCons (eSl (asL (fCall gSortA (aCons (asL (fLc [12] (iRg1 (aCons (eCall gLen (aCons (bVar 3) aNil)) aNil)) (gNm 12) tYesF (eTup (aCons (eFn run_l_far (aCons (eVar 8) (aCons (eVar 4) (aCons (eOp gIx (bVar 3) (bVar 12)) aNil)))) (aCons (eVar 12) aNil))))) aNil))) oNo (oYes (bVar 5))) aNil)))
    (sSeq (sSet 10 (eFn (run_l_in 14) (aCons (eVar 3) (aCons (eVar 11) (aCons (eVar 4) (aCons (eVar 8) (aCons (eVar 5) (aCons (eLst aNil) aNil))))))))
    (sSeq (sIf (tOrF (tNotF (asT (eFn (run_l_like 18) (aCons (eFn run_ring_tree (aCons (eVar 3) (aCons (eVar 8) aNil))) (aCons (eVar 11) aNil))))) (asB (eOp gNe (eCall gTuple (aCons (eOp gIx (bVar 10) (eC (.int 0))) aNil)) (bVar 9))))
    (sRet (eC (.bl false)))
    sNop)
    (sRet (eFn (run_l_like 18) (aCons (eFn run_ring_nearest (aCons (eVar 3) (aCons (eVar 4) (aCons (eVar 8) (aCons (eVar 5) aNil))))) (aCons (eTup (aCons (eVar 9) (aCons (eOp gIx (bVar 10) (eC (.int 1))) aNil))) aNil))))))))))))))))))
def run_law : List D → Option D := runC 1 12 b_law
theorem okf_law (B : Bs mg) {f : Addr} {fd : FuncData} (F : Fun K "law" "law" s_law f fd) (c_l_like : FnT P w K mg base "_law_like" 19 2 (run_l_like 18)) (c_ring_nearest : FnT P w K mg base "ring_nearest" 17 4 run_ring_nearest) (c_ring_tree : FnT P w K mg base "ring_tree" 16 2 run_ring_tree) (c_l_in : FnT P w K mg base "_law_in" 15 6 (run_l_in 14)) (c_l_far : FnT P w K mg base "_law_far" 1 3 run_l_far) (c_l_ring : FnT P w K mg base "_law_ring" 15 3 (run_l_ring 14)) (c_nearest : FnT P w K mg base "nearest" 3 4 run_nearest) (c_tree_nearest : FnT P w K mg base "tree_nearest" 17 4 run_tree_nearest) (c_l_down : FnT P w K mg base "_law_down" 16 6 (run_l_down 14)) (c_split_tree : FnT P w K mg base "split_tree" 16 1 run_split_tree) (c_l_depth : FnT P w K mg base "_law_depth" 16 1 (run_l_depth 14)) (c_split_depth : FnT P w K mg base "split_depth" 15 1 (run_split_depth 14)) (c_l_split : FnT P w K mg base "_law_split" 14 2 (run_l_split 14)) (c_l_cloud : FnT P w K mg base "_law_cloud" 1 5 run_l_cloud) (c_l_row : FnT P w K mg base "_law_row" 2 2 run_l_row) : FnOk P w K mg base CX0 20 f fd ["script"] (spD K run_law 1) :=
  fn_ok (lv := 19) F sc_law rfl rfl (fun cdv A outer s H E hr =>
    (ssx_cons (sx_set (i := 1) sc_law.nd rfl (Or.inr rfl) (ex_fnT c_l_row hr (by decide) (by rfl) (ax_cons (ex_var (i := 0) rfl (Or.inl rfl)) (ax_cons ex_int ax_nil)))) (ssx_cons (sx_set (i := 2) sc_law.nd rfl (Or.inl rfl) (ex_op oadd (bx ex_int) (bx (ex_op omod (bx (ex_callTy cint (by rfl) B.b_int (by decide +kernel) (abx_cons (bx (ex_ix (bx_var (i := 1) rfl (Or.inr (Or.inl rfl))) (bx ex_int) (fun _ _ => rfl))) abx_nil))) (bx ex_int))))) (ssx_cons (sx_set (i := 3) sc_law.nd rfl (Or.inr rfl) (ex_fnT c_l_cloud hr (by decide) (by rfl) (ax_cons (ex_var (i := 1) rfl (Or.inr (Or.inl rfl))) (ax_cons ex_int (ax_cons ex_int (ax_cons (ex_var (i := 2) rfl (Or.inl rfl)) (ax_cons (ex_ix (bx (ex_tup (ax_cons ex_int (ax_cons ex_int ax_nil)))) (bx (ex_op omod (bx (ex_callTy cint (by rfl) B.b_int (by decide +kernel) (abx_cons (bx (ex_ix (bx_var (i := 1) rfl (Or.inr (Or.inl rfl))) (bx ex_int) (fun _ _ => rfl))) abx_nil))) (bx ex_int))) (fun _ _ => rfl)) ax_nil))))))) (ssx_cons (sx_set (i := 4) sc_law.nd rfl (Or.inr rfl) (ex_callTy ctuple (by rfl) B.b_tuple (by decide +kernel) (abx_cons (bx (ex_f (fx_lc (own := [("j", 12)]) rfl sc_law.nd (ilx_c (ilx_rg1 (by rfl) B.b_range (abx_cons (bx_var (i := 2) rfl (Or.inl rfl)) abx_nil))) (blkOk_by (by kernel_rfl)) (by decide) (fun _ _ _ _ _ => (gx_nm (i := 12) sc_law.nd rfl (by first | exact Or.inl rfl | exact Or.inr rfl))) (fun _ _ _ _ _ => pts_no) (fun _ _ _ _ _ => (ex_op osub (bx (ex_op omod (bx (ex_callTy cint (by rfl) B.b_int (by decide +kernel) (abx_cons (bx (ex_ix (bx_var (i := 1) rfl (by first | exact Or.inl rfl | exact Or.inr (Or.inr rfl) | exact Or.inr (Or.inl rfl))) (bx (ex_op oadd (bx ex_int) (bx_var (i := 12) rfl (by first | exact Or.inl rfl | exact Or.inr (Or.inr rfl) | exact Or.inr (Or.inl rfl))))) (fun _ _ => rfl))) abx_nil))) (bx ex_int))) (bx ex_int)))))) abx_nil))) (ssx_cons (sx_set (i := 5) sc_law.nd rfl (Or.inl rfl) (ex_op oadd (bx ex_int) (bx (ex_op omod (bx (ex_callTy cint (by rfl) B.b_int (by decide +kernel) (abx_cons (bx (ex_ix (bx_var (i := 1) rfl (Or.inr (Or.inl rfl))) (bx ex_int) (fun _ _ => rfl))) abx_nil))) (bx ex_int))))) (ssx_cons (sx_set (i := 6) sc_law.nd rfl (Or.inl rfl) (ex_fnT c_l_split hr (by decide) (by rfl) (ax_cons (ex_var (i := 3) rfl (Or.inr (Or.inl rfl))) (ax_cons (ex_f (fx_lrg1 rfl (by rfl) B.b_list (by rfl) B.b_range (bx (ex_callB clen (by rfl) B.b_len PySem.boot_len (abx_cons (bx_var (i := 3) rfl (Or.inr (Or.inl rfl))) abx_nil))))) ax_nil)))) (ssx_cons (sx_if (PW.pt (wx_or (tx_not (tx_tru (bx (ex_fnT c_l_like hr (by decide) (by rfl) (ax_cons (ex_fnT c_split_tree hr (by decide) (by rfl) (ax_cons (ex_var (i := 3) rfl (Or.inr (Or.inl rfl))) ax_nil)) (ax_cons (ex_var (i := 6) rfl (Or.inl rfl)) ax_nil)))))) (wx_or1 (tx_not (tx_tru (bx (ex_fnT c_l_like hr (by decide) (by rfl) (ax_cons (ex_fnT c_split_depth hr (by decide) (by rfl) (ax_cons (ex_var (i := 6) rfl (Or.inl rfl)) ax_nil)) (ax_cons (ex_fnT c_l_depth hr (by decide) (by rfl) (ax_cons (ex_var (i := 6) rfl (Or.inl rfl)) ax_nil)) ax_nil))))))))) (ssx_one (sx_ret ex_bl)) ssx_nil) (ssx_cons (sx_set (i := 7) sc_law.nd rfl (Or.inl rfl) (ex_callTy ctuple (by rfl) B.b_tuple (by decide +kernel) (abx_cons (bx (ex_f (fx_lc (own := [("j", 12)]) rfl sc_law.nd (ilx_c (ilx_rg1 (by rfl) B.b_range (abx_cons (bx (ex_callB clen (by rfl) B.b_len PySem.boot_len (abx_cons (bx_var (i := 3) rfl (Or.inr (Or.inl rfl))) abx_nil))) abx_nil))) (blkOk_by (by kernel_rfl)) (by decide) (fun _ _ _ _ _ => (gx_nm (i := 12) sc_law.nd rfl (by first | exact Or.inl rfl | exact Or.inr rfl))) (fun _ _ _ _ _ => pts_no) (fun _ _ _ _ _ => (ex_tup (ax_cons (ex_var (i := 12) rfl (by first | exact Or.inl rfl | exact Or.inr (Or.inr rfl) | exact Or.inr (Or.inl rfl))) (ax_cons (ex_ix (bx_var (i := 3) rfl (by first | exact Or.inl rfl | exact Or.inr (Or.inr rfl) | exact Or.inr (Or.inl rfl))) (bx_var (i := 12) rfl (by first | exact Or.inl rfl | exact Or.inr (Or.inr rfl) | exact Or.inr (Or.inl rfl))) (fun _ _ => rfl)) (ax_cons ex_int ax_nil)))))))) abx_nil))) (ssx_cons (sx_for PassesOwn.never rfl (ilx_seq (ex_tup (ax_cons ex_str (ax_cons ex_str (ax_cons ex_str ax_nil))))) (gx_nm (i := 8) sc_law.nd rfl (Or.inr rfl)) (ssx_cons (sx_set (i := 9) sc_law.nd rfl (Or.inl rfl) (ex_callTy ctuple (by rfl) B.b_tuple (by decide +kernel) (abx_cons (bx (ex_sl (bx (ex_f (fx_callB (csortA (room65 hr)) (by rfl) B.b_sorted (by decide +kernel) (abx_cons (bx (ex_f (fx_lc (own := [("j", 12)]) rfl sc_law.nd (ilx_c (ilx_rg1 (by rfl) B.b_range (abx_cons (bx (ex_callB clen (by rfl) B.b_len PySem.boot_len (abx_cons (bx_var (i := 3) rfl (Or.inr (Or.inl rfl))) abx_nil))) abx_nil))) (blkOk_by (by kernel_rfl)) (by decide) (fun _ _ _ _ _ => (gx_nm (i := 12) sc_law.nd rfl (by first | exact Or.inl rfl | exact Or.inr rfl))) (fun _ _ _ _ _ => pts_no) (fun _ _ _ _ _ => (ex_tup (ax_cons (ex_fnT c_l_far hr (by decide) (by rfl) (ax_cons (ex_var (i := 8) rfl (by first | exact Or.inl rfl | exact Or.inr (Or.inr rfl) | exact Or.inr (Or.inl rfl))) (ax_cons (ex_var (i := 4) rfl (by first | exact Or.inl rfl | exact Or.inr (Or.inr rfl) | exact Or.inr (Or.inl rfl))) (ax_cons (ex_ix (bx_var (i := 3) rfl (by first | exact Or.inl rfl | exact Or.inr (Or.inr rfl) | exact Or.inr (Or.inl rfl))) (bx_var (i := 12) rfl (by first | exact Or.inl rfl | exact Or.inr (Or.inr rfl) | exact Or.inr (Or.inl rfl))) (fun _ _ => rfl)) ax_nil)))) (ax_cons (ex_var (i := 12) rfl (by first | exact Or.inl rfl | exact Or.inr (Or.inr rfl) | exact Or.inr (Or.inl rfl))) ax_nil))))))) abx_nil)))) ox_no (ox_yes (bx_var (i := 5) rfl (Or.inl rfl))))) abx_nil))) (ssx_cons (sx_set (i := 10) sc_law.nd rfl (Or.inl rfl) (ex_fnT c_l_down hr (by decide) (by rfl) (ax_cons (ex_var (i := 3) rfl (Or.inr (Or.inl rfl))) (ax_cons (ex_var (i := 6) rfl (Or.inl rfl)) (ax_cons (ex_var (i := 4) rfl (Or.inr (Or.inl rfl))) (ax_cons (ex_var (i := 8) rfl (Or.inr (Or.inl rfl))) (ax_cons (ex_var (i := 5) rfl (Or.inl rfl)) (ax_cons (ex_lst ax_nil) ax_nil)))))))) (ssx_cons (sx_if (PW.pt (wx_or (tx_cmp (one hr.units) (bx (ex_callTy ctuple (by rfl) B.b_tuple (by decide +kernel) (abx_cons (bx (ex_ix (bx_var (i := 10) rfl (Or.inl rfl)) (bx ex_int) (fun _ _ => rfl))) abx_nil))) (bx_var (i := 9) rfl (Or.inl rfl)) (nomark _)) (wx_or (tx_cmp ogt (bx (ex_ix (bx_var (i := 10) rfl (Or.inl rfl)) (bx ex_int) (fun _ _ => rfl))) (bx (ex_callB clen (by rfl) B.b_len PySem.boot_len (abx_cons (bx_var (i := 3) rfl (Or.inr (Or.inl rfl))) abx_nil))) (nomark _)) (wx_or1 (tx_not (tx_tru (bx (ex_fnT c_l_like hr (by decide) (by rfl) (ax_cons (ex_fnT c_tree_nearest hr (by decide) (by rfl) (ax_cons (ex_var (i := 3) rfl (Or.inr (Or.inl rfl))) (ax_cons (ex_var (i := 4) rfl (Or.inr (Or.inl rfl))) (ax_cons (ex_var (i := 8) rfl (Or.inr (Or.inl rfl))) (ax_cons (ex_var (i := 5) rfl (Or.inl rfl)) ax_nil))))) (ax_cons (ex_tup (ax_cons (ex_var (i := 9) rfl (Or.inl rfl)) (ax_cons (ex_ix (bx_var (i := 10) rfl (Or.inl rfl)) (bx ex_int) (fun _ _ => rfl)) ax_nil))) ax_nil)))))))))) (ssx_one (sx_ret ex_bl)) ssx_nil) (ssx_one (sx_if (tx_cmp (one hr.units) (bx (ex_fnT c_nearest hr (by decide) (by rfl) (ax_cons (ex_var (i := 7) rfl (Or.inl rfl)) (ax_cons (ex_var (i := 4) rfl (Or.inr (Or.inl rfl))) (ax_cons (ex_var (i := 8) rfl (Or.inr (Or.inl rfl))) (ax_cons (ex_var (i := 5) rfl (Or.inl rfl)) ax_nil)))))) (bx_var (i := 9) rfl (Or.inl rfl)) (nomark _)) (ssx_one (sx_ret ex_bl)) ssx_nil)))))) (ssx_cons (sx_set (i := 8) sc_law.nd rfl (Or.inr rfl) (ex_ix (bx (ex_tup (ax_cons ex_str (ax_cons ex_str (ax_cons ex_str (ax_cons (ex_tup (ax_cons ex_str (ax_cons (ex_sl (bx (ex_tup (ax_cons ex_int (ax_cons ex_int (ax_cons ex_int ax_nil))))) ox_no (ox_yes (bx_var (i := 2) rfl (Or.inl rfl)))) ax_nil))) ax_nil)))))) (bx (ex_op omod (bx (ex_callTy cint (by rfl) B.b_int (by decide +kernel) (abx_cons (bx (ex_ix (bx_var (i := 1) rfl (Or.inr (Or.inl rfl))) (bx ex_int) (fun _ _ => rfl))) abx_nil))) (bx ex_int))) (fun _ _ => rfl))) (ssx_cons (sx_set (i := 11) sc_law.nd rfl (Or.inl rfl) (ex_fnT c_l_ring hr (by decide) (by rfl) (ax_cons (ex_var (i := 3) rfl (Or.inr (Or.inl rfl))) (ax_cons (ex_var (i := 8) rfl (Or.inr (Or.inl rfl))) (ax_cons (ex_f (fx_lrg1 rfl (by rfl) B.b_list (by rfl) B.b_range (bx (ex_callB clen (by rfl) B.b_len PySem.boot_len (abx_cons (bx_var (i := 3) rfl (Or.inr (Or.inl rfl))) abx_nil))))) ax_nil))))) (ssx_cons (sx_set (i := 9) sc_law.nd rfl (Or.inl rfl) (ex_callTy ctuple (by rfl) B.b_tuple (by decide +kernel) (abx_cons (bx (ex_sl (bx (ex_f (fx_callB (csortA (room65 hr)) (by rfl) B.b_sorted (by decide +kernel) (abx_cons (bx (ex_f (fx_lc (own := [("j", 12)]) rfl sc_law.nd (ilx_c (ilx_rg1 (by rfl) B.b_range (abx_cons (bx (ex_callB clen (by rfl) B.b_len PySem.boot_len (abx_cons (bx_var (i := 3) rfl (Or.inr (Or.inl rfl))) abx_nil))) abx_nil))) (blkOk_by (by kernel_rfl)) (by decide) (fun _ _ _ _ _ => (gx_nm (i := 12) sc_law.nd rfl (by first | exact Or.inl rfl | exact Or.inr rfl))) (fun _ _ _ _ _ => pts_no) (fun _ _ _ _ _ => (ex_tup (ax_cons (ex_fnT c_l_far hr (by decide) (by rfl) (ax_cons (ex_var (i := 8) rfl (by first | exact Or.inl rfl | exact Or.inr (Or.inr rfl) | exact Or.inr (Or.inl rfl))) (ax_cons (ex_var (i := 4) rfl (by first | exact Or.inl rfl | exact Or.inr (Or.inr rfl) | exact Or.inr (Or.inl rfl))) (ax_cons (ex_ix (bx_var (i := 3) rfl (by first | exact Or.inl rfl | exact Or.inr (Or.inr rfl) | exact Or.inr (Or.inl rfl))) (bx_var (i := 12) rfl (by first | exact Or.inl rfl | exact Or.inr (Or.inr rfl) | exact Or.inr (Or.inl rfl))) (fun _ _ => rfl)) ax_nil)))) (ax_cons (ex_var (i := 12) rfl (by first | exact Or.inl rfl | exact Or.inr (Or.inr rfl) | exact Or.inr (Or.inl rfl))) ax_nil))))))) abx_nil)))) ox_no (ox_yes (bx_var (i := 5) rfl (Or.inl rfl))))) abx_nil))) (ssx_cons (sx_set (i := 10) sc_law.nd rfl (Or.inl rfl) (ex_fnT c_l_in hr (by decide) (by rfl) (ax_cons (ex_var (i := 3) rfl (Or.inr (Or.inl rfl))) (ax_cons (ex_var (i := 11) rfl (Or.inl rfl)) (ax_cons (ex_var (i := 4) rfl (Or.inr (Or.inl rfl))) (ax_cons (ex_var (i := 8) rfl (Or.inr (Or.inl rfl))) (ax_cons (ex_var (i := 5) rfl (Or.inl rfl)) (ax_cons (ex_lst ax_nil) ax_nil)))))))) (ssx_cons (sx_if (PW.pt (wx_or (tx_not (tx_tru (bx (ex_fnT c_l_like hr (by decide) (by rfl) (ax_cons (ex_fnT c_ring_tree hr (by decide) (by rfl) (ax_cons (ex_var (i := 3) rfl (Or.inr (Or.inl rfl))) (ax_cons (ex_var (i := 8) rfl (Or.inr (Or.inl rfl))) ax_nil))) (ax_cons (ex_var (i := 11) rfl (Or.inl rfl)) ax_nil)))))) (wx_or1 (tx_cmp (one hr.units) (bx (ex_callTy ctuple (by rfl) B.b_tuple (by decide +kernel) (abx_cons (bx (ex_ix (bx_var (i := 10) rfl (Or.inl rfl)) (bx ex_int) (fun _ _ => rfl))) abx_nil))) (bx_var (i := 9) rfl (Or.inl rfl)) (nomark _))))) (ssx_one (sx_ret ex_bl)) ssx_nil) (ssx_one (sx_ret (ex_fnT c_l_like hr (by decide) (by rfl) (ax_cons (ex_fnT c_ring_nearest hr (by decide) (by rfl) (ax_cons (ex_var (i := 3) rfl (Or.inr (Or.inl rfl))) (ax_cons (ex_var (i := 4) rfl (Or.inr (Or.inl rfl))) (ax_cons (ex_var (i := 8) rfl (Or.inr (Or.inl rfl))) (ax_cons (ex_var (i := 5) rfl (Or.inl rfl)) ax_nil))))) (ax_cons (ex_tup (ax_cons (ex_var (i := 9) rfl (Or.inl rfl)) (ax_cons (ex_ix (bx_var (i := 10) rfl (Or.inl rfl)) (bx ex_int) (fun _ _ => rfl)) ax_nil))) ax_nil))))))))))))))))))))

theorem all_mk {l : PySem.W.OpenLaw} {w : World} {K : PySem.W.Frag} {h : Heap} {mg : Str → Option Value} {fa : Addr} (X : K.In h) (G : h.Ns mainGlobals mg) (hfa : mg "law" = some (.ref fa))
    {f0 : Addr} {od0 an0 : Option Addr} {sl0 : Array (Option Value)} {oc0 kV0 dc0 pm0 cd0 ct0 : Value}
    (a0 : PySem.W.nsIn K mainGlobals "far" = some (some (.ref f0))) (l0 : K.lookup f0 = some ⟨oc0, od0, .func (PySem.W.fnOf "far" "far" (defArgs s_far) (defBody s_far) (defScope s_far) .none kV0 dc0 pm0 an0 cd0 ct0), sl0⟩) (c0 : PySem.W.codeIn K cd0 "far" = true) (k0 : PySem.W.keepIn K (.ref f0) = true)
    {f1 : Addr} {od1 an1 : Option Addr} {sl1 : Array (Option Value)} {oc1 kV1 dc1 pm1 cd1 ct1 : Value}
    (a1 : PySem.W.nsIn K mainGlobals "split_at" = some (some (.ref f1))) (l1 : K.lookup f1 = some ⟨oc1, od1, .func (PySem.W.fnOf "split_at" "split_at" (defArgs s_split_at) (defBody s_split_at) (defScope s_split_at) .none kV1 dc1 pm1 an1 cd1 ct1), sl1⟩) (c1 : PySem.W.codeIn K cd1 "split_at" = true) (k1 : PySem.W.keepIn K (.ref f1) = true)
    {f2 : Addr} {od2 an2 : Option Addr} {sl2 : Array (Option Value)} {oc2 kV2 dc2 pm2 cd2 ct2 : Value}
    (a2 : PySem.W.nsIn K mainGlobals "tree_of_places" = some (some (.ref f2))) (l2 : K.lookup f2 = some ⟨oc2, od2, .func (PySem.W.fnOf "tree_of_places" "tree_of_places" (defArgs s_tree_of_places) (defBody s_tree_of_places) (defScope s_tree_of_places) .none kV2 dc2 pm2 an2 cd2 ct2), sl2⟩) (c2 : PySem.W.codeIn K cd2 "tree_of_places" = true) (k2 : PySem.W.keepIn K (.ref f2) = true)
    {f3 : Addr} {od3 an3 : Option Addr} {sl3 : Array (Option Value)} {oc3 kV3 dc3 pm3 cd3 ct3 : Value}
    (a3 : PySem.W.nsIn K mainGlobals "split_tree" = some (some (.ref f3))) (l3 : K.lookup f3 = some ⟨oc3, od3, .func (PySem.W.fnOf "split_tree" "split_tree" (defArgs s_split_tree) (defBody s_split_tree) (defScope s_split_tree) .none kV3 dc3 pm3 an3 cd3 ct3), sl3⟩) (c3 : PySem.W.codeIn K cd3 "split_tree" = true) (k3 : PySem.W.keepIn K (.ref f3) = true)
    {f4 : Addr} {od4 an4 : Option Addr} {sl4 : Array (Option Value)} {oc4 kV4 dc4 pm4 cd4 ct4 : Value}
    (a4 : PySem.W.nsIn K mainGlobals "is_split" = some (some (.ref f4))) (l4 : K.lookup f4 = some ⟨oc4, od4, .func (PySem.W.fnOf "is_split" "is_split" (defArgs s_is_split) (defBody s_is_split) (defScope s_is_split) .none kV4 dc4 pm4 an4 cd4 ct4), sl4⟩) (c4 : PySem.W.codeIn K cd4 "is_split" = true) (k4 : PySem.W.keepIn K (.ref f4) = true)
    {f5 : Addr} {od5 an5 : Option Addr} {sl5 : Array (Option Value)} {oc5 kV5 dc5 pm5 cd5 ct5 : Value}
    (a5 : PySem.W.nsIn K mainGlobals "split_depth" = some (some (.ref f5))) (l5 : K.lookup f5 = some ⟨oc5, od5, .func (PySem.W.fnOf "split_depth" "split_depth" (defArgs s_split_depth) (defBody s_split_depth) (defScope s_split_depth) .none kV5 dc5 pm5 an5 cd5 ct5), sl5⟩) (c5 : PySem.W.codeIn K cd5 "split_depth" = true) (k5 : PySem.W.keepIn K (.ref f5) = true)
    {f6 : Addr} {od6 an6 : Option Addr} {sl6 : Array (Option Value)} {oc6 kV6 dc6 pm6 cd6 ct6 : Value}
    (a6 : PySem.W.nsIn K mainGlobals "with_pairs" = some (some (.ref f6))) (l6 : K.lookup f6 = some ⟨oc6, od6, .func (PySem.W.fnOf "with_pairs" "with_pairs" (defArgs s_with_pairs) (defBody s_with_pairs) (defScope s_with_pairs) .none kV6 dc6 pm6 an6 cd6 ct6), sl6⟩) (c6 : PySem.W.codeIn K cd6 "with_pairs" = true) (k6 : PySem.W.keepIn K (.ref f6) = true)
    {f7 : Addr} {od7 an7 : Option Addr} {sl7 : Array (Option Value)} {oc7 kV7 dc7 pm7 cd7 ct7 : Value}
    (a7 : PySem.W.nsIn K mainGlobals "axis_gap" = some (some (.ref f7))) (l7 : K.lookup f7 = some ⟨oc7, od7, .func (PySem.W.fnOf "axis_gap" "axis_gap" (defArgs s_axis_gap) (defBody s_axis_gap) (defScope s_axis_gap) .none kV7 dc7 pm7 an7 cd7 ct7), sl7⟩) (c7 : PySem.W.codeIn K cd7 "axis_gap" = true) (k7 : PySem.W.keepIn K (.ref f7) = true)
    {f8 : Addr} {od8 an8 : Option Addr} {sl8 : Array (Option Value)} {oc8 kV8 dc8 pm8 cd8 ct8 : Value}
    (a8 : PySem.W.nsIn K mainGlobals "go_down" = some (some (.ref f8))) (l8 : K.lookup f8 = some ⟨oc8, od8, .func (PySem.W.fnOf "go_down" "go_down" (defArgs s_go_down) (defBody s_go_down) (defScope s_go_down) .none kV8 dc8 pm8 an8 cd8 ct8), sl8⟩) (c8 : PySem.W.codeIn K cd8 "go_down" = true) (k8 : PySem.W.keepIn K (.ref f8) = true)
    {f9 : Addr} {od9 an9 : Option Addr} {sl9 : Array (Option Value)} {oc9 kV9 dc9 pm9 cd9 ct9 : Value}
    (a9 : PySem.W.nsIn K mainGlobals "tree_nearest" = some (some (.ref f9))) (l9 : K.lookup f9 = some ⟨oc9, od9, .func (PySem.W.fnOf "tree_nearest" "tree_nearest" (defArgs s_tree_nearest) (defBody s_tree_nearest) (defScope s_tree_nearest) .none kV9 dc9 pm9 an9 cd9 ct9), sl9⟩) (c9 : PySem.W.codeIn K cd9 "tree_nearest" = true) (k9 : PySem.W.keepIn K (.ref f9) = true)
    {f10 : Addr} {od10 an10 : Option Addr} {sl10 : Array (Option Value)} {oc10 kV10 dc10 pm10 cd10 ct10 : Value}
    (a10 : PySem.W.nsIn K mainGlobals "rings_of" = some (some (.ref f10))) (l10 : K.lookup f10 = some ⟨oc10, od10, .func (PySem.W.fnOf "rings_of" "rings_of" (defArgs s_rings_of) (defBody s_rings_of) (defScope s_rings_of) .none kV10 dc10 pm10 an10 cd10 ct10), sl10⟩) (c10 : PySem.W.codeIn K cd10 "rings_of" = true) (k10 : PySem.W.keepIn K (.ref f10) = true)
    {f11 : Addr} {od11 an11 : Option Addr} {sl11 : Array (Option Value)} {oc11 kV11 dc11 pm11 cd11 ct11 : Value}
    (a11 : PySem.W.nsIn K mainGlobals "ring_tree" = some (some (.ref f11))) (l11 : K.lookup f11 = some ⟨oc11, od11, .func (PySem.W.fnOf "ring_tree" "ring_tree" (defArgs s_ring_tree) (defBody s_ring_tree) (defScope s_ring_tree) .none kV11 dc11 pm11 an11 cd11 ct11), sl11⟩) (c11 : PySem.W.codeIn K cd11 "ring_tree" = true) (k11 : PySem.W.keepIn K (.ref f11) = true)
    {f12 : Addr} {od12 an12 : Option Addr} {sl12 : Array (Option Value)} {oc12 kV12 dc12 pm12 cd12 ct12 : Value}
    (a12 : PySem.W.nsIn K mainGlobals "go_in" = some (some (.ref f12))) (l12 : K.lookup f12 = some ⟨oc12, od12, .func (PySem.W.fnOf "go_in" "go_in" (defArgs s_go_in) (defBody s_go_in) (defScope s_go_in) .none kV12 dc12 pm12 an12 cd12 ct12), sl12⟩) (c12 : PySem.W.codeIn K cd12 "go_in" = true) (k12 : PySem.W.keepIn K (.ref f12) = true)
    {f13 : Addr} {od13 an13 : Option Addr} {sl13 : Array (Option Value)} {oc13 kV13 dc13 pm13 cd13 ct13 : Value}
    (a13 : PySem.W.nsIn K mainGlobals "ring_nearest" = some (some (.ref f13))) (l13 : K.lookup f13 = some ⟨oc13, od13, .func (PySem.W.fnOf "ring_nearest" "ring_nearest" (defArgs s_ring_nearest) (defBody s_ring_nearest) (defScope s_ring_nearest) .none kV13 dc13 pm13 an13 cd13 ct13), sl13⟩) (c13 : PySem.W.codeIn K cd13 "ring_nearest" = true) (k13 : PySem.W.keepIn K (.ref f13) = true)
    {f14 : Addr} {od14 an14 : Option Addr} {sl14 : Array (Option Value)} {oc14 kV14 dc14 pm14 cd14 ct14 : Value}
    (a14 : PySem.W.nsIn K mainGlobals "told_pairs" = some (some (.ref f14))) (l14 : K.lookup f14 = some ⟨oc14, od14, .func (PySem.W.fnOf "told_pairs" "told_pairs" (defArgs s_told_pairs) (defBody s_told_pairs) (defScope s_told_pairs) .none kV14 dc14 pm14 an14 cd14 ct14), sl14⟩) (c14 : PySem.W.codeIn K cd14 "told_pairs" = true) (k14 : PySem.W.keepIn K (.ref f14) = true)
    {f15 : Addr} {od15 an15 : Option Addr} {sl15 : Array (Option Value)} {oc15 kV15 dc15 pm15 cd15 ct15 : Value}
    (a15 : PySem.W.nsIn K mainGlobals "nearest" = some (some (.ref f15))) (l15 : K.lookup f15 = some ⟨oc15, od15, .func (PySem.W.fnOf "nearest" "nearest" (defArgs s_nearest) (defBody s_nearest) (defScope s_nearest) .none kV15 dc15 pm15 an15 cd15 ct15), sl15⟩) (c15 : PySem.W.codeIn K cd15 "nearest" = true) (k15 : PySem.W.keepIn K (.ref f15) = true)
    {f16 : Addr} {od16 an16 : Option Addr} {sl16 : Array (Option Value)} {oc16 kV16 dc16 pm16 cd16 ct16 : Value}
    (a16 : PySem.W.nsIn K mainGlobals "_law_mixed" = some (some (.ref f16))) (l16 : K.lookup f16 = some ⟨oc16, od16, .func (PySem.W.fnOf "_law_mixed" "_law_mixed" (defArgs s_l_mixed) (defBody s_l_mixed) (defScope s_l_mixed) .none kV16 dc16 pm16 an16 cd16 ct16), sl16⟩) (c16 : PySem.W.codeIn K cd16 "_law_mixed" = true) (k16 : PySem.W.keepIn K (.ref f16) = true)
    {f17 : Addr} {od17 an17 : Option Addr} {sl17 : Array (Option Value)} {oc17 kV17 dc17 pm17 cd17 ct17 : Value}
    (a17 : PySem.W.nsIn K mainGlobals "_law_row" = some (some (.ref f17))) (l17 : K.lookup f17 = some ⟨oc17, od17, .func (PySem.W.fnOf "_law_row" "_law_row" (defArgs s_l_row) (defBody s_l_row) (defScope s_l_row) .none kV17 dc17 pm17 an17 cd17 ct17), sl17⟩) (c17 : PySem.W.codeIn K cd17 "_law_row" = true) (k17 : PySem.W.keepIn K (.ref f17) = true)
    {f18 : Addr} {od18 an18 : Option Addr} {sl18 : Array (Option Value)} {oc18 kV18 dc18 pm18 cd18 ct18 : Value}
    (a18 : PySem.W.nsIn K mainGlobals "_law_is_int" = some (some (.ref f18))) (l18 : K.lookup f18 = some ⟨oc18, od18, .func (PySem.W.fnOf "_law_is_int" "_law_is_int" (defArgs s_l_is_int) (defBody s_l_is_int) (defScope s_l_is_int) .none kV18 dc18 pm18 an18 cd18 ct18), sl18⟩) (c18 : PySem.W.codeIn K cd18 "_law_is_int" = true) (k18 : PySem.W.keepIn K (.ref f18) = true)
    {f19 : Addr} {od19 an19 : Option Addr} {sl19 : Array (Option Value)} {oc19 kV19 dc19 pm19 cd19 ct19 : Value}
    (a19 : PySem.W.nsIn K mainGlobals "_law_like" = some (some (.ref f19))) (l19 : K.lookup f19 = some ⟨oc19, od19, .func (PySem.W.fnOf "_law_like" "_law_like" (defArgs s_l_like) (defBody s_l_like) (defScope s_l_like) .none kV19 dc19 pm19 an19 cd19 ct19), sl19⟩) (c19 : PySem.W.codeIn K cd19 "_law_like" = true) (k19 : PySem.W.keepIn K (.ref f19) = true)
    {f20 : Addr} {od20 an20 : Option Addr} {sl20 : Array (Option Value)} {oc20 kV20 dc20 pm20 cd20 ct20 : Value}
    (a20 : PySem.W.nsIn K mainGlobals "_law_cloud" = some (some (.ref f20))) (l20 : K.lookup f20 = some ⟨oc20, od20, .func (PySem.W.fnOf "_law_cloud" "_law_cloud" (defArgs s_l_cloud) (defBody s_l_cloud) (defScope s_l_cloud) .none kV20 dc20 pm20 an20 cd20 ct20), sl20⟩) (c20 : PySem.W.codeIn K cd20 "_law_cloud" = true) (k20 : PySem.W.keepIn K (.ref f20) = true)
    {f21 : Addr} {od21 an21 : Option Addr} {sl21 : Array (Option Value)} {oc21 kV21 dc21 pm21 cd21 ct21 : Value}
    (a21 : PySem.W.nsIn K mainGlobals "_law_far" = some (some (.ref f21))) (l21 : K.lookup f21 = some ⟨oc21, od21, .func (PySem.W.fnOf "_law_far" "_law_far" (defArgs s_l_far) (defBody s_l_far) (defScope s_l_far) .none kV21 dc21 pm21 an21 cd21 ct21), sl21⟩) (c21 : PySem.W.codeIn K cd21 "_law_far" = true) (k21 : PySem.W.keepIn K (.ref f21) = true)
    {f22 : Addr} {od22 an22 : Option Addr} {sl22 : Array (Option Value)} {oc22 kV22 dc22 pm22 cd22 ct22 : Value}
    (a22 : PySem.W.nsIn K mainGlobals "_law_split" = some (some (.ref f22))) (l22 : K.lookup f22 = some ⟨oc22, od22, .func (PySem.W.fnOf "_law_split" "_law_split" (defArgs s_l_split) (defBody s_l_split) (defScope s_l_split) .none kV22 dc22 pm22 an22 cd22 ct22), sl22⟩) (c22 : PySem.W.codeIn K cd22 "_law_split" = true) (k22 : PySem.W.keepIn K (.ref f22) = true)
    {f23 : Addr} {od23 an23 : Option Addr} {sl23 : Array (Option Value)} {oc23 kV23 dc23 pm23 cd23 ct23 : Value}
    (a23 : PySem.W.nsIn K mainGlobals "_law_leaf" = some (some (.ref f23))) (l23 : K.lookup f23 = some ⟨oc23, od23, .func (PySem.W.fnOf "_law_leaf" "_law_leaf" (defArgs s_l_leaf) (defBody s_l_leaf) (defScope s_l_leaf) .none kV23 dc23 pm23 an23 cd23 ct23), sl23⟩) (c23 : PySem.W.codeIn K cd23 "_law_leaf" = true) (k23 : PySem.W.keepIn K (.ref f23) = true)
    {f24 : Addr} {od24 an24 : Option Addr} {sl24 : Array (Option Value)} {oc24 kV24 dc24 pm24 cd24 ct24 : Value}
    (a24 : PySem.W.nsIn K mainGlobals "_law_down" = some (some (.ref f24))) (l24 : K.lookup f24 = some ⟨oc24, od24, .func (PySem.W.fnOf "_law_down" "_law_down" (defArgs s_l_down) (defBody s_l_down) (defScope s_l_down) .none kV24 dc24 pm24 an24 cd24 ct24), sl24⟩) (c24 : PySem.W.codeIn K cd24 "_law_down" = true) (k24 : PySem.W.keepIn K (.ref f24) = true)
    {f25 : Addr} {od25 an25 : Option Addr} {sl25 : Array (Option Value)} {oc25 kV25 dc25 pm25 cd25 ct25 : Value}
    (a25 : PySem.W.nsIn K mainGlobals "_law_depth" = some (some (.ref f25))) (l25 : K.lookup f25 = some ⟨oc25, od25, .func (PySem.W.fnOf "_law_depth" "_law_depth" (defArgs s_l_depth) (defBody s_l_depth) (defScope s_l_depth) .none kV25 dc25 pm25 an25 cd25 ct25), sl25⟩) (c25 : PySem.W.codeIn K cd25 "_law_depth" = true) (k25 : PySem.W.keepIn K (.ref f25) = true)
    {f26 : Addr} {od26 an26 : Option Addr} {sl26 : Array (Option Value)} {oc26 kV26 dc26 pm26 cd26 ct26 : Value}
    (a26 : PySem.W.nsIn K mainGlobals "_law_ring" = some (some (.ref f26))) (l26 : K.lookup f26 = some ⟨oc26, od26, .func (PySem.W.fnOf "_law_ring" "_law_ring" (defArgs s_l_ring) (defBody s_l_ring) (defScope s_l_ring) .none kV26 dc26 pm26 an26 cd26 ct26), sl26⟩) (c26 : PySem.W.codeIn K cd26 "_law_ring" = true) (k26 : PySem.W.keepIn K (.ref f26) = true)
    {f27 : Addr} {od27 an27 : Option Addr} {sl27 : Array (Option Value)} {oc27 kV27 dc27 pm27 cd27 ct27 : Value}
    (a27 : PySem.W.nsIn K mainGlobals "_law_in" = some (some (.ref f27))) (l27 : K.lookup f27 = some ⟨oc27, od27, .func (PySem.W.fnOf "_law_in" "_law_in" (defArgs s_l_in) (defBody s_l_in) (defScope s_l_in) .none kV27 dc27 pm27 an27 cd27 ct27), sl27⟩) (c27 : PySem.W.codeIn K cd27 "_law_in" = true) (k27 : PySem.W.keepIn K (.ref f27) = true)
    {f28 : Addr} {od28 an28 : Option Addr} {sl28 : Array (Option Value)} {oc28 kV28 dc28 pm28 cd28 ct28 : Value}
    (a28 : PySem.W.nsIn K mainGlobals "law" = some (some (.ref f28))) (l28 : K.lookup f28 = some ⟨oc28, od28, .func (PySem.W.fnOf "law" "law" (defArgs s_law) (defBody s_law) (defScope s_law) .none kV28 dc28 pm28 an28 cd28 ct28), sl28⟩) (c28 : PySem.W.codeIn K cd28 "law" = true) (k28 : PySem.W.keepIn K (.ref f28) = true)
    {t0 : Tok} (gcn0 : PySem.W.nsIn K mainGlobals "LEAF" = some (some (.int 2 t0)))
    (z0 : PySem.W.nsIn K mainGlobals "len" = some none)
    (z1 : PySem.W.nsIn K mainGlobals "range" = some none)
    (z2 : PySem.W.nsIn K mainGlobals "zip" = some none)
    (z3 : PySem.W.nsIn K mainGlobals "sum" = some none)
    (z4 : PySem.W.nsIn K mainGlobals "abs" = some none)
    (z5 : PySem.W.nsIn K mainGlobals "max" = some none)
    (z6 : PySem.W.nsIn K mainGlobals "sorted" = some none)
    (z7 : PySem.W.nsIn K mainGlobals "min" = some none)
    (z8 : PySem.W.nsIn K mainGlobals "tuple" = some none)
    (z9 : PySem.W.nsIn K mainGlobals "list" = some none)
    (z10 : PySem.W.nsIn K mainGlobals "isinstance" = some none)
    (z11 : PySem.W.nsIn K mainGlobals "int" = some none)
    (z12 : PySem.W.nsIn K mainGlobals "bool" = some none)
    (z13 : PySem.W.nsIn K mainGlobals "str" = some none)
    (z14 : PySem.W.nsIn K mainGlobals "all" = some none)
    : ∃ fd : FuncData, (∀ (s : Shared) (v : Value), BindsTo s fd ⟨[v], []⟩ [("script", v)]) ∧ ∀ base : Heap, K.In base → base.Ns mainGlobals mg → FnOk l.prog w K mg base CX0 20 fa fd ["script"] (spD K run_law 1) := by
  have e := hfa.symm.trans (PySem.W.mg_of X G a28)
  cases e
  have B : Bs mg := ⟨PySem.W.mg_none_of X G z0, PySem.W.mg_none_of X G z1, PySem.W.mg_none_of X G z2, PySem.W.mg_none_of X G z3, PySem.W.mg_none_of X G z4, PySem.W.mg_none_of X G z5, PySem.W.mg_none_of X G z6, PySem.W.mg_none_of X G z7, PySem.W.mg_none_of X G z8, PySem.W.mg_none_of X G z9, PySem.W.mg_none_of X G z10, PySem.W.mg_none_of X G z11, PySem.W.mg_none_of X G z12, PySem.W.mg_none_of X G z13, PySem.W.mg_none_of X G z14⟩
  have C_LEAF : CI mg "LEAF" 2 := ci_mk X G gcn0
  have FL := fun_mk (st := s_law) l28 c28 k28
  refine ⟨PySem.W.fnOf "law" "law" (defArgs s_law) (defBody s_law) (defScope s_law) .none kV28 dc28 pm28 an28 cd28 ct28, fun s v => .of_eq rfl, fun base _ _ => ?_⟩
  have q_far := ok_far (P := l.prog) (w := w) (base := base) B (funt_mk (st := s_far) X G a0 l0 c0 k0)
  have q_split_at := ok_split_at (P := l.prog) (w := w) (base := base) B (funt_mk (st := s_split_at) X G a1 l1 c1 k1)
  have q_tree_of_places := ok_tree_of_places (P := l.prog) (w := w) (base := base) B C_LEAF (funt_mk (st := s_tree_of_places) X G a2 l2 c2 k2) q_split_at 14
  have q_split_tree := ok_split_tree (P := l.prog) (w := w) (base := base) B (funt_mk (st := s_split_tree) X G a3 l3 c3 k3) q_tree_of_places
  have q_is_split := ok_is_split (P := l.prog) (w := w) (base := base) B (funt_mk (st := s_is_split) X G a4 l4 c4 k4)
  have q_split_depth := ok_split_depth (P := l.prog) (w := w) (base := base) B (funt_mk (st := s_split_depth) X G a5 l5 c5 k5) q_is_split 14
  have q_with_pairs := ok_with_pairs (P := l.prog) (w := w) (base := base) B (funt_mk (st := s_with_pairs) X G a6 l6 c6 k6)
  have q_axis_gap := ok_axis_gap (P := l.prog) (w := w) (base := base) B (funt_mk (st := s_axis_gap) X G a7 l7 c7 k7)
  have q_go_down := ok_go_down (P := l.prog) (w := w) (base := base) B (funt_mk (st := s_go_down) X G a8 l8 c8 k8) q_axis_gap q_is_split q_with_pairs q_far 14
  have q_tree_nearest := ok_tree_nearest (P := l.prog) (w := w) (base := base) B (funt_mk (st := s_tree_nearest) X G a9 l9 c9 k9) q_go_down q_split_tree
  have q_rings_of := ok_rings_of (P := l.prog) (w := w) (base := base) B (funt_mk (st := s_rings_of) X G a10 l10 c10 k10) q_far 14
  have q_ring_tree := ok_ring_tree (P := l.prog) (w := w) (base := base) B (funt_mk (st := s_ring_tree) X G a11 l11 c11 k11) q_rings_of
  have q_go_in := ok_go_in (P := l.prog) (w := w) (base := base) B (funt_mk (st := s_go_in) X G a12 l12 c12 k12) q_with_pairs q_far 14
  have q_ring_nearest := ok_ring_nearest (P := l.prog) (w := w) (base := base) B (funt_mk (st := s_ring_nearest) X G a13 l13 c13 k13) q_go_in q_ring_tree
  have q_told_pairs := ok_told_pairs (P := l.prog) (w := w) (base := base) B (funt_mk (st := s_told_pairs) X G a14 l14 c14 k14) q_far
  have q_nearest := ok_nearest (P := l.prog) (w := w) (base := base) B (funt_mk (st := s_nearest) X G a15 l15 c15 k15) q_told_pairs
  have q_l_mixed := ok_l_mixed (P := l.prog) (w := w) (base := base) B (funt_mk (st := s_l_mixed) X G a16 l16 c16 k16)
  have q_l_row := ok_l_row (P := l.prog) (w := w) (base := base) B (funt_mk (st := s_l_row) X G a17 l17 c17 k17) q_l_mixed
  have q_l_is_int := ok_l_is_int (P := l.prog) (w := w) (base := base) B (funt_mk (st := s_l_is_int) X G a18 l18 c18 k18)
  have q_l_like := ok_l_like (P := l.prog) (w := w) (base := base) B (funt_mk (st := s_l_like) X G a19 l19 c19 k19) q_l_is_int 18
  have q_l_cloud := ok_l_cloud (P := l.prog) (w := w) (base := base) B (funt_mk (st := s_l_cloud) X G a20 l20 c20 k20)
  have q_l_far := ok_l_far (P := l.prog) (w := w) (base := base) B (funt_mk (st := s_l_far) X G a21 l21 c21 k21)
  have q_l_split := ok_l_split (P := l.prog) (w := w) (base := base) B (funt_mk (st := s_l_split) X G a22 l22 c22 k22) 14
  have q_l_leaf := ok_l_leaf (P := l.prog) (w := w) (base := base) B (funt_mk (st := s_l_leaf) X G a23 l23 c23 k23) q_l_is_int
  have q_l_down := ok_l_down (P := l.prog) (w := w) (base := base) B (funt_mk (st := s_l_down) X G a24 l24 c24 k24) q_l_leaf q_l_far 14
  have q_l_depth := ok_l_depth (P := l.prog) (w := w) (base := base) B (funt_mk (st := s_l_depth) X G a25 l25 c25 k25) q_l_leaf 14
  have q_l_ring := ok_l_ring (P := l.prog) (w := w) (base := base) B (funt_mk (st := s_l_ring) X G a26 l26 c26 k26) q_l_far 14
  have q_l_in := ok_l_in (P := l.prog) (w := w) (base := base) B (funt_mk (st := s_l_in) X G a27 l27 c27 k27) q_l_far q_l_is_int 14
  exact okf_law (P := l.prog) (w := w) (base := base) B FL q_l_like q_ring_nearest q_ring_tree q_l_in q_l_far q_l_ring q_nearest q_tree_nearest q_l_down q_split_tree q_l_depth q_split_depth q_l_split q_l_cloud q_l_row
end
end K06

set_option Elab.async false
set_option linter.all false
set_option maxRecDepth 100000
namespace PD
open PySem L2
/-! ### far, and the law's own sum -/
def b_far : Cmd :=
    (sSeq (sSet 3 (asL (fLc [5, 6] (iZipD (aCons (bVar 1) (aCons (bVar 2) aNil))) (gTp (gsCons (gNm 5) (gsCons (gNm 6) gsNil))) tYesF (eOp gSub (bVar 5) (bVar 6)))))
    (sSeq (sIf (asB (eOp gEq (bVar 0) (eC (.str (PySem.Str.ofString "steps")))))
    (sRet (eCall gSum (aCons (asL (fLc [7] (iSeq (bVar 3)) (gNm 7) tYesF (eCall gAbs (aCons (bVar 7) aNil)))) aNil)))
    sNop)
    (sSeq (sIf (asB (eOp gEq (bVar 0) (eC (.str (PySem.Str.ofString "air")))))
    (sRet (eCall gSum (aCons (asL (fLc [7] (iSeq (bVar 3)) (gNm 7) tYesF (eOp gMul (bVar 7) (bVar 7)))) aNil)))
    sNop)
    (sSeq (sIf (asB (eOp gEq (bVar 0) (eC (.str (PySem.Str.ofString "widest")))))
    (sRet (eCall gMaxA (aCons (asL (fLc [7] (iSeq (bVar 3)) (gNm 7) tYesF (eCall gAbs (aCons (bVar 7) aNil)))) aNil)))
    sNop)
    (sSeq (sIf (asB (eOp gEq (bVar 0) (eC (.str (PySem.Str.ofString "unlike")))))
    (sRet (eCall gLen (aCons (asL (fLc [7] (iSeq (bVar 3)) (gNm 7) (asB (eOp gNe (bVar 7) (eC (.int 0)))) (eC (.int 1)))) aNil)))
    sNop)
    (sSeq (sIf (asB (eOp gEq (eOp gIx (bVar 0) (eC (.int 0))) (eC (.str (PySem.Str.ofString "weights")))))
    (sRet (eCall gSum (aCons (asL (fLc [8, 7] (iZipD (aCons (eOp gIx (bVar 0) (eC (.int 1))) (aCons (bVar 3) aNil))) (gTp (gsCons (gNm 8) (gsCons (gNm 7) gsNil))) tYesF (eOp gMul (bVar 8) (eCall gAbs (aCons (bVar 7) aNil))))) aNil)))
    sNop)
    (sSeq (sSet 4 (eOp gIx (bVar 0) (eC (.int 1))))
    (sRet (eCall gSum (aCons (asL (fLc [9] (iRg1 (aCons (eCall gLen (aCons (bVar 3) aNil)) aNil)) (gNm 9) tYesF (eOp gMul (eOp gIx (bVar 3) (bVar 9)) (eCall gSum (aCons (asL (fLc [10, 7] (iZipD (aCons (eOp gIx (bVar 4) (bVar 9)) (aCons (bVar 3) aNil))) (gTp (gsCons (gNm 10) (gsCons (gNm 7) gsNil))) tYesF (eOp gMul (bVar 10) (bVar 7)))) aNil))))) aNil))))))))))
def run_far : List D → Option D := runC 3 8 b_far
def b_l_far : Cmd :=
    (sSeq (sSet 3 (asL (fLc [6] (iRg1 (aCons (eCall gLen (aCons (bVar 1) aNil)) aNil)) (gNm 6) tYesF (eOp gSub (eOp gIx (bVar 1) (bVar 6)) (eOp gIx (bVar 2) (bVar 6))))))
    (sSeq (sIf (asB (eOp gEq (bVar 0) (eC (.str (PySem.Str.ofString "steps")))))
    (sRet (eCall gSum (aCons (asL (fLc [7] (iSeq (bVar 3)) (gNm 7) tYesF (eCall gAbs (aCons (bVar 7) aNil)))) aNil)))
    sNop)
    (sSeq (sIf (asB (eOp gEq (bVar 0) (eC (.str (PySem.Str.ofString "air")))))
    (sRet (eCall gSum (aCons (asL (fLc [7] (iSeq (bVar 3)) (gNm 7) tYesF (eOp gMul (bVar 7) (bVar 7)))) aNil)))
    sNop)
    (sSeq (sIf (asB (eOp gEq (bVar 0) (eC (.str (PySem.Str.ofString "widest")))))
    (sRet (eCall gMaxA (aCons (asL (fLc [7] (iSeq (bVar 3)) (gNm 7) tYesF (eCall gAbs (aCons (bVar 7) aNil)))) aNil)))
    sNop)
    (sSeq (sIf (asB (eOp gEq (bVar 0) (eC (.str (PySem.Str.ofString "unlike")))))
    (sRet (eCall gLen (aCons (asL (fLc [7] (iSeq (bVar 3)) (gNm 7) (asB (eOp gNe (bVar 7) (eC (.int 0)))) (eVar 7))) aNil)))
    sNop)
    (sSeq (sIf (asB (eOp gEq (eOp gIx (bVar 0) (eC (.int 0))) (eC (.str (PySem.Str.ofString "weights")))))
    (sRet (eCall gSum (aCons (asL (fLc [6] (iRg1 (aCons (eCall gLen (aCons (bVar 1) aNil)) aNil)) (gNm 6) tYesF (eOp gMul (eOp gIx (eOp gIx (bVar 0) (eC (.int 1))) (bVar 6)) (eCall gAbs (aCons (eOp gIx (bVar 3) (bVar 6)) aNil))))) aNil)))
    sNop)
    (sSeq (sSet 4 (eC (.int 0)))
    (sSeq (sFor (iRg1 (aCons (eCall gLen (aCons (bVar 1) aNil)) aNil)) (gNm 5)
    (sSet 4 (eOp gAdd (bVar 4) (eOp gMul (eOp gIx (bVar 3) (bVar 5)) (eCall gSum (aCons (asL (fLc [8] (iRg1 (aCons (eCall gLen (aCons (bVar 1) aNil)) aNil)) (gNm 8) tYesF (eOp gMul (eOp gIx (eOp gIx (eOp gIx (bVar 0) (eC (.int 1))) (bVar 5)) (bVar 8)) (eOp gIx (bVar 3) (bVar 8))))) aNil))))))
    (sRet (eVar 4))))))))))
def run_l_far : List D → Option D := runC 3 6 b_l_far
def absI (i : Int) : Int := if i < 0 then -i else i
theorem absI_eq (i : Int) : absI i = if i < 0 then -i else i := rfl
/-- a way to tell distances -/
inductive Way where
  | steps | air | widest | unlike | weights (ws : List Int) | form (rows : List (List Int))
def sS (s : String) : D := .str (PySem.Str.ofString s)
def intT (ns : List Int) : D := .tup (ns.map D.int)
def Way.d : Way → D
  | .steps => sS "steps"
  | .air => sS "air"
  | .widest => sS "widest"
  | .unlike => sS "unlike"
  | .weights ws => .tup [sS "weights", intT ws]
  | .form rows => .tup [sS "form", .tup (rows.map intT)]
def dotI (u v : List Int) : Int := (List.zipWith (fun x y => x * y) u v).sum
def max0 : List Int → Int
  | [] => 0
  | x :: r => maxL x r
def Way.far : Way → List Int → Int
  | .steps, s => (s.map absI).sum
  | .air, s => (s.map fun x => x * x).sum
  | .widest, s => max0 (s.map absI)
  | .unlike, s => (s.filter fun x => !decide (x = 0)).length
  | .weights ws, s => (List.zipWith (fun w x => w * absI x) ws s).sum
  | .form rows, s => (List.zipWith (fun x r => x * dotI r s) s rows).sum
/-- a way for vectors of n numbers -/
def Way.ok (n : Nat) : Way → Prop
  | .widest => 0 < n
  | .weights ws => ws.length = n ∧ ∀ w ∈ ws, -1000000000 ≤ w ∧ w ≤ 1000000000
  | .form rows => rows.length = n ∧ ∀ r ∈ rows, r.length = n ∧ ∀ x ∈ r, -1000000000 ≤ x ∧ x ≤ 1000000000
  | _ => True
def small (ns : List Int) : Prop := ∀ x ∈ ns, -1000000000 ≤ x ∧ x ≤ 1000000000
def subI (u v : List Int) : List Int := List.zipWith (fun x y => x - y) u v
theorem zipL_ints (u v : List Int) : zipL (u.map D.int) (v.map D.int) = (u.zip v).map fun p => .tup [.int p.1, .int p.2] := by
  induction u generalizing v with
  | nil => simp [zipL]
  | cons x u ih =>
    cases v with
    | nil => simp [zipL]
    | cons y v => simp [zipL, ih]
theorem subI_zip (u v : List Int) : (u.zip v).map (fun p => p.1 - p.2) = subI u v := by
  unfold subI
  rw [List.zip_eq_zipWith, List.map_zipWith]
theorem subI_len {u v : List Int} (h : u.length = v.length) : (subI u v).length = u.length := by simp [subI, h]
theorem subI_small {u v : List Int} (hu : small u) (hv : small v) : ∀ x ∈ subI u v, -2000000000 ≤ x ∧ x ≤ 2000000000 := by
  intro x hx
  rw [← subI_zip] at hx
  obtain ⟨p, hp, rfl⟩ := List.mem_map.mp hx
  have h1 := hu p.1 (List.of_mem_zip hp).1
  have h2 := hv p.2 (List.of_mem_zip hp).2
  omega
theorem gEq_str {x y : Str} (hx : PyData.strOk x = true) (hy : PyData.strOk y = true) : gEq (.str x) (.str y) = some (.bl (x == y)) := by
  simp [gEq, okN, hx, hy, eqD, py, PyData.eqv]
theorem gEq_tup_str {xs : List D} {y : Str} (hx : okN 64 (.tup xs) = true) (hy : PyData.strOk y = true) : gEq (.tup xs) (.str y) = some (.bl false) := by
  unfold gEq
  rw [hx, show okN 64 (.str y) = true from hy]
  simp [eqD, py, PyData.eqv]
theorem okN_ints (n : Nat) (ns : List Int) : okN (n + 1) (intT ns) = true := by
  unfold intT
  simp only [okN, List.all_eq_true]
  intro x hx
  obtain ⟨i, _, rfl⟩ := List.mem_map.mp hx
  cases n <;> rfl
theorem okN_rows (n : Nat) (rows : List (List Int)) : okN (n + 2) (.tup (rows.map intT)) = true := by
  simp only [okN, List.all_eq_true]
  intro x hx
  obtain ⟨r, _, rfl⟩ := List.mem_map.mp hx
  exact okN_ints n r
theorem ok_w : PyData.strOk (PySem.Str.ofString "weights") = true := by decide +kernel
theorem ok_f : PyData.strOk (PySem.Str.ofString "form") = true := by decide +kernel
theorem way_ok (w : Way) : okN 64 w.d = true := by
  cases w with
  | steps => show PyData.strOk _ = true; decide +kernel
  | air => show PyData.strOk _ = true; decide +kernel
  | widest => show PyData.strOk _ = true; decide +kernel
  | unlike => show PyData.strOk _ = true; decide +kernel
  | weights ws =>
    show ([sS "weights", intT ws].all (okN 63)) = true
    simp only [List.all_cons, List.all_nil, Bool.and_true, Bool.and_eq_true]
    exact ⟨ok_w, okN_ints 62 ws⟩
  | form rows =>
    show ([sS "form", .tup (rows.map intT)].all (okN 63)) = true
    simp only [List.all_cons, List.all_nil, Bool.and_true, Bool.and_eq_true]
    exact ⟨ok_f, okN_rows 61 rows⟩
/-- a way's name, as the program asks for it -/
def Way.nm : Way → String
  | .steps => "steps"
  | .air => "air"
  | .widest => "widest"
  | .unlike => "unlike"
  | _ => ""
theorem bl_eq {a b : Bool} (h : a = b) : some (D.bl a) = some (D.bl b) := by rw [h]
theorem way_is (w : Way) (s : String) (hs : s ∈ ["steps", "air", "widest", "unlike"]) : gEq w.d (.str (PySem.Str.ofString s)) = some (.bl (decide (w.nm = s))) := by
  have hok : PyData.strOk (PySem.Str.ofString s) = true := by
    simp only [List.mem_cons, List.not_mem_nil, or_false] at hs
    rcases hs with rfl | rfl | rfl | rfl <;> decide +kernel
  cases w with
  | weights ws =>
    rw [show (Way.weights ws).d = .tup [sS "weights", intT ws] from rfl, gEq_tup_str (way_ok (.weights ws)) hok]
    simp only [List.mem_cons, List.not_mem_nil, or_false] at hs
    rcases hs with rfl | rfl | rfl | rfl <;> exact bl_eq (by simp [Way.nm])
  | form rows =>
    rw [show (Way.form rows).d = .tup [sS "form", .tup (rows.map intT)] from rfl, gEq_tup_str (way_ok (.form rows)) hok]
    simp only [List.mem_cons, List.not_mem_nil, or_false] at hs
    rcases hs with rfl | rfl | rfl | rfl <;> exact bl_eq (by simp [Way.nm])
  | _ =>
    simp only [Way.d, sS]
    rw [gEq_str (by decide +kernel) hok]
    simp only [List.mem_cons, List.not_mem_nil, or_false] at hs
    rcases hs with rfl | rfl | rfl | rfl <;> exact bl_eq (by decide +kernel)

theorem h_w : gEq (sS "weights") (.str (PySem.Str.ofString "weights")) = some (.bl true) := by
  rw [show sS "weights" = D.str (PySem.Str.ofString "weights") from rfl, gEq_str ok_w ok_w]
  exact bl_eq (by decide +kernel)
theorem h_f : gEq (sS "form") (.str (PySem.Str.ofString "weights")) = some (.bl false) := by
  rw [show sS "form" = D.str (PySem.Str.ofString "form") from rfl, gEq_str ok_f ok_w]
  exact bl_eq (by decide +kernel)

/-! the program's own -/
theorem far_steps {w : D} {u v : List Int} {r : List Sl} (hz : u.length ≤ 1000000) :
    asL (fLc [5, 6] (iZipD (aCons (bVar 1) (aCons (bVar 2) aNil))) (gTp (gsCons (gNm 5) (gsCons (gNm 6) gsNil))) tYesF (eOp gSub (bVar 5) (bVar 6))) [.val w, .val (intT u), .val (intT v), .un, .un, .un, .un, .un, .un, .un, .un] = some (.lst ((subI u v).map D.int)) := by
  have h := fLc_map (own := [5, 6]) (it := iZipD (aCons (bVar 1) (aCons (bVar 2) aNil))) (t := gTp (gsCons (gNm 5) (gsCons (gNm 6) gsNil))) (c := tYesF) (y := eOp gSub (bVar 5) (bVar 6)) (env := [.val w, .val (intT u), .val (intT v), .un, .un, .un, .un, .un, .un, .un, .un])
    (enc := fun p : Int × Int => .tup [.int p.1, .int p.2]) (g := fun p => .int (p.1 - p.2)) (xs := u.zip v) (by
      show (seqD (intT u)).bind (fun xs => (seqD (intT v)).bind fun ys => some (zipL xs ys)) = _
      show some (zipL (u.map D.int) (v.map D.int)) = _
      rw [zipL_ints]) (by rw [List.length_zip]; omega) (fun p _ => ⟨_, rfl, rfl, rfl⟩)
  rw [ev_asL, h, ← subI_zip, List.map_map]
  rfl
theorem lst_map {α : Type} {xs : List α} {f : α → Int} {g : α → D} (h : ∀ x, g x = D.int (f x)) : xs.map g = (xs.map f).map D.int := by
  rw [List.map_map]
  exact List.map_congr_left fun x _ => h x
theorem gMaxA_l (s : List Int) (h : 0 < s.length) : gMaxA [.lst (s.map D.int)] = some (.int (max0 s)) := by
  show gBest maxL maxDD (s.map D.int) = _
  unfold gBest
  rw [intsOf_map]
  cases s with
  | nil => cases h
  | cons x r => rfl
theorem nm_form (rows : List (List Int)) (s : String) (h : s ≠ "") : decide ((Way.form rows).nm = s) = false := decide_eq_false fun e => h e.symm
/-- a comprehension over the steps -/
theorem over_steps {i : Nat} {env : List Sl} {st : List Int} {f : Int → Int} {y : Fe} (h3 : env[3]? = some (.val (.lst (st.map D.int)))) (hz : st.length ≤ 1000000) (h : ∀ x ∈ st, y ((env.set i .un).set i (.val (.int x))) = some (.int (f x))) :
    asL (fLc [i] (iSeq (bVar 3)) (gNm i) tYesF y) env = some (.lst ((st.map f).map D.int)) := by
  have h' := fLc_map (own := [i]) (it := iSeq (bVar 3)) (t := gNm i) (c := tYesF) (y := y) (env := env) (enc := D.int) (g := fun x => .int (f x)) (xs := st) (by
      rw [ev_iseq, ev_bvar, h3]
      rfl) (by omega) (fun x hx => ⟨_, rfl, rfl, by rw [wipe_cons, wipe_nil]; exact h x hx⟩)
  rw [ev_asL, h', List.map_map]
  rfl
theorem zip_rng {α β : Type} (f : α → β → Int) (a0 : α) (b0 : β) (xs : List α) (ys : List β) (n : Nat) (h1 : xs.length = n) (h2 : ys.length = n) : (rngN n).map (fun i => f (xs.getD i.toNat a0) (ys.getD i.toNat b0)) = List.zipWith f xs ys := by
  apply List.ext_getElem
  · simp [rngN_len, h1, h2]
  · intro i q1 q2
    have l1 : i < xs.length := by
      rw [List.length_map, rngN_len] at q1
      omega
    have l2 : i < ys.length := by omega
    rw [List.getElem_map, List.getElem_zipWith]
    unfold rngN
    rw [List.getElem_map, List.getElem_range, Int.toNat_natCast]
    simp [List.getD, List.getElem?_eq_getElem l1, List.getElem?_eq_getElem l2]
theorem gIx_rows {rows : List (List Int)} {i : Int} (h0 : 0 ≤ i) (h1 : i < rows.length) : gIx (.tup (rows.map intT)) (.int i) = some (intT (rows.getD i.toNat [])) := by
  rw [gIx_t h0 (by rw [List.length_map]; exact h1), List.getElem?_map]
  have h : i.toNat < rows.length := by omega
  rw [List.getElem?_eq_getElem h]
  simp [List.getD, List.getElem?_eq_getElem h]
theorem getD_mem {α : Type} {xs : List α} {i : Nat} (a : α) (h : i < xs.length) : xs.getD i a ∈ xs := by
  simp [List.getD, List.getElem?_eq_getElem h]
theorem run_far_ok (w : Way) (u v : List Int) (hl : u.length = v.length) (hw : w.ok u.length) (hz : u.length ≤ 1000000) (hu : small u) (hv : small v) : run_far [w.d, intT u, intT v] = some (.int (w.far (subI u v))) := by
  have hs := subI_small hu hv
  have hn := subI_len hl
  generalize hst : subI u v = st at hs hn
  refine runC_rt rfl ?_
  refine seq_set (far_steps (r := []) hz) ?_
  rw [hst]
  simp only [List.map_cons, List.map_nil, List.cons_append, List.nil_append, List.replicate, List.set_cons_succ, List.set_cons_zero]
  have t1 := way_is w "steps" (by decide)
  have t2 := way_is w "air" (by decide)
  have t3 := way_is w "widest" (by decide)
  have t4 := way_is w "unlike" (by decide)
  have hz' : st.length ≤ 1000000 := by omega
  cases w with
  | steps =>
    refine seq_if1r (by simp [t1, Way.nm]) (run_ret ?_)
    rw [ev_call, ev_cons, over_steps (f := absI) rfl hz' (fun x hx => by simp [gAbs_i, absI])]
    simp only [Option.bind_some, ev_nil, gSum_l]
    rfl
  | air =>
    refine seq_if0 (by simp [t1, Way.nm]) ?_
    refine seq_if1r (by simp [t2, Way.nm]) (run_ret ?_)
    rw [ev_call, ev_cons, over_steps (f := fun x => x * x) rfl hz' (fun x hx => by
      have := hs x hx
      simp [gMul_i (mulOk_l (i := x) (j := x) (by omega) (by omega))])]
    simp only [Option.bind_some, ev_nil, gSum_l]
    rfl
  | widest =>
    refine seq_if0 (by simp [t1, Way.nm]) ?_
    refine seq_if0 (by simp [t2, Way.nm]) ?_
    refine seq_if1r (by simp [t3, Way.nm]) (run_ret ?_)
    rw [ev_call, ev_cons, over_steps (f := absI) rfl hz' (fun x hx => by simp [gAbs_i, absI])]
    have hp : 0 < (st.map absI).length := by
      rw [List.length_map, hn]
      exact hw
    simp only [Option.bind_some, ev_nil]
    exact gMaxA_l _ hp
  | unlike =>
    refine seq_if0 (by simp [t1, Way.nm]) ?_
    refine seq_if0 (by simp [t2, Way.nm]) ?_
    refine seq_if0 (by simp [t3, Way.nm]) ?_
    refine seq_if1r (by simp [t4, Way.nm]) (run_ret ?_)
    rw [ev_call, ev_cons, ev_asL, fLc_filter (enc := D.int) (g := fun _ => D.int 1) (p := fun x => !decide (x = 0)) (xs := st) (by rfl) (by omega) (fun x hx => ⟨_, rfl, by simp, fun _ => rfl⟩)]
    simp [Way.far]
  | weights ws =>
    refine seq_if0 (by simp [t1, Way.nm]) ?_
    refine seq_if0 (by simp [t2, Way.nm]) ?_
    refine seq_if0 (by simp [t3, Way.nm]) ?_
    refine seq_if0 (by simp [t4, Way.nm]) ?_
    have g0 : gIx (Way.weights ws).d (.int 0) = some (sS "weights") := rfl
    have g1 : gIx (Way.weights ws).d (.int 1) = some (intT ws) := rfl
    refine seq_if1r (by simp [g0, h_w]) (run_ret ?_)
    have hf := fLc_map (own := [8, 7]) (it := iZipD (aCons (eOp gIx (bVar 0) (eC (.int 1))) (aCons (bVar 3) aNil))) (t := gTp (gsCons (gNm 8) (gsCons (gNm 7) gsNil))) (c := tYesF) (y := eOp gMul (bVar 8) (eCall gAbs (aCons (bVar 7) aNil))) (env := [.val (Way.weights ws).d, .val (intT u), .val (intT v), .val (.lst (st.map D.int)), .un, .un, .un, .un, .un, .un, .un])
      (enc := fun p : Int × Int => .tup [.int p.1, .int p.2]) (g := fun p => .int (p.1 * absI p.2)) (xs := ws.zip st) (by
        show some (zipL (ws.map D.int) (st.map D.int)) = _
        rw [zipL_ints]) (by rw [List.length_zip]; omega) (fun p hp => by
        have h1 := hw.2 p.1 (List.of_mem_zip hp).1
        refine ⟨_, rfl, rfl, ?_⟩
        simp [gAbs_i, gMul_i (mulOk_l (i := p.1) (j := absI p.2) (by omega) (by omega)), ← absI_eq])
    rw [ev_call, ev_cons, ev_asL, hf, lst_map (f := fun p : Int × Int => p.1 * absI p.2) (fun _ => rfl)]
    simp only [Option.map_some, Option.bind_some, ev_nil, gSum_l]
    unfold Way.far
    rw [List.zip_eq_zipWith, List.map_zipWith]
  | form rows =>
    refine seq_if0 (by simp [t1, Way.nm]) ?_
    refine seq_if0 (by simp [t2, Way.nm]) ?_
    refine seq_if0 (by simp [t3, Way.nm]) ?_
    refine seq_if0 (by simp [t4, Way.nm]) ?_
    have g0 : gIx (Way.form rows).d (.int 0) = some (sS "form") := rfl
    have g1 : gIx (Way.form rows).d (.int 1) = some (.tup (rows.map intT)) := rfl
    refine seq_if0 (by simp [g0, h_f]) ?_
    refine seq_set (d := .tup (rows.map intT)) (by simp [g1]) ?_
    simp only [List.set_cons_succ, List.set_cons_zero]
    refine run_ret ?_
    have hr := ev_rg1 (fl := aCons (eCall gLen (aCons (bVar 3) aNil)) aNil) (env := [.val (Way.form rows).d, .val (intT u), .val (intT v), .val (.lst (st.map D.int)), .val (.tup (rows.map intT)), .un, .un, .un, .un, .un, .un]) (j := st.length) (by simp) (by omega) (by omega)
    have hf := fLc_map (own := [9]) (t := gNm 9) (c := tYesF) (y := eOp gMul (eOp gIx (bVar 3) (bVar 9)) (eCall gSum (aCons (asL (fLc [10, 7] (iZipD (aCons (eOp gIx (bVar 4) (bVar 9)) (aCons (bVar 3) aNil))) (gTp (gsCons (gNm 10) (gsCons (gNm 7) gsNil))) tYesF (eOp gMul (bVar 10) (bVar 7)))) aNil)))
      (g := fun i => D.int (st.getD i.toNat 0 * dotI (rows.getD i.toNat []) st)) hr (by rw [rngN_len]; omega) (fun i hi => by
        obtain ⟨i0, i1⟩ := mem_rngN hi
        have il : i.toNat < st.length := by omega
        have il2 : i.toNat < rows.length := by
          rw [hw.1]
          omega
        refine ⟨_, rfl, rfl, ?_⟩
        have e1 := gIx_li (ns := st) i0 (by omega)
        have e2 := gIx_rows (rows := rows) i0 (by omega)
        have b1 := hs _ (getD_mem 0 il)
        obtain ⟨lr, br⟩ := hw.2 _ (getD_mem [] il2)
        have hin := fLc_map (own := [10, 7]) (it := iZipD (aCons (eOp gIx (bVar 4) (bVar 9)) (aCons (bVar 3) aNil))) (t := gTp (gsCons (gNm 10) (gsCons (gNm 7) gsNil))) (c := tYesF) (y := eOp gMul (bVar 10) (bVar 7)) (env := [.val (Way.form rows).d, .val (intT u), .val (intT v), .val (.lst (st.map D.int)), .val (.tup (rows.map intT)), .un, .un, .un, .un, .val (.int i), .un])
          (enc := fun p : Int × Int => .tup [.int p.1, .int p.2]) (g := fun p => .int (p.1 * p.2)) (xs := (rows.getD i.toNat []).zip st) (by
            unfold iZipD
            simp only [ev_cons, ev_op, ev_bvar, ev_nil, List.getElem?_cons_succ, List.getElem?_cons_zero, Option.bind_some, slB_val, e2]
            show some (zipL ((rows.getD i.toNat []).map D.int) (st.map D.int)) = _
            rw [zipL_ints]) (by rw [List.length_zip]; omega) (fun p hp => by
            have h1 := br p.1 (List.of_mem_zip hp).1
            refine ⟨_, rfl, rfl, ?_⟩
            simp [gMul_i (mulOk_l (i := p.1) (j := p.2) (by omega) (by omega))])
        show (eOp gMul (eOp gIx (bVar 3) (bVar 9)) (eCall gSum (aCons (asL (fLc [10, 7] (iZipD (aCons (eOp gIx (bVar 4) (bVar 9)) (aCons (bVar 3) aNil))) (gTp (gsCons (gNm 10) (gsCons (gNm 7) gsNil))) tYesF (eOp gMul (bVar 10) (bVar 7)))) aNil))) [.val (Way.form rows).d, .val (intT u), .val (intT v), .val (.lst (st.map D.int)), .val (.tup (rows.map intT)), .un, .un, .un, .un, .val (.int i), .un] = _
        rw [ev_op, ev_call, ev_cons, ev_asL, hin, lst_map (f := fun p : Int × Int => p.1 * p.2) (fun _ => rfl)]
        simp only [ev_op, ev_bvar, ev_nil, List.getElem?_cons_succ, List.getElem?_cons_zero, Option.bind_some, Option.map_some, slB_val, e1, gSum_l]
        rw [gMul_i (mulOk_l (by omega) (by omega))]
        unfold dotI
        rw [List.zip_eq_zipWith, List.map_zipWith])
    rw [ev_call, ev_cons, ev_asL, hf, lst_map (f := fun i : Int => st.getD i.toNat 0 * dotI (rows.getD i.toNat []) st) (fun _ => rfl)]
    simp only [Option.map_some, Option.bind_some, ev_nil, gSum_l, Int.toNat_natCast]
    rw [zip_rng (fun x r => x * dotI r st) 0 [] st rows st.length rfl (by rw [hw.1, hn])]
    rfl

/-! the law's own -/
def lastS (ys : List Int) : Sl := match ys.getLast? with
  | none => .un
  | some i => .val (.int i)
theorem lastS_snoc (ys : List Int) (x : Int) : lastS (ys ++ [x]) = .val (.int x) := by simp [lastS]
theorem run_l_far_ok (w : Way) (u v : List Int) (hl : u.length = v.length) (hw : w.ok u.length) (hz : u.length ≤ 1000000) (hu : small u) (hv : small v) : run_l_far [w.d, intT u, intT v] = some (.int (w.far (subI u v))) := by
  have hs := subI_small hu hv
  have hn := subI_len hl
  have h0 : asL (fLc [6] (iRg1 (aCons (eCall gLen (aCons (bVar 1) aNil)) aNil)) (gNm 6) tYesF (eOp gSub (eOp gIx (bVar 1) (bVar 6)) (eOp gIx (bVar 2) (bVar 6)))) [.val w.d, .val (intT u), .val (intT v), .un, .un, .un, .un, .un, .un] = some (.lst ((subI u v).map D.int)) := by
    have hr := ev_rg1 (fl := aCons (eCall gLen (aCons (bVar 1) aNil)) aNil) (env := [.val w.d, .val (intT u), .val (intT v), .un, .un, .un, .un, .un, .un]) (j := u.length) (by simp [intT]) (by omega) (by omega)
    have hf := fLc_map (own := [6]) (t := gNm 6) (c := tYesF) (y := eOp gSub (eOp gIx (bVar 1) (bVar 6)) (eOp gIx (bVar 2) (bVar 6))) (g := fun i => D.int (u.getD i.toNat 0 - v.getD i.toNat 0)) hr (by rw [rngN_len]; omega) (fun i hi => by
      obtain ⟨i0, i1⟩ := mem_rngN hi
      refine ⟨_, rfl, rfl, ?_⟩
      have e1 : gIx (intT u) (.int i) = _ := gIx_ti (ns := u) i0 (by omega)
      have e2 : gIx (intT v) (.int i) = _ := gIx_ti (ns := v) i0 (by omega)
      simp only [ev_op, ev_bvar, wipe_cons, wipe_nil, List.set_cons_succ, List.set_cons_zero, List.getElem?_cons_succ, List.getElem?_cons_zero, Option.bind_some, slB_val, e1, e2, gSub_i])
    rw [ev_asL, hf, lst_map (f := fun i : Int => u.getD i.toNat 0 - v.getD i.toNat 0) (fun _ => rfl), Int.toNat_natCast, zip_rng (fun x y => x - y) 0 0 u v u.length rfl hl.symm]
    rfl
  generalize hst : subI u v = st at hs hn h0
  refine runC_rt rfl ?_
  refine seq_set h0 ?_
  simp only [List.map_cons, List.map_nil, List.cons_append, List.nil_append, List.replicate, List.set_cons_succ, List.set_cons_zero]
  have t1 := way_is w "steps" (by decide)
  have t2 := way_is w "air" (by decide)
  have t3 := way_is w "widest" (by decide)
  have t4 := way_is w "unlike" (by decide)
  have hz' : st.length ≤ 1000000 := by omega
  cases w with
  | steps =>
    refine seq_if1r (by simp [t1, Way.nm]) (run_ret ?_)
    rw [ev_call, ev_cons, over_steps (f := absI) rfl hz' (fun x hx => by simp [gAbs_i, absI])]
    simp only [Option.bind_some, ev_nil, gSum_l]
    rfl
  | air =>
    refine seq_if0 (by simp [t1, Way.nm]) ?_
    refine seq_if1r (by simp [t2, Way.nm]) (run_ret ?_)
    rw [ev_call, ev_cons, over_steps (f := fun x => x * x) rfl hz' (fun x hx => by
      have := hs x hx
      simp [gMul_i (mulOk_l (i := x) (j := x) (by omega) (by omega))])]
    simp only [Option.bind_some, ev_nil, gSum_l]
    rfl
  | widest =>
    refine seq_if0 (by simp [t1, Way.nm]) ?_
    refine seq_if0 (by simp [t2, Way.nm]) ?_
    refine seq_if1r (by simp [t3, Way.nm]) (run_ret ?_)
    rw [ev_call, ev_cons, over_steps (f := absI) rfl hz' (fun x hx => by simp [gAbs_i, absI])]
    have hp : 0 < (st.map absI).length := by
      rw [List.length_map, hn]
      exact hw
    simp only [Option.bind_some, ev_nil]
    exact gMaxA_l _ hp
  | unlike =>
    refine seq_if0 (by simp [t1, Way.nm]) ?_
    refine seq_if0 (by simp [t2, Way.nm]) ?_
    refine seq_if0 (by simp [t3, Way.nm]) ?_
    refine seq_if1r (by simp [t4, Way.nm]) (run_ret ?_)
    rw [ev_call, ev_cons, ev_asL, fLc_filter (enc := D.int) (g := fun x => D.int x) (p := fun x => !decide (x = 0)) (xs := st) (by rfl) (by omega) (fun x hx => ⟨_, rfl, by simp, fun _ => by simp⟩)]
    simp [Way.far]
  | weights ws =>
    refine seq_if0 (by simp [t1, Way.nm]) ?_
    refine seq_if0 (by simp [t2, Way.nm]) ?_
    refine seq_if0 (by simp [t3, Way.nm]) ?_
    refine seq_if0 (by simp [t4, Way.nm]) ?_
    have g0 : gIx (Way.weights ws).d (.int 0) = some (sS "weights") := rfl
    have g1 : gIx (Way.weights ws).d (.int 1) = some (intT ws) := rfl
    refine seq_if1r (by simp [g0, h_w]) (run_ret ?_)
    have hr := ev_rg1 (fl := aCons (eCall gLen (aCons (bVar 1) aNil)) aNil) (env := [.val (Way.weights ws).d, .val (intT u), .val (intT v), .val (.lst (st.map D.int)), .un, .un, .un, .un, .un]) (j := u.length) (by simp [intT]) (by omega) (by omega)
    have hf := fLc_map (own := [6]) (t := gNm 6) (c := tYesF) (y := eOp gMul (eOp gIx (eOp gIx (bVar 0) (eC (.int 1))) (bVar 6)) (eCall gAbs (aCons (eOp gIx (bVar 3) (bVar 6)) aNil))) (g := fun i => D.int (ws.getD i.toNat 0 * absI (st.getD i.toNat 0))) hr (by rw [rngN_len]; omega) (fun i hi => by
      obtain ⟨i0, i1⟩ := mem_rngN hi
      have lw : i.toNat < ws.length := by
        rw [hw.1]
        omega
      refine ⟨_, rfl, rfl, ?_⟩
      have e1 : gIx (intT ws) (.int i) = _ := gIx_ti (ns := ws) i0 (by omega)
      have e2 := gIx_li (ns := st) i0 (by omega)
      have b1 := hw.2 _ (getD_mem 0 lw)
      simp only [ev_op, ev_call, ev_cons, ev_nil, ev_c, ev_bvar, wipe_cons, wipe_nil, List.set_cons_succ, List.set_cons_zero, List.getElem?_cons_succ, List.getElem?_cons_zero, Option.bind_some, slB_val, g1, e1, e2, gAbs_i, ← absI_eq]
      rw [gMul_i (mulOk_l (by omega) (by omega))])
    rw [ev_call, ev_cons, ev_asL, hf, lst_map (f := fun i : Int => ws.getD i.toNat 0 * absI (st.getD i.toNat 0)) (fun _ => rfl)]
    simp only [Option.map_some, Option.bind_some, ev_nil, gSum_l, Int.toNat_natCast]
    rw [zip_rng (fun x y => x * absI y) 0 0 ws st u.length hw.1 hn]
    rfl
  | form rows =>
    refine seq_if0 (by simp [t1, Way.nm]) ?_
    refine seq_if0 (by simp [t2, Way.nm]) ?_
    refine seq_if0 (by simp [t3, Way.nm]) ?_
    refine seq_if0 (by simp [t4, Way.nm]) ?_
    have g0 : gIx (Way.form rows).d (.int 0) = some (sS "form") := rfl
    have g1 : gIx (Way.form rows).d (.int 1) = some (.tup (rows.map intT)) := rfl
    refine seq_if0 (by simp [g0, h_f]) ?_
    refine seq_set (d := .int 0) rfl ?_
    simp only [List.set_cons_succ, List.set_cons_zero]
    have hr := ev_rg1 (fl := aCons (eCall gLen (aCons (bVar 1) aNil)) aNil) (env := [.val (Way.form rows).d, .val (intT u), .val (intT v), .val (.lst (st.map D.int)), .val (.int 0), .un, .un, .un, .un]) (j := u.length) (by simp [intT]) (by omega) (by omega)
    rw [Int.toNat_natCast] at hr
    refine seq_for (fun ys => [.val (Way.form rows).d, .val (intT u), .val (intT v), .val (.lst (st.map D.int)), .val (.int (ys.map fun i : Int => st.getD i.toNat 0 * dotI (rows.getD i.toNat []) st).sum), lastS ys, .un, .un, .un]) hr rfl (fun ys i zs hi => ?_) ?_
    · have him : i ∈ rngN u.length := by
        rw [hi]
        simp
      obtain ⟨i0, i1⟩ := mem_rngN him
      have il : i.toNat < st.length := by omega
      have il2 : i.toNat < rows.length := by
        rw [hw.1]
        omega
      have e1 := gIx_li (ns := st) i0 (by omega)
      have e2 := gIx_rows (rows := rows) i0 (by omega)
      have b1 := hs _ (getD_mem 0 il)
      obtain ⟨lr, br⟩ := hw.2 _ (getD_mem [] il2)
      refine ⟨[.val (Way.form rows).d, .val (intT u), .val (intT v), .val (.lst (st.map D.int)), .val (.int (ys.map fun i : Int => st.getD i.toNat 0 * dotI (rows.getD i.toNat []) st).sum), .val (.int i), .un, .un, .un], rfl, .inl ?_⟩
      have hr2 := ev_rg1 (fl := aCons (eCall gLen (aCons (bVar 1) aNil)) aNil) (env := [.val (Way.form rows).d, .val (intT u), .val (intT v), .val (.lst (st.map D.int)), .val (.int (ys.map fun i : Int => st.getD i.toNat 0 * dotI (rows.getD i.toNat []) st).sum), .val (.int i), .un, .un, .un]) (j := u.length) (by simp [intT]) (by omega) (by omega)
      have hf := fLc_map (own := [8]) (t := gNm 8) (c := tYesF) (y := eOp gMul (eOp gIx (eOp gIx (eOp gIx (bVar 0) (eC (.int 1))) (bVar 5)) (bVar 8)) (eOp gIx (bVar 3) (bVar 8))) (g := fun j => D.int ((rows.getD i.toNat []).getD j.toNat 0 * st.getD j.toNat 0)) hr2 (by rw [rngN_len]; omega) (fun j hj => by
        obtain ⟨j0, j1⟩ := mem_rngN hj
        have jl : j.toNat < (rows.getD i.toNat []).length := by
          rw [lr]
          omega
        refine ⟨_, rfl, rfl, ?_⟩
        have e3 : gIx (intT (rows.getD i.toNat [])) (.int j) = _ := gIx_ti j0 (by omega)
        have e4 := gIx_li (ns := st) j0 (by omega)
        have b2 := br _ (getD_mem 0 jl)
        simp only [ev_op, ev_c, ev_bvar, wipe_cons, wipe_nil, List.set_cons_succ, List.set_cons_zero, List.getElem?_cons_succ, List.getElem?_cons_zero, Option.bind_some, slB_val, g1, e2, e3, e4]
        rw [gMul_i (mulOk_l (by omega) (by omega))])
      rw [Int.toNat_natCast] at hf
      rw [lst_map (f := fun j : Int => (rows.getD i.toNat []).getD j.toNat 0 * st.getD j.toNat 0) (fun _ => rfl), zip_rng (fun x y => x * y) 0 0 (rows.getD i.toNat []) st u.length lr hn] at hf
      rw [run_set (d := .int ((ys.map fun i : Int => st.getD i.toNat 0 * dotI (rows.getD i.toNat []) st).sum + st.getD i.toNat 0 * dotI (rows.getD i.toNat []) st)) (by
        rw [ev_op, ev_op, ev_call, ev_cons, ev_asL, hf]
        simp only [ev_op, ev_bvar, ev_nil, List.getElem?_cons_succ, List.getElem?_cons_zero, Option.bind_some, Option.map_some, slB_val, e1, gSum_l]
        rw [gMul_i (mulOk_l (by omega) (by omega))]
        rfl)]
      rw [lastS_snoc, List.map_append, List.sum_append]
      simp
    · refine run_ret ?_
      simp only [ev_var, List.getElem?_cons_succ, List.getElem?_cons_zero, Option.bind_some, slV_val]
      rw [zip_rng (fun x r => x * dotI r st) 0 [] st rows u.length hn hw.1]
      rfl
end PD

set_option Elab.async false
set_option linter.all false
set_option maxRecDepth 100000
namespace PD
open PySem L2
/-! ### a way that is drawn -/
def b_l_way : Cmd :=
    (sSeq (sSet 3 (eOp gMod (eCall gInt (aCons (eOp gIx (bVar 0) (bVar 1)) aNil)) (eC (.int 6))))
    (sSeq (sIf (asB (eOp gEq (bVar 3) (eC (.int 4))))
    (sRet (eTup (aCons (eC (.str (PySem.Str.ofString "weights"))) (aCons (eCall gTuple (aCons (asL (fLc [6] (iRg1 (aCons (bVar 2) aNil)) (gNm 6) tYesF (eOp gAdd (eC (.int 1)) (eOp gMod (eCall gInt (aCons (eOp gIx (bVar 0) (eOp gAdd (eOp gAdd (bVar 1) (eC (.int 1))) (bVar 6))) aNil)) (eC (.int 5)))))) aNil)) aNil))))
    sNop)
    (sSeq (sIf (asB (eOp gEq (bVar 3) (eC (.int 5))))
    (sSeq (sSetO 4 (fun env => (aNil env).bind fun ds => if lim ds.length then some ds else none))
    (sSeq (sFor (iRg1 (aCons (bVar 2) aNil)) (gNm 5)
    (sApp 4 (eCall gTuple (aCons (asL (fLc [6] (iRg1 (aCons (bVar 2) aNil)) (gNm 6) tYesF (eOp gAdd (eOp gMul (eOp gAdd (eOp gMod (eCall gInt (aCons (eOp gIx (bVar 0) (eOp gAdd (eOp gAdd (bVar 1) (eC (.int 1))) (bVar 5))) aNil)) (eC (.int 3))) (eC (.int 4))) (eCall gInt (aCons (eOp gEq (bVar 5) (bVar 6)) aNil))) (eOp gMul (eOp gSub (eOp gMod (eCall gInt (aCons (eOp gIx (bVar 0) (eOp gAdd (bVar 1) (eC (.int 4)))) aNil)) (eC (.int 3))) (eC (.int 1))) (eCall gInt (aCons (eOp gNe (bVar 5) (bVar 6)) aNil)))))) aNil))))
    (sRet (eTup (aCons (eC (.str (PySem.Str.ofString "form"))) (aCons (eCall gTuple (aCons (bVar 4) aNil)) aNil))))))
    sNop)
    (sRet (eOp gIx (eTup (aCons (eC (.str (PySem.Str.ofString "steps"))) (aCons (eC (.str (PySem.Str.ofString "air"))) (aCons (eC (.str (PySem.Str.ofString "widest"))) (aCons (eC (.str (PySem.Str.ofString "unlike"))) aNil))))) (bVar 3))))))
def run_l_way : List D → Option D := runC 3 4 b_l_way
def b_l_cloud : Cmd :=
    (sSeq (sSetO 5 (fun env => (aNil env).bind fun ds => if lim ds.length then some ds else none))
    (sSeq (sFor (iRg1 (aCons (eOp gMod (eCall gInt (aCons (eOp gIx (bVar 0) (bVar 1)) aNil)) (eOp gAdd (bVar 2) (eC (.int 1)))) aNil)) (gNm 6)
    (sApp 5 (eCall gTuple (aCons (asL (fLc [7] (iRg1 (aCons (bVar 3) aNil)) (gNm 7) tYesF (eOp gSub (eOp gMod (eCall gInt (aCons (eOp gIx (bVar 0) (eOp gAdd (eOp gAdd (eOp gAdd (bVar 1) (eC (.int 1))) (eOp gMul (eC (.int 3)) (bVar 6))) (bVar 7))) aNil)) (eOp gAdd (eOp gMul (eC (.int 2)) (bVar 4)) (eC (.int 1)))) (bVar 4)))) aNil))))
    (sRet (eCall gTuple (aCons (bVar 5) aNil)))))
def run_l_cloud : List D → Option D := runC 5 3 b_l_cloud
/-- the numbers that a law draws -/
def Row (row : List Int) : Prop := ∀ x ∈ row, 0 ≤ x ∧ x < 1000003
theorem Row.at {row : List Int} (h : Row row) (i : Nat) : 0 ≤ row.getD i 0 ∧ row.getD i 0 < 1000003 := by
  by_cases hi : i < row.length
  · exact h _ (getD_mem 0 hi)
  · simp [List.getD, List.getElem?_eq_none (by omega : row.length ≤ i)]
def formR (ds : List Int) (t : Int) : List (List Int) := (rngN ds.length).map fun i => (rngN ds.length).map fun j => if i = j then ds.getD i.toNat 0 else t
def Way.good (n : Nat) : Way → Prop
  | .weights ws => ws.length = n ∧ ∀ w ∈ ws, 1 ≤ w ∧ w ≤ 5
  | .form rows => ∃ ds t, ds.length = n ∧ (∀ d ∈ ds, 4 ≤ d ∧ d ≤ 6) ∧ -1 ≤ t ∧ t ≤ 1 ∧ rows = formR ds t
  | _ => 0 < n
theorem Way.good_ok {n : Nat} {w : Way} (h : w.good n) (hn : 0 < n) : w.ok n := by
  cases w with
  | weights ws => exact ⟨h.1, fun x hx => by have := h.2 x hx; omega⟩
  | form rows =>
    obtain ⟨ds, t, h1, h2, h3, h4, rfl⟩ := h
    refine ⟨by simp [formR, rngN_len, h1], fun r hr => ?_⟩
    obtain ⟨i, hi, rfl⟩ := List.mem_map.mp hr
    refine ⟨by simp [rngN_len, h1], fun x hx => ?_⟩
    obtain ⟨j, hj, rfl⟩ := List.mem_map.mp hx
    obtain ⟨i0, i1⟩ := mem_rngN hi
    have := h2 _ (getD_mem 0 (show i.toNat < ds.length by omega))
    split <;> omega
  | widest => exact hn
  | _ => trivial
theorem wayIx {k : Int} (h0 : 0 ≤ k) (h1 : k < 4) : ∃ w : Way, gIx (.tup [sS "steps", sS "air", sS "widest", sS "unlike"]) (.int k) = some w.d ∧ ∀ n, 0 < n → w.good n := by
  have : k = 0 ∨ k = 1 ∨ k = 2 ∨ k = 3 := by omega
  rcases this with rfl | rfl | rfl | rfl
  · exact ⟨.steps, rfl, fun n h => h⟩
  · exact ⟨.air, rfl, fun n h => h⟩
  · exact ⟨.widest, rfl, fun n h => h⟩
  · exact ⟨.unlike, rfl, fun n h => h⟩
theorem gNe_i' {i j : Int} : gNe (.int i) (.int j) = some (.bl (!decide (i = j))) := gNe_i
theorem run_way (row : List Int) (a : Nat) (n : Nat) (hr : a + 5 ≤ row.length) (hz : row.length ≤ 1000000) (hn : 0 < n) (hn2 : a + 1 + n ≤ row.length) : ∃ w : Way, run_l_way [.lst (row.map D.int), .int a, .int n] = some w.d ∧ w.good n := by
  have e0 := gIx_li (ns := row) (i := (a : Int)) (by omega) (by omega)
  have b0 := mod_lt (a := row.getD (a : Int).toNat 0) (b := 6) (by omega)
  generalize hk : row.getD (a : Int).toNat 0 % 6 = k at b0
  have hrg : ∀ env : List Sl, env[2]? = some (.val (.int n)) → iRg1 (aCons (bVar 2) aNil) env = some ((rngN n).map D.int) := fun env h => by
    have := ev_rg1 (fl := aCons (bVar 2) aNil) (env := env) (j := n) (by simp [h]) (by omega) (by omega)
    rw [this, Int.toNat_natCast]
  have k0 : eOp gMod (eCall gInt (aCons (eOp gIx (bVar 0) (bVar 1)) aNil)) (eC (.int 6)) [.val (.lst (row.map D.int)), .val (.int a), .val (.int n), .un, .un, .un, .un] = some (.int k) := by
    simp only [ev_op, ev_call, ev_cons, ev_nil, ev_c, ev_bvar, List.getElem?_cons_succ, List.getElem?_cons_zero, Option.bind_some, slB_val, e0, gInt_i, gMod_i (i := row.getD (a : Int).toNat 0) (show (0:Int) < 6 by omega), hk]
  by_cases h4 : k = 4
  · refine ⟨.weights ((rngN n).map fun j => 1 + row.getD ((a : Int) + 1 + j).toNat 0 % 5), ?_, by simp [rngN_len], fun w hw => ?_⟩
    · refine runC_rt rfl ?_
      refine seq_set (d := .int k) k0 ?_
      refine seq_if1r (by simp [h4]) (run_ret ?_)
      have hf := fLc_map (own := [6]) (t := gNm 6) (c := tYesF) (y := eOp gAdd (eC (.int 1)) (eOp gMod (eCall gInt (aCons (eOp gIx (bVar 0) (eOp gAdd (eOp gAdd (bVar 1) (eC (.int 1))) (bVar 6))) aNil)) (eC (.int 5)))) (g := fun j => D.int (1 + row.getD ((a : Int) + 1 + j).toNat 0 % 5)) (hrg [.val (.lst (row.map D.int)), .val (.int a), .val (.int n), .val (.int k), .un, .un, .un] rfl) (by rw [rngN_len]; omega) (fun j hj => by
        obtain ⟨j0, j1⟩ := mem_rngN hj
        refine ⟨_, rfl, rfl, ?_⟩
        have e1 := gIx_li (ns := row) (i := (a : Int) + 1 + j) (by omega) (by omega)
        simp only [ev_op, ev_call, ev_cons, ev_nil, ev_c, ev_bvar, wipe_cons, wipe_nil, List.set_cons_succ, List.set_cons_zero, List.getElem?_cons_succ, List.getElem?_cons_zero, Option.bind_some, slB_val, gAdd_i, e1, gInt_i, gMod_i (show (0:Int) < 5 by omega)])
      show eTup (aCons (eC (.str (PySem.Str.ofString "weights"))) (aCons (eCall gTuple (aCons (asL (fLc [6] (iRg1 (aCons (bVar 2) aNil)) (gNm 6) tYesF (eOp gAdd (eC (.int 1)) (eOp gMod (eCall gInt (aCons (eOp gIx (bVar 0) (eOp gAdd (eOp gAdd (bVar 1) (eC (.int 1))) (bVar 6))) aNil)) (eC (.int 5)))))) aNil)) aNil)) [.val (.lst (row.map D.int)), .val (.int a), .val (.int n), .val (.int k), .un, .un, .un] = _
      unfold eTup
      rw [ev_cons, ev_cons, ev_call, ev_cons, ev_asL, hf, lst_map (f := fun j : Int => 1 + row.getD ((a : Int) + 1 + j).toNat 0 % 5) (fun _ => rfl)]
      rfl
    · obtain ⟨j, hj, rfl⟩ := List.mem_map.mp hw
      have := mod_lt (a := row.getD ((a : Int) + 1 + j).toNat 0) (b := 5) (by omega)
      omega
  · by_cases h5 : k = 5
    · have et := gIx_li (ns := row) (i := (a : Int) + 4) (by omega) (by omega)
      refine ⟨.form (formR ((rngN n).map fun i => row.getD ((a : Int) + 1 + i).toNat 0 % 3 + 4) (row.getD ((a : Int) + 4).toNat 0 % 3 - 1)), ?_, _, _, by simp [rngN_len], fun d hd => ?_, ?_, ?_, rfl⟩
      · refine runC_rt rfl ?_
        refine seq_set (d := .int k) k0 ?_
        refine seq_if0 (by simp [h4]) ?_
        refine seq_if1r (by simp [h5]) ?_
        refine seq_setO (ds := []) rfl ?_
        simp only [List.map_cons, List.map_nil, List.cons_append, List.nil_append, List.replicate, List.set_cons_succ, List.set_cons_zero]
        refine seq_for (fun ys => [.val (.lst (row.map D.int)), .val (.int a), .val (.int n), .val (.int k), .own (ys.map fun i => intT ((rngN n).map fun j => (row.getD ((a : Int) + 1 + i).toNat 0 % 3 + 4) * (if i = j then 1 else 0) + (row.getD ((a : Int) + 4).toNat 0 % 3 - 1) * (if i = j then 0 else 1))), lastS ys, .un]) (hrg _ rfl) rfl (fun ys i zs hi => ?_) ?_
        · have him : i ∈ rngN n := by
            rw [hi]
            simp
          have hyl : ys.length < n := by
            have := congrArg List.length hi
            rw [rngN_len, List.length_append, List.length_cons] at this
            omega
          obtain ⟨i0, i1⟩ := mem_rngN him
          refine ⟨_, rfl, .inl ?_⟩
          have e1 := gIx_li (ns := row) (i := (a : Int) + 1 + i) (by omega) (by omega)
          have hf := fLc_map (own := [6]) (t := gNm 6) (c := tYesF) (y := eOp gAdd (eOp gMul (eOp gAdd (eOp gMod (eCall gInt (aCons (eOp gIx (bVar 0) (eOp gAdd (eOp gAdd (bVar 1) (eC (.int 1))) (bVar 5))) aNil)) (eC (.int 3))) (eC (.int 4))) (eCall gInt (aCons (eOp gEq (bVar 5) (bVar 6)) aNil))) (eOp gMul (eOp gSub (eOp gMod (eCall gInt (aCons (eOp gIx (bVar 0) (eOp gAdd (bVar 1) (eC (.int 4)))) aNil)) (eC (.int 3))) (eC (.int 1))) (eCall gInt (aCons (eOp gNe (bVar 5) (bVar 6)) aNil))))
            (g := fun j => D.int ((row.getD ((a : Int) + 1 + i).toNat 0 % 3 + 4) * (if i = j then 1 else 0) + (row.getD ((a : Int) + 4).toNat 0 % 3 - 1) * (if i = j then 0 else 1)))
            (hrg [.val (.lst (row.map D.int)), .val (.int a), .val (.int n), .val (.int k), .own (ys.map fun i => intT ((rngN n).map fun j => (row.getD ((a : Int) + 1 + i).toNat 0 % 3 + 4) * (if i = j then 1 else 0) + (row.getD ((a : Int) + 4).toNat 0 % 3 - 1) * (if i = j then 0 else 1))), .val (.int i), .un] rfl) (by rw [rngN_len]; omega) (fun j hj => by
            refine ⟨_, rfl, rfl, ?_⟩
            simp only [ev_op, ev_call, ev_cons, ev_nil, ev_c, ev_bvar, wipe_cons, wipe_nil, List.set_cons_succ, List.set_cons_zero, List.getElem?_cons_succ, List.getElem?_cons_zero, Option.bind_some, slB_val, gAdd_i, gSub_i, e1, et, gInt_i, gMod_i (show (0:Int) < 3 by omega), gEq_i, gNe_i, gInt_b]
            have bq := mod_lt (a := row.getD ((a : Int) + 1 + i).toNat 0) (b := 3) (by omega)
            have bt := mod_lt (a := row.getD ((a : Int) + 4).toNat 0) (b := 3) (by omega)
            by_cases hij : i = j
            · simp only [hij, decide_true, Bool.not_true, if_true, Bool.false_eq_true, if_false]
              rw [hij] at bq
              rw [gMul_i (mulOk_l (by omega) (by omega)), gMul_i (mulOk_l (by omega) (by omega))]
              rfl
            · simp only [hij, decide_false, Bool.not_false, if_true, Bool.false_eq_true, if_false]
              rw [gMul_i (mulOk_l (by omega) (by omega)), gMul_i (mulOk_l (by omega) (by omega))]
              rfl)
          have hap := run_app (i := 4) (env := [.val (.lst (row.map D.int)), .val (.int a), .val (.int n), .val (.int k), .own (ys.map fun i => intT ((rngN n).map fun j => (row.getD ((a : Int) + 1 + i).toNat 0 % 3 + 4) * (if i = j then 1 else 0) + (row.getD ((a : Int) + 4).toNat 0 % 3 - 1) * (if i = j then 0 else 1))), .val (.int i), .un])
            (f := eCall gTuple (aCons (asL (fLc [6] (iRg1 (aCons (bVar 2) aNil)) (gNm 6) tYesF (eOp gAdd (eOp gMul (eOp gAdd (eOp gMod (eCall gInt (aCons (eOp gIx (bVar 0) (eOp gAdd (eOp gAdd (bVar 1) (eC (.int 1))) (bVar 5))) aNil)) (eC (.int 3))) (eC (.int 4))) (eCall gInt (aCons (eOp gEq (bVar 5) (bVar 6)) aNil))) (eOp gMul (eOp gSub (eOp gMod (eCall gInt (aCons (eOp gIx (bVar 0) (eOp gAdd (bVar 1) (eC (.int 4)))) aNil)) (eC (.int 3))) (eC (.int 1))) (eCall gInt (aCons (eOp gNe (bVar 5) (bVar 6)) aNil)))))) aNil))
            (d := intT ((rngN n).map fun j => (row.getD ((a : Int) + 1 + i).toNat 0 % 3 + 4) * (if i = j then 1 else 0) + (row.getD ((a : Int) + 4).toNat 0 % 3 - 1) * (if i = j then 0 else 1))) (by
              rw [ev_call, ev_cons, ev_asL, hf, lst_map (f := fun j : Int => (row.getD ((a : Int) + 1 + i).toNat 0 % 3 + 4) * (if i = j then 1 else 0) + (row.getD ((a : Int) + 4).toNat 0 % 3 - 1) * (if i = j then 0 else 1)) (fun _ => rfl)]
              rfl) rfl (by rw [List.length_map]; omega)
          refine hap.trans ?_
          rw [lastS_snoc, List.map_append]
          rfl
        · refine run_ret ?_
          unfold eTup
          simp only [ev_cons, ev_c, ev_call, ev_bvar, ev_nil, List.getElem?_cons_succ, List.getElem?_cons_zero, Option.bind_some, slB_own, gTuple_l]
          have e : (rngN n).map (fun i => intT ((rngN n).map fun j => (row.getD ((a : Int) + 1 + i).toNat 0 % 3 + 4) * (if i = j then 1 else 0) + (row.getD ((a : Int) + 4).toNat 0 % 3 - 1) * (if i = j then 0 else 1))) = (formR ((rngN n).map fun i => row.getD ((a : Int) + 1 + i).toNat 0 % 3 + 4) (row.getD ((a : Int) + 4).toNat 0 % 3 - 1)).map intT := by
            unfold formR
            rw [List.map_map, List.length_map, rngN_len]
            apply List.map_congr_left
            intro i hi
            show intT _ = intT _
            congr 1
            apply List.map_congr_left
            intro j hj
            obtain ⟨i0, i1⟩ := mem_rngN hi
            by_cases hij : i = j
            · simp only [hij, if_true, Int.mul_one, Int.mul_zero, Int.add_zero]
              rw [hij] at i0 i1
              have hl : j.toNat < n := by omega
              unfold rngN
              simp [List.getD, hl, Int.toNat_of_nonneg i0]
            · simp only [hij, if_false, Int.mul_one, Int.mul_zero, Int.zero_add]
          rw [e]
          rfl
      · obtain ⟨j, hj, rfl⟩ := List.mem_map.mp hd
        have := mod_lt (a := row.getD ((a : Int) + 1 + j).toNat 0) (b := 3) (by omega)
        omega
      · have := mod_lt (a := row.getD ((a : Int) + 4).toNat 0) (b := 3) (by omega)
        omega
      · have := mod_lt (a := row.getD ((a : Int) + 4).toNat 0) (b := 3) (by omega)
        omega
    · obtain ⟨w, hw, hg⟩ := wayIx (k := k) b0.1 (by omega)
      refine ⟨w, ?_, hg n hn⟩
      refine runC_rt rfl ?_
      refine seq_set (d := .int k) k0 ?_
      refine seq_if0 (by simp [h4]) ?_
      refine seq_if0 (by simp [h5]) ?_
      exact run_ret hw
end PD

set_option Elab.async false
set_option linter.all false
set_option maxRecDepth 100000
namespace PD
open PySem L2
/-! ### sorted pairs; the nearest of a shelf -/
def b_told_pairs : Cmd :=
    (sRet (asL (fCall gSortA (aCons (asL (fLc [3, 4, 5] (iSeq (bVar 0)) (gTp (gsCons (gNm 3) (gsCons (gNm 4) (gsCons (gNm 5) gsNil)))) tYesF (eTup (aCons (eFn run_far (aCons (eVar 2) (aCons (eVar 1) (aCons (eVar 4) aNil)))) (aCons (eVar 3) aNil))))) aNil))))
def run_told_pairs : List D → Option D := runC 3 3 b_told_pairs
def b_nearest : Cmd :=
    (sRet (eCall gTuple (aCons (eSl (eFn run_told_pairs (aCons (eVar 0) (aCons (eVar 1) (aCons (eVar 2) aNil)))) oNo (oYes (bVar 3))) aNil)))
def run_nearest : List D → Option D := runC 4 0 b_nearest
def pairD (p : Int × Int) : D := .tup [.int p.1, .int p.2]
def leP (p q : Int × Int) : Bool := decide (p.1 < q.1 ∨ (p.1 = q.1 ∧ p.2 ≤ q.2))
def sortP (ps : List (Int × Int)) : List (Int × Int) := ps.mergeSort leP
theorem leD_pair (p q : Int × Int) : leD (pairD p) (pairD q) = leP p q := by
  have h := PySem.W.dataLe_ii (β := Int × Int) (fun b => b.1) (fun b => b.2)
  exact congrFun (congrFun h p) q
theorem sortD_pair (ps : List (Int × Int)) : sortD (ps.map pairD) = (sortP ps).map pairD := by
  unfold sortD sortP
  rw [List.map_mergeSort]
  intro a _ b _
  exact (leD_pair a b).symm
theorem sortOk_pair (ps : List (Int × Int)) : sortOk (ps.map pairD) = true := by
  unfold sortOk
  simp only [Bool.and_eq_true, Bool.or_eq_true, List.all_eq_true]
  refine ⟨⟨fun x hx => ?_, .inl fun x hx => ?_⟩, fun x hx y hy => ?_⟩
  · obtain ⟨p, _, rfl⟩ := List.mem_map.mp hx
    rfl
  · obtain ⟨p, _, rfl⟩ := List.mem_map.mp hx
    rfl
  · obtain ⟨p, _, rfl⟩ := List.mem_map.mp hx
    obtain ⟨q, _, rfl⟩ := List.mem_map.mp hy
    simp [alikeD, pairD, py, pyL, PySem.W.alike, PySem.W.alikeAll]
theorem gSortA_pair (ps : List (Int × Int)) : gSortA [.lst (ps.map pairD)] = some ((sortP ps).map pairD) := by
  cases ps with
  | nil =>
    show some ((sortI []).map D.int) = some ((sortP []).map pairD)
    simp [sortI, sortP]
  | cons p ps =>
    have h : gSortA [.lst ((p :: ps).map pairD)] = if sortOk ((p :: ps).map pairD) then some (sortD ((p :: ps).map pairD)) else none := rfl
    rw [h, sortOk_pair, if_pos rfl, sortD_pair]
theorem okL_pair (n : Nat) (p : Int × Int) : okL (n + 2) (pairD p) = true := by
  simp [okL, pairD, lim]
theorem okL_pairs (n : Nat) (ps : List (Int × Int)) (h : ps.length ≤ 16777216) : okL (n + 3) (.tup (ps.map pairD)) = true := by
  simp only [okL, Bool.and_eq_true, List.all_eq_true]
  refine ⟨fun x hx => ?_, by simpa [lim] using h⟩
  obtain ⟨p, _, rfl⟩ := List.mem_map.mp hx
  exact okL_pair n p
/-- a key, a vector, a tag -/
structure It3 where
  key : Int
  vec : List Int
  tag : Int
def It3.d (x : It3) : D := .tup [.int x.key, intT x.vec, .int x.tag]
def pairsOf (w : Way) (u : List Int) (xs : List It3) : List (Int × Int) := xs.map fun x => (w.far (subI u x.vec), x.key)
theorem run_told (w : Way) (u : List Int) (xs : List It3) (hw : w.ok u.length) (hz : u.length ≤ 1000000) (hu : small u) (hx : ∀ x ∈ xs, x.vec.length = u.length ∧ small x.vec) (hn : xs.length ≤ 16777216) :
    run_told_pairs [.tup (xs.map It3.d), intT u, w.d] = some (.lst ((sortP (pairsOf w u xs)).map pairD)) := by
  refine runC_rt rfl (run_ret ?_)
  have hf := fLc_map (own := [3, 4, 5]) (it := iSeq (bVar 0)) (t := gTp (gsCons (gNm 3) (gsCons (gNm 4) (gsCons (gNm 5) gsNil)))) (c := tYesF) (y := eTup (aCons (eFn run_far (aCons (eVar 2) (aCons (eVar 1) (aCons (eVar 4) aNil)))) (aCons (eVar 3) aNil)))
    (env := [.val (.tup (xs.map It3.d)), .val (intT u), .val w.d, .un, .un, .un]) (enc := It3.d) (g := fun x => pairD (w.far (subI u x.vec), x.key)) (xs := xs) rfl hn (fun x hm => by
      obtain ⟨h1, h2⟩ := hx x hm
      refine ⟨[.val (.tup (xs.map It3.d)), .val (intT u), .val w.d, .val (.int x.key), .val (intT x.vec), .val (.int x.tag)], rfl, rfl, ?_⟩
      have := run_far_ok w u x.vec h1.symm hw hz hu h2
      unfold eTup
      simp only [ev_cons, ev_fn, ev_var, ev_nil, List.getElem?_cons_succ, List.getElem?_cons_zero, Option.bind_some, slV_val, this]
      rfl)
  show asL (fCall gSortA (aCons (asL (fLc [3, 4, 5] (iSeq (bVar 0)) (gTp (gsCons (gNm 3) (gsCons (gNm 4) (gsCons (gNm 5) gsNil)))) tYesF (eTup (aCons (eFn run_far (aCons (eVar 2) (aCons (eVar 1) (aCons (eVar 4) aNil)))) (aCons (eVar 3) aNil))))) aNil)) [.val (.tup (xs.map It3.d)), .val (intT u), .val w.d, .un, .un, .un] = _
  rw [ev_asL, ev_fcall, ev_cons, ev_asL, hf]
  have e : xs.map (fun x => pairD (w.far (subI u x.vec), x.key)) = (pairsOf w u xs).map pairD := by
    unfold pairsOf
    rw [List.map_map]
    rfl
  rw [e]
  simp only [Option.map_some, Option.bind_some, ev_nil, gSortA_pair]
theorem run_near (w : Way) (u : List Int) (xs : List It3) (k : Int) (hw : w.ok u.length) (hz : u.length ≤ 1000000) (hu : small u) (hx : ∀ x ∈ xs, x.vec.length = u.length ∧ small x.vec) (hn : xs.length ≤ 16777216) :
    run_nearest [.tup (xs.map It3.d), intT u, w.d, .int k] = some (.tup (cutD ((sortP (pairsOf w u xs)).map pairD) none (some k))) := by
  refine runC_rt rfl (run_ret ?_)
  have := run_told w u xs hw hz hu hx hn
  show (eCall gTuple (aCons (eSl (eFn run_told_pairs (aCons (eVar 0) (aCons (eVar 1) (aCons (eVar 2) aNil)))) oNo (oYes (bVar 3))) aNil)) [.val (.tup (xs.map It3.d)), .val (intT u), .val w.d, .val (.int k)] = _
  have hs : eSl (eFn run_told_pairs (aCons (eVar 0) (aCons (eVar 1) (aCons (eVar 2) aNil)))) oNo (oYes (bVar 3)) [.val (.tup (xs.map It3.d)), .val (intT u), .val w.d, .val (.int k)] = some (.lst (cutD ((sortP (pairsOf w u xs)).map pairD) none (some k))) := by
    unfold eSl
    simp only [ev_cons, ev_fn, ev_var, ev_nil, List.getElem?_cons_succ, List.getElem?_cons_zero, Option.bind_some, slV_val, this]
    rfl
  rw [ev_call, ev_cons, hs]
  rfl
theorem cutD_map {α β : Type} (f : α → β) (xs : List α) (lo hi : Option Int) : cutD (xs.map f) lo hi = (cutD xs lo hi).map f := by
  unfold cutD
  rw [List.length_map, List.map_take, List.map_drop]
theorem cutD_len {α : Type} (xs : List α) (lo hi : Option Int) : (cutD xs lo hi).length ≤ xs.length := by
  unfold cutD
  rw [List.length_take, List.length_drop]
  omega
end PD

set_option Elab.async false
set_option linter.all false
set_option maxRecDepth 100000
namespace PD
open PySem L2
/-! ### comprehensions as maps: the form that simp walks into -/
def fltM {α : Type} (C : α → Option Bool) (F : α → Option D) : List α → Option (List D)
  | [] => some []
  | x :: r => (C x).bind fun k => if k then (F x).bind fun d => (fltM C F r).map (d :: ·) else fltM C F r
theorem fltM_congr {α : Type} {C C' : α → Option Bool} {F F' : α → Option D} : ∀ (xs : List α), (∀ x ∈ xs, C x = C' x) → (∀ x ∈ xs, C' x = some true → F x = F' x) → fltM C F xs = fltM C' F' xs
  | [], _, _ => rfl
  | x :: r, h1, h2 => by
    show (C x).bind _ = (C' x).bind _
    rw [h1 x List.mem_cons_self, fltM_congr r (fun y hy => h1 y (List.mem_cons_of_mem _ hy)) fun y hy => h2 y (List.mem_cons_of_mem _ hy)]
    cases h : C' x with
    | none => rfl
    | some k =>
      cases k with
      | false => rfl
      | true =>
        show (F x).bind _ = (F' x).bind _
        rw [h2 x List.mem_cons_self h]
theorem fltM_map {α β : Type} {e : α → β} {C : β → Option Bool} {F : β → Option D} : ∀ xs : List α, fltM C F (xs.map e) = fltM (fun x => C (e x)) (fun x => F (e x)) xs
  | [] => rfl
  | x :: r => by
    show (C (e x)).bind _ = _
    rw [fltM_map r]
    rfl
/-! The test and the element take the membership along, so that simp finds it at hand inside the binders. -/
open Classical in
noncomputable def fltE {α : Type} (xs : List α) (C : ∀ x, x ∈ xs → Option Bool) (F : ∀ x, x ∈ xs → Option D) : Option (List D) := fltM (fun x => if h : x ∈ xs then C x h else none) (fun x => if h : x ∈ xs then F x h else none) xs
theorem fltE_n {α : Type} {xs : List α} {C : α → Option Bool} {F : α → Option D} : fltE xs (fun x _ => C x) (fun x _ => F x) = fltM C F xs := by
  unfold fltE
  exact fltM_congr xs (fun x hx => dif_pos hx) fun x hx _ => dif_pos hx
noncomputable def mapME {α : Type} (xs : List α) (F : ∀ x, x ∈ xs → Option D) : Option (List D) := fltE xs (fun _ _ => some true) F
open Classical in
noncomputable def fltP {α : Type} (xs : List α) (p : α → Bool) (F : ∀ x, x ∈ xs → p x = true → Option D) : Option (List D) := fltM (fun x => some (p x)) (fun x => if h : x ∈ xs ∧ p x = true then F x h.1 h.2 else none) xs
theorem compL_flt {t : Ft} {c : Fb} {y : Fe} {env : List Sl} : ∀ xs : List D, compL t c y env xs = fltM (fun x => (t x env).bind c) (fun x => (t x env).bind y) xs
  | [] => rfl
  | x :: r => by
    show ((t x env).bind fun e => (c e).bind fun k => if k then (y e).bind fun d => (compL t c y env r).map (d :: ·) else compL t c y env r) = _
    rw [compL_flt r]
    show _ = ((t x env).bind c).bind _
    cases h : t x env with
    | none => rfl
    | some e =>
      show (c e).bind _ = (c e).bind _
      have hy : (fun x => (t x env).bind y) x = y e := by
        show (t x env).bind y = _
        rw [h]
        rfl
      rw [hy]
theorem ev_lc {own : List Nat} {it : Fl} {t : Ft} {c : Fb} {y : Fe} {env : List Sl} : fLc own it t c y env = (it env).bind fun xs => if lim xs.length then fltE xs (fun x _ => (t x (wipeE env own)).bind c) (fun x _ => (t x (wipeE env own)).bind y) else none := by
  unfold fLc
  simp only [compL_flt, fltE_n]
theorem fltE_yes {α : Type} {xs : List α} {F : ∀ x, x ∈ xs → Option D} : fltE xs (fun _ _ => some true) F = mapME xs F := rfl
open Classical in
theorem fltE_p {α : Type} {xs : List α} {p : α → Bool} {F : ∀ x, x ∈ xs → Option D} : fltE xs (fun x _ => some (p x)) F = fltP xs p (fun x h _ => F x h) := by
  refine fltM_congr xs (fun x hx => dif_pos hx) fun x hx hp => ?_
  rw [dif_pos hx, dif_pos ⟨hx, Option.some.inj hp⟩]
theorem fltE_map {α β : Type} {xs : List α} {e : α → β} {C : ∀ x, x ∈ xs.map e → Option Bool} {F : ∀ x, x ∈ xs.map e → Option D} : fltE (xs.map e) C F = fltE xs (fun x h => C (e x) (List.mem_map_of_mem h)) (fun x h => F (e x) (List.mem_map_of_mem h)) := by
  unfold fltE
  rw [fltM_map]
  refine fltM_congr xs (fun x hx => ?_) fun x hx _ => ?_
  · rw [dif_pos hx, dif_pos (List.mem_map_of_mem hx)]
  · rw [dif_pos hx, dif_pos (List.mem_map_of_mem hx)]
theorem mapME_map {α β : Type} {xs : List α} {e : α → β} {F : ∀ x, x ∈ xs.map e → Option D} : mapME (xs.map e) F = mapME xs (fun x h => F (e x) (List.mem_map_of_mem h)) := fltE_map
theorem fltP_some {α : Type} {xs : List α} {p : α → Bool} {g : α → D} : fltP xs p (fun x _ _ => some (g x)) = some ((xs.filter p).map g) := by
  have e : fltP xs p (fun x _ _ => some (g x)) = fltM (fun x => some (p x)) (fun x => some (g x)) xs := fltM_congr xs (fun _ _ => rfl) fun x hx hp => dif_pos ⟨hx, Option.some.inj hp⟩
  rw [e]
  clear e
  induction xs with
  | nil => rfl
  | cons x r ih =>
    show (if p x = true then (some (g x)).bind fun d => (fltM (fun x => some (p x)) (fun x => some (g x)) r).map (d :: ·) else fltM (fun x => some (p x)) (fun x => some (g x)) r) = _
    rw [ih]
    cases h : p x with
    | true =>
      rw [List.filter_cons_of_pos h]
      rfl
    | false =>
      rw [List.filter_cons_of_neg (by simp [h])]
      rfl
theorem mapME_some {α : Type} {xs : List α} {g : α → D} : mapME xs (fun x _ => some (g x)) = some (xs.map g) := by
  have := fltP_some (xs := xs) (p := fun _ => true) (g := g)
  rw [List.filter_eq_self.mpr (fun _ _ => rfl)] at this
  rw [← this]
  exact fltE_p (p := fun _ => true)
theorem lim_ok {n : Nat} (h : n ≤ 16777216) : lim n = true := decide_eq_true h
/-! the elements -/
def nth {α : Type} [Inhabited α] (xs : List α) (i : Int) : α := xs.getD i.toNat default
theorem at_nth {α : Type} [Inhabited α] {e : α → D} {xs : List α} {i : Int} (h0 : 0 ≤ i) (h1 : i < xs.length) : (xs.map e)[i.toNat]? = some (e (nth xs i)) := by
  have h : i.toNat < xs.length := by omega
  unfold nth
  rw [List.getElem?_map, List.getElem?_eq_getElem h]
  simp [List.getD, List.getElem?_eq_getElem h]
theorem gIx_lm {α : Type} [Inhabited α] {e : α → D} {xs : List α} {i : Int} (h0 : 0 ≤ i) (h1 : i < xs.length) : gIx (.lst (xs.map e)) (.int i) = some (e (nth xs i)) := by
  rw [gIx_l h0 (by rw [List.length_map]; exact h1), at_nth h0 h1]
theorem gIx_tm {α : Type} [Inhabited α] {e : α → D} {xs : List α} {i : Int} (h0 : 0 ≤ i) (h1 : i < xs.length) : gIx (.tup (xs.map e)) (.int i) = some (e (nth xs i)) := by
  rw [gIx_t h0 (by rw [List.length_map]; exact h1), at_nth h0 h1]
theorem gIx_iT {xs : List Int} {i : Int} (h0 : 0 ≤ i) (h1 : i < xs.length) : gIx (intT xs) (.int i) = some (.int (nth xs i)) := gIx_tm h0 h1
/-! what is walked, without side conditions on the expression -/
def rgO (j : Int) : Option (List D) := if rngOk j then some (rngL 0 j.toNat) else none
def rgA : List D → Option (List D)
  | [.int j] => rgO j
  | _ => none
theorem ev_rg1' {f : Fl} {env : List Sl} : iRg1 f env = (f env).bind rgA := by
  unfold iRg1
  cases f env with
  | none => rfl
  | some ds =>
    cases ds with
    | nil => rfl
    | cons a r =>
      cases r with
      | nil => cases a <;> rfl
      | cons b r => cases a <;> rfl
theorem rgA_1 {j : Int} : rgA [.int j] = rgO j := rfl
theorem rgO_ok {j : Int} (h0 : -1000000000 ≤ j) (h1 : j ≤ 1000000000) : rgO j = some ((rngN j.toNat).map D.int) := by
  unfold rgO
  rw [if_pos (by unfold rngOk; rw [decide_eq_true h0, decide_eq_true h1]; rfl), rngL_map]
/-! over a range, and with a test -/
theorem gLen_iT {xs : List Int} : gLen [intT xs] = some (.int xs.length) := by
  unfold intT
  rw [gLen_t, List.length_map]
theorem rg_in {n : Nat} {x : Int} (h0 : 0 ≤ x) (h1 : x < n) : x ∈ rngN n := by
  unfold rngN
  exact List.mem_map.mpr ⟨x.toNat, List.mem_range.mpr (by omega), by show ((x.toNat : Nat) : Int) = x; omega⟩
noncomputable def mapRg (n : Nat) (F : ∀ i : Int, 0 ≤ i → i < n → Option D) : Option (List D) := mapME (rngN n) fun x h => F x (mem_rngN h).1 (mem_rngN h).2
theorem mapME_rg {n : Nat} {F : ∀ x, x ∈ rngN n → Option D} : mapME (rngN n) F = mapRg n (fun i h0 h1 => F i (rg_in h0 h1)) := rfl
theorem mapRg_some {n : Nat} {g : Int → D} : mapRg n (fun x _ _ => some (g x)) = some ((rngN n).map g) := mapME_some
noncomputable def fltRg (n : Nat) (C : ∀ i : Int, 0 ≤ i → i < n → Option Bool) (F : ∀ i : Int, 0 ≤ i → i < n → Option D) : Option (List D) := fltE (rngN n) (fun x h => C x (mem_rngN h).1 (mem_rngN h).2) fun x h => F x (mem_rngN h).1 (mem_rngN h).2
theorem fltE_rg {n : Nat} {C : ∀ x, x ∈ rngN n → Option Bool} {F : ∀ x, x ∈ rngN n → Option D} : fltE (rngN n) C F = fltRg n (fun i h0 h1 => C i (rg_in h0 h1)) (fun i h0 h1 => F i (rg_in h0 h1)) := rfl
noncomputable def fltRp (n : Nat) (p : Int → Bool) (F : ∀ i : Int, 0 ≤ i → i < n → p i = true → Option D) : Option (List D) := fltP (rngN n) p fun x h hp => F x (mem_rngN h).1 (mem_rngN h).2 hp
theorem fltRg_p {n : Nat} {p : Int → Bool} {F : ∀ i : Int, 0 ≤ i → i < n → Option D} : fltRg n (fun x _ _ => some (p x)) F = fltRp n p (fun x h0 h1 _ => F x h0 h1) := fltE_p
theorem fltRg_yes {n : Nat} {F : ∀ i : Int, 0 ≤ i → i < n → Option D} : fltRg n (fun x _ _ => some true) F = mapRg n F := rfl
theorem fltRp_some {n : Nat} {p : Int → Bool} {g : Int → D} : fltRp n p (fun x _ _ _ => some (g x)) = some (((rngN n).filter p).map g) := fltP_some
/-! lists of ints -/
theorem map_i {α : Type} {xs : List α} {f : α → Int} : xs.map (fun x => D.int (f x)) = (xs.map f).map D.int := by
  rw [List.map_map]
  rfl
/-! statements -/
section
variable {a b c : Cmd} {env : List Sl} {o : Option Out} {t : Fb} {f : Fe} {d : D} {k : Bool}
theorem seq_ifk (h : t env = some k) (h1 : k = true → sSeq a b env = o) (h0 : k = false → sSeq c b env = o) : sSeq (sIf t a c) b env = o := by
  have e : sSeq (sIf t a c) b env = if k = true then sSeq a b env else sSeq c b env := by
    unfold sSeq sIf
    rw [h]
    cases k <;> rfl
  rw [e]
  cases k with
  | true => exact h1 rfl
  | false => exact h0 rfl
theorem run_ifk (h : t env = some k) (h1 : k = true → a env = o) (h0 : k = false → c env = o) : sIf t a c env = o := by
  have e : sIf t a c env = if k = true then a env else c env := by
    unfold sIf
    rw [h]
    cases k <;> rfl
  rw [e]
  cases k with
  | true => exact h1 rfl
  | false => exact h0 rfl
theorem seq_ret (h : f env = some d) : sSeq (sRet f) b env = some (.rt d) := seq_rt (run_ret h)
theorem seq_nop : sSeq sNop b env = b env := rfl
theorem seq_assoc : sSeq (sSeq a b) c env = sSeq a (sSeq b c) env := by
  unfold sSeq
  cases a env with
  | none => rfl
  | some o => cases o <;> rfl
end
/-! more of the operations -/
theorem gMul_l {i j : Int} (h1 : -18446744073709551616 < i) (h2 : i < 18446744073709551616) : gMul (.int i) (.int j) = some (.int (i * j)) := gMul_i (mulOk_l h1 h2)
theorem gMul_r {i j : Int} (h1 : -18446744073709551616 < j) (h2 : j < 18446744073709551616) : gMul (.int i) (.int j) = some (.int (i * j)) := gMul_i (mulOk_r h1 h2)
def maxI (s : List Int) : Int := max0 s
def minI : List Int → Int
  | [] => 0
  | x :: r => minL x r
theorem gMaxA_l' {s : List Int} (h : 0 < s.length) : gMaxA [.lst (s.map D.int)] = some (.int (maxI s)) := gMaxA_l s h
theorem gMinA_l' {s : List Int} (h : 0 < s.length) : gMinA [.lst (s.map D.int)] = some (.int (minI s)) := by
  show gBest minL minDD (s.map D.int) = _
  unfold gBest
  rw [intsOf_map]
  cases s with
  | nil => cases h
  | cons x r => rfl
theorem gMaxA_t' {s : List Int} (h : 0 < s.length) : gMaxA [.tup (s.map D.int)] = some (.int (maxI s)) := gMaxA_l s h
theorem gMinA_t' {s : List Int} (h : 0 < s.length) : gMinA [.tup (s.map D.int)] = some (.int (minI s)) := gMinA_l' h
theorem gSortA_l' {s : List Int} : gSortA [.lst (s.map D.int)] = some ((sortI s).map D.int) := by
  show (match intsOf (s.map D.int) with
    | some ns => some ((sortI ns).map D.int)
    | none => if sortOk (s.map D.int) then some (sortD (s.map D.int)) else none) = _
  rw [intsOf_map]
theorem sortI_len {s : List Int} : (sortI s).length = s.length := (sortI_perm s).length_eq
theorem gIx_last {α : Type} [Inhabited α] {e : α → D} {xs : List α} (h : 0 < xs.length) : gIx (.lst (xs.map e)) (.int (-1)) = some (e (nth xs ((xs.length : Int) - 1))) := by
  have q : gIx (.lst (xs.map e)) (.int (-1)) = (xs.map e)[xs.length - 1]? := by
    show atI (xs.map e) (-1) = _
    unfold atI ixN
    rw [if_neg (by omega)]
    simp only [List.length_map]
    rw [if_pos (by omega)]
    rw [show ((-1 : Int) + (xs.length : Int)).toNat = xs.length - 1 from by omega]
    rfl
  rw [q]
  have h2 := at_nth (e := e) (xs := xs) (i := (xs.length : Int) - 1) (by omega) (by omega)
  rw [show ((xs.length : Int) - 1).toNat = xs.length - 1 from by omega] at h2
  exact h2
theorem truD_lm {α : Type} {e : α → D} {xs : List α} : truD (.lst (xs.map e)) = some (decide (0 < xs.length)) := by
  show some (!(xs.map e).isEmpty) = _
  cases xs <;> simp
theorem truD_tm {α : Type} {e : α → D} {xs : List α} : truD (.tup (xs.map e)) = some (decide (0 < xs.length)) := by
  show some (!(xs.map e).isEmpty) = _
  cases xs <;> simp
theorem ev_m1 {g : D → D → Option D} {fo fa : Fe} {env : List Sl} : eM1 g fo fa env = (fo env).bind fun x => (fa env).bind fun y => g x y := rfl
theorem gIndex_i {xs : List Int} {k : Int} (h : k ∈ xs) : gIndex (.lst (xs.map D.int)) (.int k) = some (.int (xs.idxOf k)) := by
  have h1 : ((xs.map D.int).all (okN 62) && okN 62 (D.int k)) = true := by
    rw [Bool.and_eq_true]
    refine ⟨List.all_eq_true.mpr fun x hx => ?_, rfl⟩
    obtain ⟨i, _, rfl⟩ := List.mem_map.mp hx
    rfl
  have h2 : (xs.map D.int).findIdx? (fun z => eqD z (D.int k)) = some (xs.idxOf k) := by
    rw [List.findIdx?_map]
    have e : ((fun z => eqD z (D.int k)) ∘ D.int) = fun x : Int => x == k := by
      funext x
      simp [eqD, py, PyData.eqv]
    rw [e, List.findIdx?_eq_some_iff_findIdx_eq]
    exact ⟨List.idxOf_lt_length_of_mem h, rfl⟩
  show (if ((xs.map D.int).all (okN 62) && okN 62 (D.int k)) = true then (match (xs.map D.int).findIdx? (fun z => eqD z (D.int k)) with
    | some j => some (D.int (j : Nat))
    | none => none) else none) = _
  rw [h1, h2]
  rfl
def intO : D → Option (Option Int)
  | .int i => some (some i)
  | _ => none
theorem ev_oNo {env : List Sl} : oNo env = some none := rfl
theorem ev_oYes {f : Fe} {env : List Sl} : oYes f env = (f env).bind intO := by
  unfold oYes
  cases f env with
  | none => rfl
  | some d => cases d <;> rfl
theorem intO_i {i : Int} : intO (.int i) = some (some i) := rfl
theorem ev_sl {f : Fe} {lo hi : Fo} {env : List Sl} : eSl f lo hi env = (f env).bind fun x => (lo env).bind fun l => (hi env).bind fun h => gSl x l h := rfl
theorem gSl_l {xs : List D} {lo hi : Option Int} : gSl (.lst xs) lo hi = some (.lst (cutD xs lo hi)) := rfl
theorem gSl_t {xs : List D} {lo hi : Option Int} : gSl (.tup xs) lo hi = some (.tup (cutD xs lo hi)) := rfl
theorem inD_i {x : Int} : ∀ xs : List Int, inD (.int x) (xs.map D.int) = decide (x ∈ xs)
  | [] => by simp [inD]
  | y :: r => by
    have ih := inD_i (x := x) r
    unfold inD at ih ⊢
    rw [List.map_cons, List.any_cons, ih]
    have h : eqD (.int y) (.int x) = decide (y = x) := by
      by_cases e : y = x <;> simp [eqD, py, PyData.eqv, e]
    have h' : eqD (.int x) (.int y) = decide (x = y) := by
      by_cases e : x = y <;> simp [eqD, py, PyData.eqv, e]
    first | rw [h] | rw [h']
    by_cases e : x = y
    · simp [e]
    · have e' : ¬ y = x := fun q => e q.symm
      simp [e, e']
theorem okN_li (xs : List Int) : okN 64 (.lst (xs.map D.int)) = true := by
  simp only [okN, List.all_eq_true]
  intro x hx
  obtain ⟨i, _, rfl⟩ := List.mem_map.mp hx
  rfl
theorem okN_ti (xs : List Int) : okN 64 (.tup (xs.map D.int)) = true := by
  simp only [okN, List.all_eq_true]
  intro x hx
  obtain ⟨i, _, rfl⟩ := List.mem_map.mp hx
  rfl
theorem gIn_il {x : Int} {xs : List Int} : gIn (.int x) (.lst (xs.map D.int)) = some (.bl (decide (x ∈ xs))) := by
  show (if (okN 64 (D.int x) && okN 64 (.lst (xs.map D.int))) = true then some (D.bl (inD (.int x) (xs.map D.int))) else none) = _
  rw [okN_li, inD_i]
  rfl
theorem gIn_it {x : Int} {xs : List Int} : gIn (.int x) (.tup (xs.map D.int)) = some (.bl (decide (x ∈ xs))) := by
  show (if (okN 64 (D.int x) && okN 64 (.tup (xs.map D.int))) = true then some (D.bl (inD (.int x) (xs.map D.int))) else none) = _
  rw [okN_ti, inD_i]
  rfl
theorem gNotIn_il {x : Int} {xs : List Int} : gNotIn (.int x) (.lst (xs.map D.int)) = some (.bl (!decide (x ∈ xs))) := by
  show (if (okN 64 (D.int x) && okN 64 (.lst (xs.map D.int))) = true then some (D.bl (!inD (.int x) (xs.map D.int))) else none) = _
  rw [okN_li, inD_i]
  rfl
theorem gNotIn_it {x : Int} {xs : List Int} : gNotIn (.int x) (.tup (xs.map D.int)) = some (.bl (!decide (x ∈ xs))) := by
  show (if (okN 64 (D.int x) && okN 64 (.tup (xs.map D.int))) = true then some (D.bl (!inD (.int x) (xs.map D.int))) else none) = _
  rw [okN_ti, inD_i]
  rfl
theorem gIs_n {x : D} : gIs x .non = some (.bl (isNon x)) := rfl
theorem gIsNot_n {x : D} : gIsNot x .non = some (.bl (!isNon x)) := rfl
theorem isNon_n : isNon .non = true := rfl
theorem isNon_t {xs : List D} : isNon (.tup xs) = false := rfl
theorem isNon_l {xs : List D} : isNon (.lst xs) = false := rfl
theorem isNon_i {x : Int} : isNon (.int x) = false := rfl
theorem isNon_b {x : Bool} : isNon (.bl x) = false := rfl
def limT (ds : List D) : Option D := if lim ds.length then some (.tup ds) else none
theorem ev_tup {fl : Fl} {env : List Sl} : eTup fl env = (fl env).bind limT := rfl
/-- the last turn's value in a slot -/
def lastW {α : Type} (f : α → Sl) (ys : List α) : Sl := match ys.getLast? with
  | none => .un
  | some i => f i
theorem lastW_snoc {α : Type} {f : α → Sl} {ys : List α} {x : α} : lastW f (ys ++ [x]) = f x := by simp [lastW]
theorem limT_0 : limT [] = some (.tup []) := rfl
theorem mkL_0 : mkL [] = some (.lst []) := rfl
theorem limT_1 {a : D} : limT [a] = some (.tup [a]) := rfl
theorem mkL_1 {a : D} : mkL [a] = some (.lst [a]) := rfl
theorem limT_2 {a b : D} : limT [a, b] = some (.tup [a, b]) := rfl
theorem mkL_2 {a b : D} : mkL [a, b] = some (.lst [a, b]) := rfl
theorem limT_3 {a b c : D} : limT [a, b, c] = some (.tup [a, b, c]) := rfl
theorem mkL_3 {a b c : D} : mkL [a, b, c] = some (.lst [a, b, c]) := rfl
theorem limT_4 {a b c d : D} : limT [a, b, c, d] = some (.tup [a, b, c, d]) := rfl
theorem mkL_4 {a b c d : D} : mkL [a, b, c, d] = some (.lst [a, b, c, d]) := rfl
theorem limT_5 {a b c d e : D} : limT [a, b, c, d, e] = some (.tup [a, b, c, d, e]) := rfl
theorem mkL_5 {a b c d e : D} : mkL [a, b, c, d, e] = some (.lst [a, b, c, d, e]) := rfl
theorem limT_6 {a b c d e f : D} : limT [a, b, c, d, e, f] = some (.tup [a, b, c, d, e, f]) := rfl
theorem mkL_6 {a b c d e f : D} : mkL [a, b, c, d, e, f] = some (.lst [a, b, c, d, e, f]) := rfl
theorem limT_7 {a b c d e f g : D} : limT [a, b, c, d, e, f, g] = some (.tup [a, b, c, d, e, f, g]) := rfl
theorem mkL_7 {a b c d e f g : D} : mkL [a, b, c, d, e, f, g] = some (.lst [a, b, c, d, e, f, g]) := rfl
theorem limT_8 {a b c d e f g h : D} : limT [a, b, c, d, e, f, g, h] = some (.tup [a, b, c, d, e, f, g, h]) := rfl
theorem mkL_8 {a b c d e f g h : D} : mkL [a, b, c, d, e, f, g, h] = some (.lst [a, b, c, d, e, f, g, h]) := rfl
theorem ev_lst {fl : Fl} {env : List Sl} : eLst fl env = (fl env).bind mkL := rfl
theorem gIx_t0 {a : D} {r : List D} : gIx (.tup (a :: r)) (.int 0) = some a := by
  rw [gIx_t (by omega) (by simp only [List.length_cons]; omega)]
  rfl
theorem gIx_l0 {a : D} {r : List D} : gIx (.lst (a :: r)) (.int 0) = some a := by
  rw [gIx_l (by omega) (by simp only [List.length_cons]; omega)]
  rfl
theorem gIx_t1 {a b : D} {r : List D} : gIx (.tup (a :: b :: r)) (.int 1) = some b := by
  rw [gIx_t (by omega) (by simp only [List.length_cons]; omega)]
  rfl
theorem gIx_l1 {a b : D} {r : List D} : gIx (.lst (a :: b :: r)) (.int 1) = some b := by
  rw [gIx_l (by omega) (by simp only [List.length_cons]; omega)]
  rfl
theorem gIx_t2 {a b c : D} {r : List D} : gIx (.tup (a :: b :: c :: r)) (.int 2) = some c := by
  rw [gIx_t (by omega) (by simp only [List.length_cons]; omega)]
  rfl
theorem gIx_l2 {a b c : D} {r : List D} : gIx (.lst (a :: b :: c :: r)) (.int 2) = some c := by
  rw [gIx_l (by omega) (by simp only [List.length_cons]; omega)]
  rfl
theorem gIx_t3 {a b c d : D} {r : List D} : gIx (.tup (a :: b :: c :: d :: r)) (.int 3) = some d := by
  rw [gIx_t (by omega) (by simp only [List.length_cons]; omega)]
  rfl
theorem gIx_l3 {a b c d : D} {r : List D} : gIx (.lst (a :: b :: c :: d :: r)) (.int 3) = some d := by
  rw [gIx_l (by omega) (by simp only [List.length_cons]; omega)]
  rfl
theorem gIx_t4 {a b c d e : D} {r : List D} : gIx (.tup (a :: b :: c :: d :: e :: r)) (.int 4) = some e := by
  rw [gIx_t (by omega) (by simp only [List.length_cons]; omega)]
  rfl
theorem gIx_l4 {a b c d e : D} {r : List D} : gIx (.lst (a :: b :: c :: d :: e :: r)) (.int 4) = some e := by
  rw [gIx_l (by omega) (by simp only [List.length_cons]; omega)]
  rfl
theorem gIx_t5 {a b c d e f : D} {r : List D} : gIx (.tup (a :: b :: c :: d :: e :: f :: r)) (.int 5) = some f := by
  rw [gIx_t (by omega) (by simp only [List.length_cons]; omega)]
  rfl
theorem gIx_l5 {a b c d e f : D} {r : List D} : gIx (.lst (a :: b :: c :: d :: e :: f :: r)) (.int 5) = some f := by
  rw [gIx_l (by omega) (by simp only [List.length_cons]; omega)]
  rfl
theorem some_or {a b : Bool} : (if a = true then some true else some b) = some (a || b) := by cases a <;> rfl
theorem some_and {a b : Bool} : (if a = true then some b else some false) = some (a && b) := by cases a <;> rfl
theorem bl_or {a b : Bool} : (if a = true then some (D.bl true) else some (D.bl b)) = some (D.bl (a || b)) := by cases a <;> rfl
theorem bl_and {a b : Bool} : (if a = true then some (D.bl b) else some (D.bl false)) = some (D.bl (a && b)) := by cases a <;> rfl
theorem or_dec {p q : Prop} [Decidable p] [Decidable q] (h : (decide p || decide q) = true) : p ∨ q := by simpa using h
theorem or_decF {p q : Prop} [Decidable p] [Decidable q] (h : (decide p || decide q) = false) : ¬ (p ∨ q) := by simpa using h
theorem gAdd_ll {α : Type} {e : α → D} {xs ys : List α} (h : xs.length + ys.length ≤ 16777216) : gAdd (.lst (xs.map e)) (.lst (ys.map e)) = some (.lst ((xs ++ ys).map e)) := by
  show mkL (xs.map e ++ ys.map e) = _
  rw [← List.map_append]
  unfold mkL
  rw [if_pos (by rw [List.length_map, List.length_append]; exact decide_eq_true h)]
theorem gAdd_tt {α : Type} {e : α → D} {xs ys : List α} (h : xs.length + ys.length ≤ 16777216) : gAdd (.tup (xs.map e)) (.tup (ys.map e)) = some (.tup ((xs ++ ys).map e)) := by
  show mkT (xs.map e ++ ys.map e) = _
  rw [← List.map_append]
  unfold mkT
  rw [if_pos (by rw [List.length_map, List.length_append]; exact decide_eq_true h)]
theorem gMax2_i {i j : Int} : gMax2 [.int i, .int j] = some (.int (max i j)) := by
  show some (D.int (if j > i then j else i)) = _
  congr 2
  split <;> omega
theorem gMin2_i {i j : Int} : gMin2 [.int i, .int j] = some (.int (min i j)) := by
  show some (D.int (if j < i then j else i)) = _
  congr 2
  split <;> omega
theorem gIx_p0 {p : Int × Int} : gIx (pairD p) (.int 0) = some (.int p.1) := gIx_t0
theorem gIx_p1 {p : Int × Int} : gIx (pairD p) (.int 1) = some (.int p.2) := gIx_t1
theorem ev_rev {f : Fe} {env : List Sl} : eRev f env = (f env).bind gRev := rfl
theorem cutD_take {α : Type} {xs : List α} {k : Int} (h : 0 ≤ k) : cutD xs none (some k) = xs.take k.toNat := by
  have e : HT.sIx xs.length xs.length (some k) = min k.toNat xs.length := by
    show (if k < 0 then (k + (xs.length : Int)).toNat else min k.toNat xs.length) = _
    rw [if_neg (by omega)]
  unfold cutD
  rw [e, show HT.sIx xs.length 0 none = 0 from rfl, List.drop_zero, Nat.sub_zero, ← List.take_take, List.take_length]
theorem cutD_drop {α : Type} {xs : List α} {k : Int} (h : 0 ≤ k) : cutD xs (some k) none = xs.drop k.toNat := by
  have e : HT.sIx xs.length 0 (some k) = min k.toNat xs.length := by
    show (if k < 0 then (k + (xs.length : Int)).toNat else min k.toNat xs.length) = _
    rw [if_neg (by omega)]
  unfold cutD
  rw [e, show HT.sIx xs.length xs.length none = xs.length from rfl]
  by_cases hk : k.toNat ≤ xs.length
  · rw [Nat.min_eq_left hk]
    exact List.take_of_length_le (by rw [List.length_drop]; exact Nat.le_refl _)
  · rw [Nat.min_eq_right (by omega), List.drop_eq_nil_of_le (Nat.le_refl _), List.drop_eq_nil_of_le (by omega), List.take_nil]
end PD

set_option Elab.async false
set_option linter.all false
set_option maxRecDepth 100000
namespace PD
open PySem L2
/-! ### the k least pairs -/
theorem leP_trans (a b c : Int × Int) (h1 : leP a b = true) (h2 : leP b c = true) : leP a c = true := by
  unfold leP at *
  simp only [decide_eq_true_eq] at *
  omega
theorem leP_total (a b : Int × Int) : (leP a b || leP b a) = true := by
  unfold leP
  simp only [Bool.or_eq_true, decide_eq_true_eq]
  omega
theorem leP_refl (a : Int × Int) : leP a a = true := by
  unfold leP
  simp
theorem leP_anti (a b : Int × Int) (h1 : leP a b = true) (h2 : leP b a = true) : a = b := by
  unfold leP at *
  simp only [decide_eq_true_eq] at *
  exact Prod.ext (by omega) (by omega)
theorem sortP_perm (ps : List (Int × Int)) : (sortP ps).Perm ps := List.mergeSort_perm ps _
theorem sortP_sorted (ps : List (Int × Int)) : (sortP ps).Pairwise (fun a b => leP a b = true) := List.pairwise_mergeSort (le := leP) leP_trans leP_total ps
theorem sorted_eq {a b : List (Int × Int)} (p : a.Perm b) (ha : a.Pairwise (fun a b => leP a b = true)) (hb : b.Pairwise (fun a b => leP a b = true)) : a = b :=
  p.eq_of_pairwise (fun a b _ _ h1 h2 => leP_anti a b h1 h2) ha hb
theorem sortP_of {a b : List (Int × Int)} (p : a.Perm b) (ha : a.Pairwise (fun a b => leP a b = true)) : sortP b = a := sorted_eq ((sortP_perm b).trans p.symm) (sortP_sorted b) ha
theorem sortP_congr {a b : List (Int × Int)} (p : a.Perm b) : sortP a = sortP b := sortP_of (((sortP_perm b).trans p.symm)) (sortP_sorted b)
def topk (k : Nat) (ps : List (Int × Int)) : List (Int × Int) := (sortP ps).take k
theorem topk_len {k : Nat} {ps : List (Int × Int)} : (topk k ps).length ≤ k := by
  unfold topk
  rw [List.length_take]
  omega
theorem sortP_len {ps : List (Int × Int)} : (sortP ps).length = ps.length := (sortP_perm ps).length_eq
theorem topk_perm {k : Nat} {a b : List (Int × Int)} (p : a.Perm b) : topk k a = topk k b := by
  unfold topk
  rw [sortP_congr p]
theorem topk_sorted (k : Nat) (ps : List (Int × Int)) : (topk k ps).Pairwise (fun a b => leP a b = true) := (sortP_sorted ps).sublist (List.take_sublist _ _)
/-- those that stand first already -/
theorem sortP_app {F R : List (Int × Int)} (hF : F.Pairwise (fun a b => leP a b = true)) (h : ∀ f ∈ F, ∀ r ∈ R, leP f r = true) : sortP (F ++ R) = F ++ sortP R :=
  sortP_of ((sortP_perm R).append_left F) (List.pairwise_append.mpr ⟨hF, sortP_sorted R, fun f hf r hr => h f hf r ((sortP_perm R).mem_iff.mp hr)⟩)
theorem topk_keep {k : Nat} {F R : List (Int × Int)} (hF : F.Pairwise (fun a b => leP a b = true)) (hk : F.length = k) (h : ∀ f ∈ F, ∀ r ∈ R, leP f r = true) : topk k (F ++ R) = F := by
  unfold topk
  rw [sortP_app hF h, List.take_append_of_le_length (by omega), List.take_of_length_le (by omega)]
theorem topk_short {k : Nat} {ps : List (Int × Int)} (h : ps.length ≤ k) : topk k ps = sortP ps := by
  unfold topk
  exact List.take_of_length_le (by rw [sortP_len]; exact h)
theorem take_drop_le {k : Nat} {ps : List (Int × Int)} : ∀ f ∈ topk k ps, ∀ r ∈ (sortP ps).drop k, leP f r = true := by
  have h := sortP_sorted ps
  rw [← List.take_append_drop k (sortP ps)] at h
  exact (List.pairwise_append.mp h).2.2
/-- what the least of a part leave out does not count -/
theorem topk_part {k : Nat} {A B : List (Int × Int)} : topk k (topk k A ++ B) = topk k (A ++ B) := by
  by_cases hz : A.length ≤ k
  · rw [topk_short hz]
    exact topk_perm ((sortP_perm A).append_right B)
  have hl : (topk k A).length = k := by
    unfold topk
    rw [List.length_take, sortP_len]
    omega
  have hp : (topk k (topk k A ++ B) ++ ((sortP (topk k A ++ B)).drop k ++ (sortP A).drop k)).Perm (A ++ B) := by
    rw [← List.append_assoc]
    have h1 : (topk k (topk k A ++ B) ++ (sortP (topk k A ++ B)).drop k).Perm (topk k A ++ B) := by
      unfold topk
      rw [List.take_append_drop]
      exact sortP_perm _
    refine (h1.append_right _).trans ?_
    have h2 : (topk k A ++ B ++ (sortP A).drop k).Perm (topk k A ++ (sortP A).drop k ++ B) := by
      rw [List.append_assoc, List.append_assoc]
      exact List.perm_append_comm.append_left _
    refine h2.trans ?_
    refine List.Perm.append_right B ?_
    unfold topk
    rw [List.take_append_drop]
    exact sortP_perm A
  rw [← topk_perm hp]
  have hy : (topk k (topk k A ++ B)).length = k := by
    unfold topk
    rw [List.length_take, sortP_len, List.length_append]
    have : (List.take k (sortP A)).length = k := hl
    omega
  refine (topk_keep (topk_sorted _ _) hy fun y hyy r hr => ?_).symm
  rcases List.mem_append.mp hr with hr | hr
  · exact take_drop_le y hyy r hr
  · refine Classical.byContradiction fun hn => ?_
    have hYs := sortP_sorted (topk k A ++ B)
    have hYp := sortP_perm (topk k A ++ B)
    have hyy' : y ∈ (sortP (topk k A ++ B)).take k := hyy
    generalize sortP (topk k A ++ B) = Y at hyy' hYs hYp
    obtain ⟨j, hj, hyj⟩ := List.mem_iff_getElem.mp hyy'
    rw [List.length_take] at hj
    rw [List.getElem_take] at hyj
    have c1 : (topk k A).countP (fun f => !leP y f) = k := by
      refine (List.countP_eq_length.mpr fun f hf => ?_).trans hl
      have h1 := take_drop_le f hf r hr
      have h2 : leP r y = true := by
        have := leP_total y r
        cases hc : leP y r with
        | true => exact absurd hc hn
        | false =>
          rw [hc] at this
          simpa using this
      cases hc : leP y f with
      | false => rfl
      | true => exact absurd (leP_trans _ _ _ hc h1) hn
    have c2 : Y.countP (fun f => !leP y f) ≤ j := by
      rw [← List.take_append_drop j Y, List.countP_append]
      have z : (Y.drop j).countP (fun f => !leP y f) = 0 := by
        refine List.countP_eq_zero.mpr fun f hf => ?_
        obtain ⟨i, hi, e⟩ := List.mem_iff_getElem.mp hf
        rw [List.getElem_drop] at e
        have : leP y f = true := by
          rw [← hyj, ← e]
          by_cases hi0 : i = 0
          · subst hi0
            exact leP_refl _
          · exact List.pairwise_iff_getElem.mp hYs j (j + i) (by omega) (by rw [List.length_drop] at hi; omega) (by omega)
        simp [this]
      have := List.countP_le_length (p := fun f => !leP y f) (l := Y.take j)
      rw [List.length_take] at this
      omega
    have c3 := hYp.countP_eq (fun f => !leP y f)
    rw [List.countP_append, c1] at c3
    omega
end PD
namespace PD
open PySem L2
theorem topk_self {k : Nat} {F : List (Int × Int)} (hF : F.Pairwise (fun a b => leP a b = true)) (hk : F.length ≤ k) : topk k F = F := by
  rw [topk_short hk]
  exact sortP_of (List.Perm.refl F) hF
end PD

set_option Elab.async false
set_option linter.all false
set_option maxRecDepth 100000
set_option maxHeartbeats 4000000
namespace PD
open PySem L2
/-! ### a cloud that is drawn -/

def cloudV (row : List Int) (a n : Nat) (top : Int) (k : Int) : List Int := (rngN n).map fun j => nth row ((a : Int) + 1 + 3 * k + j) % (2 * top + 1) - top
def cloudL (row : List Int) (a most n : Nat) (top : Int) : List (List Int) := (rngN (nth row a % ((most : Int) + 1)).toNat).map (cloudV row a n top)
theorem gIx_row {row : List Int} {i : Int} (h0 : 0 ≤ i) (h1 : i < row.length) : gIx (.lst (row.map D.int)) (.int i) = some (.int (nth row i)) := gIx_lm h0 h1
theorem run_cloud (row : List Int) (a most n : Nat) (top : Int) (ht : 0 ≤ top ∧ top ≤ 1000) (hn : n ≤ 3) (hm : most ≤ 1000) (ha : a + 1 + 3 * most + n ≤ row.length) : run_l_cloud [.lst (row.map D.int), .int a, .int most, .int n, .int top] = some (.tup ((cloudL row a most n top).map intT)) := by
  have b0 := mod_lt (a := nth row a) (b := (most : Int) + 1) (by omega)
  refine runC_rt rfl ?_
  simp only [List.map_cons, List.map_nil, List.replicate, List.cons_append, List.nil_append, List.set_cons_succ, List.set_cons_zero]
  refine seq_setO (ds := []) rfl ?_
  simp only [List.map_cons, List.map_nil, List.replicate, List.cons_append, List.nil_append, List.set_cons_succ, List.set_cons_zero]
  refine seq_for (xs := rngN (nth row a % ((most : Int) + 1)).toNat) (enc := D.int) (fun ys => [.val (.lst (row.map D.int)), .val (.int a), .val (.int most), .val (.int n), .val (.int top), .own ((ys.map (cloudV row a n top)).map intT), lastW (fun a => .val (.int a)) ys, .un]) ?_ rfl (fun ys k zs hx => ?_) ?_
  · simp -implicitDefEqProofs (disch := first | assumption | omega | (simp only [List.length_map, rngN_len, sortI_len]; omega)) only [ev_asL, ev_lc, ev_rg1', ev_call, ev_cons, ev_nil, ev_op, ev_c, ev_bvar, ev_var, List.getElem?_cons_succ, List.getElem?_cons_zero, Option.bind_some, Option.map_some, slB_val, slV_val, slB_own, gLen_l, gLen_t, gLen_iT, List.length_map, rgA_1, rgO_ok, lim_ok, rngN_len, if_true, fltE_map, mapME_map, ev_gNm, ev_tYes, wipe_cons, wipe_nil, List.set_cons_succ, List.set_cons_zero, fltE_yes, fltE_p, fltP_some, fltE_rg, fltRg_p, fltRg_yes, fltRp_some, mapME_rg, mapRg_some, ev_iseq, itemsD_l, itemsD_t, mapME_some, gIx_lm, gIx_tm, Int.toNat_natCast, gAdd_i, gSub_i, map_i, ev_un, ev_asB, ev_asT, ev_not, ev_and, ev_or, ev_eif, ev_fcall, blD_bl, gEq_i, gNe_i, gLt_i, gLe_i, gGt_i, gGe_i, gNeg_i, truD_bl, ev_fn, gTuple_l, gTuple_t, gMod_i, gDiv_i, gMul_l, gMul_r, gMaxA_l', gMinA_l', gMaxA_t', gMinA_t', gSortA_l', sortI_len, gIx_last, truD_lm, truD_tm, ev_m1, gIndex_i, ev_oNo, ev_oYes, intO_i, ev_sl, gSl_l, gSl_t, cutD_map, gInt_i, gInt_b, gAbs_i, gSum_l, gSum_t, ev_isi, ev_eand, ev_eor, ev_enot, gIn_il, gIn_it, gNotIn_il, gNotIn_it, gIs_n, gIsNot_n, isNon_n, isNon_t, isNon_l, isNon_i, isNon_b, ev_tup, ev_lst, limT_0, mkL_0, limT_1, mkL_1, limT_2, mkL_2, limT_3, mkL_3, limT_4, mkL_4, limT_5, mkL_5, limT_6, mkL_6, limT_7, mkL_7, limT_8, mkL_8, gAdd_ll, gAdd_tt, gMax2_i, gMin2_i, gIx_p0, gIx_p1, ev_rev, cutD_take, cutD_drop, gSortA_pair, some_or, some_and, bl_or, bl_and, gIx_t0, gIx_l0, gIx_t1, gIx_l1, gIx_t2, gIx_l2, gIx_t3, gIx_l3, gIx_t4, gIx_l4, gIx_t5, gIx_l5]
  · have hk : k ∈ rngN (nth row a % ((most : Int) + 1)).toNat := by rw [hx]; simp
    obtain ⟨k0, k1⟩ := mem_rngN hk
    have hl : ys.length < 2000 := by
      have := congrArg List.length hx
      rw [rngN_len, List.length_append, List.length_cons] at this
      omega
    refine ⟨_, rfl, .inl ?_⟩
    simp only [List.map_cons, List.map_nil, List.replicate, List.cons_append, List.nil_append, List.set_cons_succ, List.set_cons_zero]
    refine (run_app (d := intT (cloudV row a n top k)) (by
      simp -implicitDefEqProofs (disch := first | assumption | omega | (simp only [List.length_map, rngN_len, sortI_len]; omega)) only [ev_asL, ev_lc, ev_rg1', ev_call, ev_cons, ev_nil, ev_op, ev_c, ev_bvar, ev_var, List.getElem?_cons_succ, List.getElem?_cons_zero, Option.bind_some, Option.map_some, slB_val, slV_val, slB_own, gLen_l, gLen_t, gLen_iT, List.length_map, rgA_1, rgO_ok, lim_ok, rngN_len, if_true, fltE_map, mapME_map, ev_gNm, ev_tYes, wipe_cons, wipe_nil, List.set_cons_succ, List.set_cons_zero, fltE_yes, fltE_p, fltP_some, fltE_rg, fltRg_p, fltRg_yes, fltRp_some, mapME_rg, mapRg_some, ev_iseq, itemsD_l, itemsD_t, mapME_some, gIx_lm, gIx_tm, Int.toNat_natCast, gAdd_i, gSub_i, map_i, ev_un, ev_asB, ev_asT, ev_not, ev_and, ev_or, ev_eif, ev_fcall, blD_bl, gEq_i, gNe_i, gLt_i, gLe_i, gGt_i, gGe_i, gNeg_i, truD_bl, ev_fn, gTuple_l, gTuple_t, gMod_i, gDiv_i, gMul_l, gMul_r, gMaxA_l', gMinA_l', gMaxA_t', gMinA_t', gSortA_l', sortI_len, gIx_last, truD_lm, truD_tm, ev_m1, gIndex_i, ev_oNo, ev_oYes, intO_i, ev_sl, gSl_l, gSl_t, cutD_map, gInt_i, gInt_b, gAbs_i, gSum_l, gSum_t, ev_isi, ev_eand, ev_eor, ev_enot, gIn_il, gIn_it, gNotIn_il, gNotIn_it, gIs_n, gIsNot_n, isNon_n, isNon_t, isNon_l, isNon_i, isNon_b, ev_tup, ev_lst, limT_0, mkL_0, limT_1, mkL_1, limT_2, mkL_2, limT_3, mkL_3, limT_4, mkL_4, limT_5, mkL_5, limT_6, mkL_6, limT_7, mkL_7, limT_8, mkL_8, gAdd_ll, gAdd_tt, gMax2_i, gMin2_i, gIx_p0, gIx_p1, ev_rev, cutD_take, cutD_drop, gSortA_pair, some_or, some_and, bl_or, bl_and, gIx_t0, gIx_l0, gIx_t1, gIx_l1, gIx_t2, gIx_l2, gIx_t3, gIx_l3, gIx_t4, gIx_l4, gIx_t5, gIx_l5]
      first | done | exact rfl) rfl (by simp only [List.length_map]; omega)).trans ?_
    simp only [List.map_cons, List.map_nil, List.replicate, List.cons_append, List.nil_append, List.set_cons_succ, List.set_cons_zero, lastW_snoc, List.map_append]
  · refine run_ret ?_
    simp -implicitDefEqProofs (disch := first | assumption | omega | (simp only [List.length_map, rngN_len, sortI_len]; omega)) only [ev_asL, ev_lc, ev_rg1', ev_call, ev_cons, ev_nil, ev_op, ev_c, ev_bvar, ev_var, List.getElem?_cons_succ, List.getElem?_cons_zero, Option.bind_some, Option.map_some, slB_val, slV_val, slB_own, gLen_l, gLen_t, gLen_iT, List.length_map, rgA_1, rgO_ok, lim_ok, rngN_len, if_true, fltE_map, mapME_map, ev_gNm, ev_tYes, wipe_cons, wipe_nil, List.set_cons_succ, List.set_cons_zero, fltE_yes, fltE_p, fltP_some, fltE_rg, fltRg_p, fltRg_yes, fltRp_some, mapME_rg, mapRg_some, ev_iseq, itemsD_l, itemsD_t, mapME_some, gIx_lm, gIx_tm, Int.toNat_natCast, gAdd_i, gSub_i, map_i, ev_un, ev_asB, ev_asT, ev_not, ev_and, ev_or, ev_eif, ev_fcall, blD_bl, gEq_i, gNe_i, gLt_i, gLe_i, gGt_i, gGe_i, gNeg_i, truD_bl, ev_fn, gTuple_l, gTuple_t, gMod_i, gDiv_i, gMul_l, gMul_r, gMaxA_l', gMinA_l', gMaxA_t', gMinA_t', gSortA_l', sortI_len, gIx_last, truD_lm, truD_tm, ev_m1, gIndex_i, ev_oNo, ev_oYes, intO_i, ev_sl, gSl_l, gSl_t, cutD_map, gInt_i, gInt_b, gAbs_i, gSum_l, gSum_t, ev_isi, ev_eand, ev_eor, ev_enot, gIn_il, gIn_it, gNotIn_il, gNotIn_it, gIs_n, gIsNot_n, isNon_n, isNon_t, isNon_l, isNon_i, isNon_b, ev_tup, ev_lst, limT_0, mkL_0, limT_1, mkL_1, limT_2, mkL_2, limT_3, mkL_3, limT_4, mkL_4, limT_5, mkL_5, limT_6, mkL_6, limT_7, mkL_7, limT_8, mkL_8, gAdd_ll, gAdd_tt, gMax2_i, gMin2_i, gIx_p0, gIx_p1, ev_rev, cutD_take, cutD_drop, gSortA_pair, some_or, some_and, bl_or, bl_and, gIx_t0, gIx_l0, gIx_t1, gIx_l1, gIx_t2, gIx_l2, gIx_t3, gIx_l3, gIx_t4, gIx_l4, gIx_t5, gIx_l5]
    first | done | exact rfl
theorem cloud_len {row : List Int} {a n : Nat} {top : Int} {most : Nat} : ∀ v ∈ cloudL row a most n top, v.length = n := by
  intro v hv
  obtain ⟨k, _, rfl⟩ := List.mem_map.mp hv
  simp [cloudV, rngN_len]
theorem cloud_small {row : List Int} {a n : Nat} {top : Int} {most : Nat} (ht : 0 ≤ top) : ∀ v ∈ cloudL row a most n top, ∀ x ∈ v, -top ≤ x ∧ x ≤ top := by
  intro v hv x hx
  obtain ⟨k, _, rfl⟩ := List.mem_map.mp hv
  obtain ⟨j, _, rfl⟩ := List.mem_map.mp hx
  have := mod_lt (a := nth row ((a : Int) + 1 + 3 * k + j)) (b := 2 * top + 1) (by omega)
  omega
theorem cloud_count {row : List Int} {a n : Nat} {top : Int} {most : Nat} : (cloudL row a most n top).length ≤ most := by
  have := mod_lt (a := nth row a) (b := (most : Int) + 1) (by omega)
  simp only [cloudL, List.length_map, rngN_len]
  omega
end PD

set_option Elab.async false
set_option linter.all false
set_option maxRecDepth 100000
namespace PD
open PySem L2
theorem eqvAll_pairs : ∀ ps : List (Int × Int), PyData.eqvAll (pyL (ps.map pairD)) (pyL (ps.map pairD)) = true
  | [] => by simp [pyL, PyData.eqvAll]
  | p :: r => by
    have ih := eqvAll_pairs r
    simp only [List.map_cons, pyL, PyData.eqvAll, ih, Bool.and_true]
    simp [pairD, py, pyL, PyData.eqv, PyData.eqvAll]
theorem okN_pairs (ps : List (Int × Int)) : okN 64 (.tup (ps.map pairD)) = true := by
  simp only [okN, List.all_eq_true]
  intro x hx
  obtain ⟨p, _, rfl⟩ := List.mem_map.mp hx
  simp [pairD, okN]
theorem gNe_pairs {ps : List (Int × Int)} : gNe (.tup (ps.map pairD)) (.tup (ps.map pairD)) = some (.bl false) := by
  unfold gNe
  rw [okN_pairs]
  have e : eqD (.tup (ps.map pairD)) (.tup (ps.map pairD)) = true := by
    unfold eqD
    simp only [py, PyData.eqv]
    exact eqvAll_pairs ps
  rw [e]
  rfl
end PD

set_option Elab.async false
set_option linter.all false
set_option maxRecDepth 100000
namespace K01
open PySem L2 PD
/-! ### plain laws of the ways -/
theorem absI_nn (x : Int) : 0 ≤ absI x := by unfold absI; split <;> omega
theorem absI_add (x y : Int) : absI (x + y) ≤ absI x + absI y := by
  unfold absI
  split <;> split <;> split <;> omega
theorem absI_neg (x : Int) : absI (-x) = absI x := by
  unfold absI
  split <;> split <;> omega
theorem absI_zero (x : Int) : absI x = 0 ↔ x = 0 := by
  unfold absI
  split <;> omega
def ne1 (x : Int) : Int := if x = 0 then 0 else 1
theorem ne1_nn (x : Int) : 0 ≤ ne1 x := by unfold ne1; split <;> omega
theorem ne1_add (x y : Int) : ne1 (x + y) ≤ ne1 x + ne1 y := by
  unfold ne1
  split <;> split <;> split <;> omega
theorem ne1_neg (x : Int) : ne1 (-x) = ne1 x := by
  unfold ne1
  split <;> split <;> omega
theorem ne1_zero (x : Int) : ne1 x = 0 ↔ x = 0 := by
  unfold ne1
  split <;> omega
theorem unlike_eq : ∀ s : List Int, (((s.filter fun x => !decide (x = 0)).length : Nat) : Int) = (s.map ne1).sum
  | [] => rfl
  | x :: s => by
    by_cases h : x = 0
    · simp [h, ne1, unlike_eq s]
    · have ih := unlike_eq s
      have e : ne1 x = 1 := if_neg h
      rw [List.filter_cons_of_pos (by simp [h]), List.length_cons, List.map_cons, List.sum_cons, e]
      omega
def addI (p q : List Int) : List Int := List.zipWith (fun x y => x + y) p q
theorem subI_add {u v w : List Int} (h1 : u.length = v.length) (h2 : v.length = w.length) : subI u w = addI (subI u v) (subI v w) := by
  apply List.ext_getElem
  · simp [subI, addI, h1, h2]
  · intro i q1 q2
    simp [subI, addI]
    omega
theorem subI_neg {u v : List Int} (h : u.length = v.length) : subI v u = (subI u v).map fun x => -x := by
  apply List.ext_getElem
  · simp [subI, h]
  · intro i q1 q2
    simp [subI]
    omega
theorem subI_zero : ∀ {u v : List Int}, u.length = v.length → ((∀ x ∈ subI u v, x = 0) ↔ u = v)
  | [], [], _ => by simp [subI]
  | [], _ :: _, h => by simp at h
  | _ :: _, [], h => by simp at h
  | x :: u, y :: v, h => by
    have ih := subI_zero (u := u) (v := v) (by simpa using h)
    simp only [subI] at ih
    simp only [subI, List.zipWith_cons_cons, List.mem_cons, forall_eq_or_imp, List.cons.injEq, ih]
    constructor
    · rintro ⟨a, b⟩
      exact ⟨by omega, b⟩
    · rintro ⟨a, b⟩
      exact ⟨by omega, b⟩
theorem len1 {s : List Int} (h : s.length = 1) : ∃ x, s = [x] := by
  match s, h with
  | [x], _ => exact ⟨x, rfl⟩
theorem len2 {s : List Int} (h : s.length = 2) : ∃ x y, s = [x, y] := by
  match s, h with
  | [x, y], _ => exact ⟨x, y, rfl⟩
theorem len3 {s : List Int} (h : s.length = 3) : ∃ x y z, s = [x, y, z] := by
  match s, h with
  | [x, y, z], _ => exact ⟨x, y, z, rfl⟩
theorem sq_nn (x : Int) : 0 ≤ x * x := by
  rcases Int.le_total 0 x with h | h
  · exact Int.mul_nonneg h h
  · have := Int.mul_nonneg (show 0 ≤ -x by omega) (show 0 ≤ -x by omega)
    rw [Int.neg_mul_neg] at this
    exact this
theorem sq_zero {x : Int} (h : x * x = 0) : x = 0 := by
  rcases Int.mul_eq_zero.mp h with h | h <;> exact h
/-- 2xy is between -(xx + yy) and xx + yy -/
theorem two_mul (x y : Int) : 2 * (x * y) ≤ x * x + y * y ∧ -(x * x + y * y) ≤ 2 * (x * y) := by
  have h1 := sq_nn (x - y)
  have h2 := sq_nn (x + y)
  have e1 : (x - y) * (x - y) = x * x + y * y - 2 * (x * y) := by grind
  have e2 : (x + y) * (x + y) = x * x + y * y + 2 * (x * y) := by grind
  omega
/-- t times that, t small -/
theorem off_mul (t m S : Int) (h0 : -7 ≤ t) (h1 : t ≤ 7) (h2 : 2 * m ≤ S) (h3 : -S ≤ 2 * m) : -(7 * S) ≤ 2 * (t * m) := by
  have : t = -7 ∨ t = -6 ∨ t = -5 ∨ t = -4 ∨ t = -3 ∨ t = -2 ∨ t = -1 ∨ t = 0 ∨ t = 1 ∨ t = 2 ∨ t = 3 ∨ t = 4 ∨ t = 5 ∨ t = 6 ∨ t = 7 := by omega
  rcases this with rfl | rfl | rfl | rfl | rfl | rfl | rfl | rfl | rfl | rfl | rfl | rfl | rfl | rfl | rfl <;> omega
theorem off_mul1 (t m S : Int) (h0 : -1 ≤ t) (h1 : t ≤ 1) (h2 : 2 * m ≤ S) (h3 : -S ≤ 2 * m) : -S ≤ 2 * (t * m) := by
  have : t = -1 ∨ t = 0 ∨ t = 1 := by omega
  rcases this with rfl | rfl | rfl <;> omega
/-- the far by "air" and by forms is a square of this kind -/
def quad (ds : List Int) (t : Int) (p q : List Int) : Int := (List.zipWith (fun x r => x * dotI r q) p (formR ds t)).sum
theorem quad1 {a t x y : Int} : quad [a] t [x] [y] = x * (a * y) := by
  simp [quad, formR, rngN, List.range, List.range.loop, dotI]
theorem quad2 {a b t x y x' y' : Int} : quad [a, b] t [x, y] [x', y'] = x * (a * x' + t * y') + y * (t * x' + b * y') := by
  simp [quad, formR, rngN, List.range, List.range.loop, dotI]
theorem quad3 {a b c t x y z x' y' z' : Int} : quad [a, b, c] t [x, y, z] [x', y', z'] = x * (a * x' + t * y' + t * z') + y * (t * x' + b * y' + t * z') + z * (t * x' + t * y' + c * z') := by
  simp [quad, formR, rngN, List.range, List.range.loop, dotI]
  grind

theorem far_form (ds : List Int) (t : Int) (s : List Int) : (Way.form (formR ds t)).far s = quad ds t s s := rfl
/-! C-S for these squares -/
theorem cs1 (a x x' : Int) : (x * (a * x')) * (x * (a * x')) ≤ (x * (a * x)) * (x' * (a * x')) := by
  have : (x * (a * x')) * (x * (a * x')) = (x * (a * x)) * (x' * (a * x')) := by grind
  omega
theorem mul_nn {a b : Int} (ha : 0 ≤ a) (hb : 0 ≤ b) : 0 ≤ a * b := Int.mul_nonneg ha hb
theorem mul_ge {a b : Int} (h : 15 ≤ a) (hb : 0 ≤ b) : 15 * b ≤ a * b := Int.mul_le_mul_of_nonneg_right h hb
/-- the diagonal rules -/
theorem dom3 (A B C f g h x y z : Int) (hA : 15 ≤ A) (hB : 15 ≤ B) (hC : 15 ≤ C) (f0 : -7 ≤ f) (f1 : f ≤ 7) (g0 : -7 ≤ g) (g1 : g ≤ 7) (h0 : -7 ≤ h) (h1 : h ≤ 7) :
    0 ≤ A * (x * x) + B * (y * y) + C * (z * z) + 2 * (f * (x * y)) + 2 * (g * (x * z)) + 2 * (h * (y * z)) := by
  have a1 := mul_ge hA (sq_nn x)
  have a2 := mul_ge hB (sq_nn y)
  have a3 := mul_ge hC (sq_nn z)
  have b1 := off_mul f (x * y) (x * x + y * y) f0 f1 (two_mul x y).1 (two_mul x y).2
  have b2 := off_mul g (x * z) (x * x + z * z) g0 g1 (two_mul x z).1 (two_mul x z).2
  have b3 := off_mul h (y * z) (y * y + z * z) h0 h1 (two_mul y z).1 (two_mul y z).2
  have c1 := sq_nn x
  have c2 := sq_nn y
  have c3 := sq_nn z
  omega
theorem det_ge {a b t : Int} (ha : 4 ≤ a) (hb : 4 ≤ b) (t0 : -1 ≤ t) (t1 : t ≤ 1) : 15 ≤ a * b - t * t := by
  have h := Int.mul_le_mul ha hb (by omega) (by omega)
  have : t = -1 ∨ t = 0 ∨ t = 1 := by omega
  rcases this with rfl | rfl | rfl <;> omega
theorem off_le {a t : Int} (ha : 4 ≤ a) (ha2 : a ≤ 6) (t0 : -1 ≤ t) (t1 : t ≤ 1) : -7 ≤ a * t - t * t ∧ a * t - t * t ≤ 7 := by
  have : t = -1 ∨ t = 0 ∨ t = 1 := by omega
  rcases this with rfl | rfl | rfl <;> omega
theorem cs2 (a b t x y x' y' : Int) (h : 15 ≤ a * b - t * t) : (x * (a * x' + t * y') + y * (t * x' + b * y')) * (x * (a * x' + t * y') + y * (t * x' + b * y')) ≤ (x * (a * x + t * y) + y * (t * x + b * y)) * (x' * (a * x' + t * y') + y' * (t * x' + b * y')) := by
  have e : (x * (a * x + t * y) + y * (t * x + b * y)) * (x' * (a * x' + t * y') + y' * (t * x' + b * y')) - (x * (a * x' + t * y') + y * (t * x' + b * y')) * (x * (a * x' + t * y') + y * (t * x' + b * y')) = (a * b - t * t) * ((x * y' - y * x') * (x * y' - y * x')) := by grind
  have h2 := mul_nn (show 0 ≤ a * b - t * t by omega) (sq_nn (x * y' - y * x'))
  omega
theorem cs3 (a b c t x y z x' y' z' : Int) (ha : 4 ≤ a) (ha2 : a ≤ 6) (hb : 4 ≤ b) (hb2 : b ≤ 6) (hc : 4 ≤ c) (hc2 : c ≤ 6) (t0 : -1 ≤ t) (t1 : t ≤ 1) :
    (x * (a * x' + t * y' + t * z') + y * (t * x' + b * y' + t * z') + z * (t * x' + t * y' + c * z')) * (x * (a * x' + t * y' + t * z') + y * (t * x' + b * y' + t * z') + z * (t * x' + t * y' + c * z')) ≤
      (x * (a * x + t * y + t * z) + y * (t * x + b * y + t * z) + z * (t * x + t * y + c * z)) * (x' * (a * x' + t * y' + t * z') + y' * (t * x' + b * y' + t * z') + z' * (t * x' + t * y' + c * z')) := by
  have e : (x * (a * x + t * y + t * z) + y * (t * x + b * y + t * z) + z * (t * x + t * y + c * z)) * (x' * (a * x' + t * y' + t * z') + y' * (t * x' + b * y' + t * z') + z' * (t * x' + t * y' + c * z')) - (x * (a * x' + t * y' + t * z') + y * (t * x' + b * y' + t * z') + z * (t * x' + t * y' + c * z')) * (x * (a * x' + t * y' + t * z') + y * (t * x' + b * y' + t * z') + z * (t * x' + t * y' + c * z')) =
      (a * b - t * t) * ((x * y' - y * x') * (x * y' - y * x')) + (a * c - t * t) * ((x * z' - z * x') * (x * z' - z * x')) + (b * c - t * t) * ((y * z' - z * y') * (y * z' - z * y'))
        + 2 * ((a * t - t * t) * ((x * y' - y * x') * (x * z' - z * x'))) + 2 * (-(b * t - t * t) * ((x * y' - y * x') * (y * z' - z * y'))) + 2 * ((c * t - t * t) * ((x * z' - z * x') * (y * z' - z * y'))) := by grind
  have o1 := off_le ha ha2 t0 t1
  have o2 := off_le hb hb2 t0 t1
  have o3 := off_le hc hc2 t0 t1
  have h2 := dom3 (a * b - t * t) (a * c - t * t) (b * c - t * t) (a * t - t * t) (-(b * t - t * t)) (c * t - t * t) (x * y' - y * x') (x * z' - z * x') (y * z' - z * y') (det_ge ha hb t0 t1) (det_ge ha hc t0 t1) (det_ge hb hc t0 t1) o1.1 o1.2 (by omega) (by omega) o3.1 o3.2
  omega

def rooted : Way → Bool
  | .air => true
  | .form _ => true
  | _ => false
theorem quad_even : ∀ (n : Nat) (ds : List Int) (t : Int) (s : List Int), ds.length = n → s.length = n → n = 1 ∨ n = 2 ∨ n = 3 → quad ds t (s.map fun x => -x) (s.map fun x => -x) = quad ds t s s := by
  intro n ds t s h1 h2 hn
  rcases hn with rfl | rfl | rfl
  · obtain ⟨a, rfl⟩ := len1 h1
    obtain ⟨x, rfl⟩ := len1 h2
    simp only [List.map_cons, List.map_nil, quad1]
    grind
  · obtain ⟨a, b, rfl⟩ := len2 h1
    obtain ⟨x, y, rfl⟩ := len2 h2
    simp only [List.map_cons, List.map_nil, quad2]
    grind
  · obtain ⟨a, b, c, rfl⟩ := len3 h1
    obtain ⟨x, y, z, rfl⟩ := len3 h2
    simp only [List.map_cons, List.map_nil, quad3]
    grind
theorem map_neg_abs (s : List Int) : (s.map fun x => -x).map absI = s.map absI := by
  rw [List.map_map]
  exact List.map_congr_left fun x _ => absI_neg x
theorem far_even {n : Nat} {w : Way} {s : List Int} (hw : w.good n) (hs : s.length = n) (hn : n = 1 ∨ n = 2 ∨ n = 3) : w.far (s.map fun x => -x) = w.far s := by
  cases w with
  | steps =>
    simp only [Way.far]
    rw [map_neg_abs]
  | air =>
    simp only [Way.far]
    rw [List.map_map]
    congr 1
    exact List.map_congr_left fun x _ => Int.neg_mul_neg x x
  | widest =>
    simp only [Way.far]
    rw [map_neg_abs]
  | unlike =>
    simp only [Way.far]
    rw [unlike_eq, unlike_eq, List.map_map]
    congr 1
    exact List.map_congr_left fun x _ => ne1_neg x
  | weights ws =>
    simp only [Way.far]
    rw [List.zipWith_map_right]
    congr 2
    funext a b
    rw [absI_neg]
  | form rows =>
    obtain ⟨ds, t, h1, h2, h3, h4, rfl⟩ := hw
    rw [far_form, far_form]
    exact quad_even n ds t s h1 hs hn
theorem wt {w x : Int} (h : 1 ≤ w) : 0 ≤ w * absI x ∧ (w * absI x = 0 → x = 0) := by
  have a := absI_nn x
  have : 1 * absI x ≤ w * absI x := Int.mul_le_mul_of_nonneg_right h a
  refine ⟨by omega, fun e => (absI_zero x).mp (by omega)⟩
theorem quad_pos (a t x : Int) : True := trivial
theorem quad_def (n : Nat) (ds : List Int) (t : Int) (s : List Int) (h1 : ds.length = n) (hs : s.length = n) (hn : n = 1 ∨ n = 2 ∨ n = 3) (hd : ∀ d ∈ ds, 4 ≤ d ∧ d ≤ 6) (t0 : -1 ≤ t) (t1 : t ≤ 1) (e : quad ds t s s = 0) : ∀ x ∈ s, x = 0 := by
  have four : ∀ (d x : Int), 4 ≤ d → 4 * (x * x) ≤ d * (x * x) := fun d x h => Int.mul_le_mul_of_nonneg_right h (sq_nn x)
  rcases hn with rfl | rfl | rfl
  · obtain ⟨a, rfl⟩ := len1 h1
    obtain ⟨x, rfl⟩ := len1 hs
    rw [quad1] at e
    have ha := hd a (by simp)
    have := four a x ha.1
    have e2 : x * (a * x) = a * (x * x) := by grind
    have := sq_nn x
    have : x = 0 := sq_zero (by omega)
    simpa using this
  · obtain ⟨a, b, rfl⟩ := len2 h1
    obtain ⟨x, y, rfl⟩ := len2 hs
    rw [quad2] at e
    have ha := hd a (by simp)
    have hb := hd b (by simp)
    have f1 := four a x ha.1
    have f2 := four b y hb.1
    have m1 := off_mul1 t (x * y) (x * x + y * y) t0 t1 (two_mul x y).1 (two_mul x y).2
    have e2 : x * (a * x + t * y) + y * (t * x + b * y) = a * (x * x) + b * (y * y) + 2 * (t * (x * y)) := by grind
    have s1 := sq_nn x
    have s2 := sq_nn y
    have hx : x = 0 := sq_zero (by omega)
    have hy : y = 0 := sq_zero (by omega)
    simp [hx, hy]
  · obtain ⟨a, b, c, rfl⟩ := len3 h1
    obtain ⟨x, y, z, rfl⟩ := len3 hs
    rw [quad3] at e
    have ha := hd a (by simp)
    have hb := hd b (by simp)
    have hc := hd c (by simp)
    have f1 := four a x ha.1
    have f2 := four b y hb.1
    have f3 := four c z hc.1
    have m1 := off_mul1 t (x * y) (x * x + y * y) t0 t1 (two_mul x y).1 (two_mul x y).2
    have m2 := off_mul1 t (x * z) (x * x + z * z) t0 t1 (two_mul x z).1 (two_mul x z).2
    have m3 := off_mul1 t (y * z) (y * y + z * z) t0 t1 (two_mul y z).1 (two_mul y z).2
    have e2 : x * (a * x + t * y + t * z) + y * (t * x + b * y + t * z) + z * (t * x + t * y + c * z) = a * (x * x) + b * (y * y) + c * (z * z) + 2 * (t * (x * y)) + 2 * (t * (x * z)) + 2 * (t * (y * z)) := by grind
    have s1 := sq_nn x
    have s2 := sq_nn y
    have s3 := sq_nn z
    have hx : x = 0 := sq_zero (by omega)
    have hy : y = 0 := sq_zero (by omega)
    have hz : z = 0 := sq_zero (by omega)
    simp [hx, hy, hz]
theorem max_abs (x y : Int) : max (absI x) (absI y) = if absI x ≤ absI y then absI y else absI x := rfl
theorem far_def {n : Nat} {w : Way} {s : List Int} (hw : w.good n) (hs : s.length = n) (hn : n = 1 ∨ n = 2 ∨ n = 3) (e : w.far s = 0) : ∀ x ∈ s, x = 0 := by
  cases w with
  | form rows =>
    obtain ⟨ds, t, h1, h2, h3, h4, rfl⟩ := hw
    exact quad_def n ds t s h1 hs hn h2 h3 h4 e
  | steps =>
    rcases hn with rfl | rfl | rfl
    · obtain ⟨x, rfl⟩ := len1 hs
      simp only [Way.far, List.map_cons, List.map_nil, List.sum_cons, List.sum_nil] at e
      have := (absI_zero x).mp (by omega)
      simpa using this
    · obtain ⟨x, y, rfl⟩ := len2 hs
      simp only [Way.far, List.map_cons, List.map_nil, List.sum_cons, List.sum_nil] at e
      have h1 := absI_nn x
      have h2 := absI_nn y
      have := (absI_zero x).mp (by omega)
      have := (absI_zero y).mp (by omega)
      simp [*]
    · obtain ⟨x, y, z, rfl⟩ := len3 hs
      simp only [Way.far, List.map_cons, List.map_nil, List.sum_cons, List.sum_nil] at e
      have h1 := absI_nn x
      have h2 := absI_nn y
      have h3 := absI_nn z
      have := (absI_zero x).mp (by omega)
      have := (absI_zero y).mp (by omega)
      have := (absI_zero z).mp (by omega)
      simp [*]
  | air =>
    rcases hn with rfl | rfl | rfl
    · obtain ⟨x, rfl⟩ := len1 hs
      simp only [Way.far, List.map_cons, List.map_nil, List.sum_cons, List.sum_nil] at e
      have := sq_zero (x := x) (by omega)
      simpa using this
    · obtain ⟨x, y, rfl⟩ := len2 hs
      simp only [Way.far, List.map_cons, List.map_nil, List.sum_cons, List.sum_nil] at e
      have h1 := sq_nn x
      have h2 := sq_nn y
      have := sq_zero (x := x) (by omega)
      have := sq_zero (x := y) (by omega)
      simp [*]
    · obtain ⟨x, y, z, rfl⟩ := len3 hs
      simp only [Way.far, List.map_cons, List.map_nil, List.sum_cons, List.sum_nil] at e
      have h1 := sq_nn x
      have h2 := sq_nn y
      have h3 := sq_nn z
      have := sq_zero (x := x) (by omega)
      have := sq_zero (x := y) (by omega)
      have := sq_zero (x := z) (by omega)
      simp [*]
  | widest =>
    have key : ∀ y ∈ s.map absI, y ≤ 0 := by
      have h : max0 (s.map absI) = 0 := e
      intro y hy
      cases hm : s.map absI with
      | nil => rw [hm] at hy; cases hy
      | cons a r =>
        rw [hm] at h hy
        have := (maxL_spec r a).2 y hy
        simp only [max0] at h
        omega
    intro x hx
    have h1 := key (absI x) (List.mem_map.mpr ⟨x, hx, rfl⟩)
    have h2 := absI_nn x
    exact (absI_zero x).mp (by omega)
  | unlike =>
    intro x hx
    have e' : ((s.filter fun x => !decide (x = 0)).length : Int) = 0 := e
    have : (s.filter fun x => !decide (x = 0)) = [] := List.length_eq_zero_iff.mp (by omega)
    have := List.filter_eq_nil_iff.mp this x hx
    simpa using this
  | weights ws =>
    obtain ⟨h1, h2⟩ := hw
    rcases hn with rfl | rfl | rfl
    · obtain ⟨x, rfl⟩ := len1 hs
      obtain ⟨a, rfl⟩ := len1 h1
      simp only [Way.far, List.zipWith_cons_cons, List.zipWith_nil_right, List.sum_cons, List.sum_nil] at e
      have q1 := wt (x := x) (h2 a (by simp)).1
      have := q1.2 (by omega)
      simpa using this
    · obtain ⟨x, y, rfl⟩ := len2 hs
      obtain ⟨a, b, rfl⟩ := len2 h1
      simp only [Way.far, List.zipWith_cons_cons, List.zipWith_nil_right, List.sum_cons, List.sum_nil] at e
      have q1 := wt (x := x) (h2 a (by simp)).1
      have q2 := wt (x := y) (h2 b (by simp)).1
      have := q1.2 (by omega)
      have := q2.2 (by omega)
      simp [*]
    · obtain ⟨x, y, z, rfl⟩ := len3 hs
      obtain ⟨a, b, c, rfl⟩ := len3 h1
      simp only [Way.far, List.zipWith_cons_cons, List.zipWith_nil_right, List.sum_cons, List.sum_nil] at e
      have q1 := wt (x := x) (h2 a (by simp)).1
      have q2 := wt (x := y) (h2 b (by simp)).1
      have q3 := wt (x := z) (h2 c (by simp)).1
      have := q1.2 (by omega)
      have := q2.2 (by omega)
      have := q3.2 (by omega)
      simp [*]

theorem wadd {w x y : Int} (h : 1 ≤ w) : w * absI (x + y) ≤ w * absI x + w * absI y := by
  have := Int.mul_le_mul_of_nonneg_left (absI_add x y) (show 0 ≤ w by omega)
  rw [Int.mul_add] at this
  exact this
theorem max0_le {s : List Int} {m : Int} (h0 : 0 < s.length) (h : ∀ y ∈ s, y ≤ m) : max0 s ≤ m := by
  cases s with
  | nil => cases h0
  | cons a r => exact h _ (maxL_spec r a).1
theorem le_max0 {s : List Int} {y : Int} (h : y ∈ s) : y ≤ max0 s := by
  cases s with
  | nil => cases h
  | cons a r => exact (maxL_spec r a).2 y h
theorem sum_le3 : ∀ {xs ys zs : List Int}, xs.length = ys.length → ys.length = zs.length → (∀ i : Nat, i < xs.length → xs.getD i 0 ≤ ys.getD i 0 + zs.getD i 0) → xs.sum ≤ ys.sum + zs.sum
  | [], [], [], _, _, _ => by simp
  | x :: xs, y :: ys, z :: zs, h1, h2, h => by
    have ih := sum_le3 (xs := xs) (ys := ys) (zs := zs) (by simpa using h1) (by simpa using h2) fun i hi => by
      have := h (i + 1) (by simpa using hi)
      simpa using this
    have h0 := h 0 (by simp)
    simp only [List.getD_cons_zero] at h0
    simp only [List.sum_cons]
    omega
  | [], [], _ :: _, _, h, _ => by simp at h
  | [], _ :: _, _, h, _, _ => by simp at h
  | _ :: _, [], _, h, _, _ => by simp at h
  | _ :: _, _ :: _, [], _, h, _ => by simp at h
theorem addI_len {p q : List Int} (h : p.length = q.length) : (addI p q).length = p.length := by simp [addI, h]
theorem tri_map (f : Int → Int) (hf : ∀ x y, f (x + y) ≤ f x + f y) {p q : List Int} (h : p.length = q.length) : ((addI p q).map f).sum ≤ (p.map f).sum + (q.map f).sum := by
  refine sum_le3 (by simp [addI, h]) (by simp [h]) fun i hi => ?_
  have hp : i < p.length := by simpa [addI, h] using hi
  have hq : i < q.length := by omega
  simp only [List.getD, List.getElem?_map, List.getElem?_eq_getElem hp, List.getElem?_eq_getElem hq, List.getElem?_eq_getElem (show i < (addI p q).length by rw [addI_len h]; exact hp), Option.map_some, Option.getD_some]
  simp only [addI, List.getElem_zipWith]
  exact hf _ _
theorem far_tri {n : Nat} {w : Way} {p q : List Int} (hw : w.good n) (h1 : p.length = n) (h2 : q.length = n) (hn : 0 < n) (hr : rooted w = false) : w.far (addI p q) ≤ w.far p + w.far q := by
  have hl : p.length = q.length := by omega
  cases w with
  | steps =>
    simp only [Way.far]
    exact tri_map absI absI_add hl
  | unlike =>
    simp only [Way.far]
    rw [unlike_eq, unlike_eq, unlike_eq]
    exact tri_map ne1 ne1_add hl
  | widest =>
    simp only [Way.far]
    refine max0_le (by simp [addI, h1, h2, hn]) fun y hy => ?_
    obtain ⟨z, hz, rfl⟩ := List.mem_map.mp hy
    obtain ⟨i, hi, rfl⟩ := List.mem_iff_getElem.mp hz
    have hp : i < p.length := by simpa [addI, h1, h2] using hi
    have hq : i < q.length := by omega
    have e : (addI p q)[i] = p[i] + q[i] := by simp [addI]
    rw [e]
    have a1 := absI_add p[i] q[i]
    have a2 := le_max0 (List.mem_map.mpr ⟨p[i], List.getElem_mem hp, rfl⟩ : absI p[i] ∈ p.map absI)
    have a3 := le_max0 (List.mem_map.mpr ⟨q[i], List.getElem_mem hq, rfl⟩ : absI q[i] ∈ q.map absI)
    omega
  | weights ws =>
    obtain ⟨h3, h4⟩ := hw
    simp only [Way.far]
    refine sum_le3 (by simp [addI, h1, h2, h3]) (by simp [h1, h2]) fun i hi => ?_
    have hi' : i < n := by simpa [addI, h1, h2, h3] using hi
    have e0 : i < ws.length := by omega
    have e1 : i < p.length := by omega
    have e2 : i < q.length := by omega
    have e3 : i < (addI p q).length := by
      rw [addI_len hl]
      exact e1
    simp only [List.getD, List.getElem?_zipWith, List.getElem?_eq_getElem e0, List.getElem?_eq_getElem e1, List.getElem?_eq_getElem e2, List.getElem?_eq_getElem e3, Option.getD_some]
    have e : (addI p q)[i] = p[i] + q[i] := by simp [addI]
    rw [e]
    exact wadd (h4 _ (List.getElem_mem e0)).1
  | air => cases hr
  | form _ => cases hr
/-- the turn of a triangle for squares -/
theorem turn_of {A B C S : Int} (h : A - B - C = 2 * S) (h2 : S * S ≤ B * C) : (A - B - C) * (A - B - C) ≤ 4 * B * C := by
  rw [h]
  have e1 : 2 * S * (2 * S) = 4 * (S * S) := by grind
  have e2 : 4 * B * C = 4 * (B * C) := by grind
  omega
theorem far_cs {n : Nat} {w : Way} {p q : List Int} (hw : w.good n) (h1 : p.length = n) (h2 : q.length = n) (hn : n = 1 ∨ n = 2 ∨ n = 3) (hr : rooted w = true) :
    (w.far (addI p q) - w.far p - w.far q) * (w.far (addI p q) - w.far p - w.far q) ≤ 4 * w.far p * w.far q := by
  have form : ∀ (ds : List Int) (t : Int), ds.length = n → (∀ d ∈ ds, 4 ≤ d ∧ d ≤ 6) → -1 ≤ t → t ≤ 1 → (quad ds t (addI p q) (addI p q) - quad ds t p p - quad ds t q q) * (quad ds t (addI p q) (addI p q) - quad ds t p p - quad ds t q q) ≤ 4 * quad ds t p p * quad ds t q q := by
    intro ds t h3 hd t0 t1
    refine turn_of (S := quad ds t p q) ?_ ?_
    · rcases hn with rfl | rfl | rfl
      · obtain ⟨a, rfl⟩ := len1 h3
        obtain ⟨x, rfl⟩ := len1 h1
        obtain ⟨x', rfl⟩ := len1 h2
        simp only [addI, List.zipWith_cons_cons, List.zipWith_nil_right, quad1]
        grind
      · obtain ⟨a, b, rfl⟩ := len2 h3
        obtain ⟨x, y, rfl⟩ := len2 h1
        obtain ⟨x', y', rfl⟩ := len2 h2
        simp only [addI, List.zipWith_cons_cons, List.zipWith_nil_right, quad2]
        grind
      · obtain ⟨a, b, c, rfl⟩ := len3 h3
        obtain ⟨x, y, z, rfl⟩ := len3 h1
        obtain ⟨x', y', z', rfl⟩ := len3 h2
        simp only [addI, List.zipWith_cons_cons, List.zipWith_nil_right, quad3]
        grind
    · rcases hn with rfl | rfl | rfl
      · obtain ⟨a, rfl⟩ := len1 h3
        obtain ⟨x, rfl⟩ := len1 h1
        obtain ⟨x', rfl⟩ := len1 h2
        simp only [quad1]
        exact cs1 a x x'
      · obtain ⟨a, b, rfl⟩ := len2 h3
        obtain ⟨x, y, rfl⟩ := len2 h1
        obtain ⟨x', y', rfl⟩ := len2 h2
        simp only [quad2]
        exact cs2 a b t x y x' y' (det_ge (hd a (by simp)).1 (hd b (by simp)).1 t0 t1)
      · obtain ⟨a, b, c, rfl⟩ := len3 h3
        obtain ⟨x, y, z, rfl⟩ := len3 h1
        obtain ⟨x', y', z', rfl⟩ := len3 h2
        simp only [quad3]
        have ha := hd a (by simp)
        have hb := hd b (by simp)
        have hc := hd c (by simp)
        exact cs3 a b c t x y z x' y' z' ha.1 ha.2 hb.1 hb.2 hc.1 hc.2 t0 t1
  cases w with
  | form rows =>
    obtain ⟨ds, t, h3, h4, h5, h6, rfl⟩ := hw
    exact form ds t h3 h4 h5 h6
  | air =>
    rcases hn with rfl | rfl | rfl
    · obtain ⟨x, rfl⟩ := len1 h1
      obtain ⟨x', rfl⟩ := len1 h2
      simp only [Way.far, addI, List.zipWith_cons_cons, List.zipWith_nil_right, List.map_cons, List.map_nil, List.sum_cons, List.sum_nil]
      refine turn_of (S := x * x') (by grind) ?_
      have : (x * x') * (x * x') = (x * x) * (x' * x') := by grind
      simp
      omega
    · obtain ⟨x, y, rfl⟩ := len2 h1
      obtain ⟨x', y', rfl⟩ := len2 h2
      simp only [Way.far, addI, List.zipWith_cons_cons, List.zipWith_nil_right, List.map_cons, List.map_nil, List.sum_cons, List.sum_nil]
      refine turn_of (S := x * x' + y * y') (by grind) ?_
      have e : (x * x + (y * y + 0)) * (x' * x' + (y' * y' + 0)) - (x * x' + y * y') * (x * x' + y * y') = (x * y' - y * x') * (x * y' - y * x') := by grind
      have := sq_nn (x * y' - y * x')
      omega
    · obtain ⟨x, y, z, rfl⟩ := len3 h1
      obtain ⟨x', y', z', rfl⟩ := len3 h2
      simp only [Way.far, addI, List.zipWith_cons_cons, List.zipWith_nil_right, List.map_cons, List.map_nil, List.sum_cons, List.sum_nil]
      refine turn_of (S := x * x' + y * y' + z * z') (by grind) ?_
      have e : (x * x + (y * y + (z * z + 0))) * (x' * x' + (y' * y' + (z' * z' + 0))) - (x * x' + y * y' + z * z') * (x * x' + y * y' + z * z') = (x * y' - y * x') * (x * y' - y * x') + (x * z' - z * x') * (x * z' - z * x') + (y * z' - z * y') * (y * z' - z * y') := by grind
      have s1 := sq_nn (x * y' - y * x')
      have s2 := sq_nn (x * z' - z * x')
      have s3 := sq_nn (y * z' - z * y')
      omega
  | _ => cases hr
theorem far_zero (w : Way) {n : Nat} {s : List Int} (hw : w.good n) (hs : s.length = n) (hn : n = 1 ∨ n = 2 ∨ n = 3) (h : ∀ x ∈ s, x = 0) : w.far s = 0 := by
  have e : s = List.replicate n 0 := by
    rw [← hs]
    exact List.eq_replicate_iff.mpr ⟨rfl, h⟩
  subst e
  cases w with
  | form rows =>
    obtain ⟨ds, t, h1, h2, h3, h4, rfl⟩ := hw
    rw [far_form]
    rcases hn with rfl | rfl | rfl
    · obtain ⟨a, rfl⟩ := len1 h1
      show quad [a] t [0] [0] = 0
      rw [quad1]
      simp
    · obtain ⟨a, b, rfl⟩ := len2 h1
      show quad [a, b] t [0, 0] [0, 0] = 0
      rw [quad2]
      simp
    · obtain ⟨a, b, c, rfl⟩ := len3 h1
      show quad [a, b, c] t [0, 0, 0] [0, 0, 0] = 0
      rw [quad3]
      simp
  | weights ws =>
    obtain ⟨h1, h2⟩ := hw
    rcases hn with rfl | rfl | rfl
    · obtain ⟨a, rfl⟩ := len1 h1
      simp [Way.far, absI, List.replicate]
    · obtain ⟨a, b, rfl⟩ := len2 h1
      simp [Way.far, absI, List.replicate]
    · obtain ⟨a, b, c, rfl⟩ := len3 h1
      simp [Way.far, absI, List.replicate]
  | _ => rcases hn with rfl | rfl | rfl <;> simp [Way.far, absI, List.replicate, max0, maxL]
end K01

set_option Elab.async false
set_option linter.all false
set_option maxRecDepth 100000
set_option maxHeartbeats 4000000
namespace K06
open PySem L2 PD
/-! ### the split: plainly -/
def col (vs : List (List Int)) (ps : List Int) (a : Int) : List Int := ps.map fun p => nth (nth vs p) a
def gapL (vs : List (List Int)) (n : Nat) (ps : List Int) : List Int := (rngN n).map fun a => maxI (col vs ps a) - minI (col vs ps a)
def axisOf (vs : List (List Int)) (n : Nat) (ps : List Int) : Int := ((gapL vs n ps).idxOf (maxI (gapL vs n ps)) : Nat)
def valOf (row : List Int) : Int := if nth row (((row.length : Int) + 1) / 2 - 1) = nth row ((row.length : Int) - 1) then maxI (row.filter fun x => decide (x < nth row ((row.length : Int) - 1))) else nth row (((row.length : Int) + 1) / 2 - 1)
theorem gapL_len {vs : List (List Int)} {n : Nat} {ps : List Int} : (gapL vs n ps).length = n := by simp [gapL, rngN_len]
theorem maxI_mem {s : List Int} (h : 0 < s.length) : maxI s ∈ s := by
  cases s with
  | nil => cases h
  | cons x r => exact (maxL_spec r x).1
theorem le_maxI {s : List Int} {x : Int} (h : x ∈ s) : x ≤ maxI s := by
  cases s with
  | nil => cases h
  | cons y r => exact (maxL_spec r y).2 x h
theorem minI_mem {s : List Int} (h : 0 < s.length) : minI s ∈ s := by
  cases s with
  | nil => cases h
  | cons x r => exact (minL_spec r x).1
theorem minI_le {s : List Int} {x : Int} (h : x ∈ s) : minI s ≤ x := by
  cases s with
  | nil => cases h
  | cons y r => exact (minL_spec r y).2 x h
theorem axis_in {vs : List (List Int)} {n : Nat} {ps : List Int} (hn : 0 < n) : 0 ≤ axisOf vs n ps ∧ axisOf vs n ps < n := by
  have h := List.idxOf_lt_length_of_mem (maxI_mem (s := gapL vs n ps) (by rw [gapL_len]; exact hn))
  rw [gapL_len] at h
  unfold axisOf
  omega
theorem nth_map {α β : Type} [Inhabited α] [Inhabited β] {f : α → β} {xs : List α} {i : Int} (h0 : 0 ≤ i) (h1 : i < xs.length) : nth (xs.map f) i = f (nth xs i) := by
  have h : i.toNat < xs.length := by omega
  unfold nth
  simp [List.getD, h]
theorem nth_mem {α : Type} [Inhabited α] {xs : List α} {i : Int} (h0 : 0 ≤ i) (h1 : i < xs.length) : nth xs i ∈ xs := by
  have h : i.toNat < xs.length := by omega
  unfold nth
  simp only [List.getD, List.getElem?_eq_getElem h, Option.getD_some]
  exact List.getElem_mem h
theorem nth_rng {n : Nat} {i : Int} (h0 : 0 ≤ i) (h1 : i < n) : nth (rngN n) i = i := by
  have h : i.toNat < n := by omega
  unfold nth rngN
  simp [List.getD, h]
  omega
/-- the gap of the axis is the widest -/
theorem gap_axis {vs : List (List Int)} {n : Nat} {ps : List Int} (hn : 0 < n) : maxI (col vs ps (axisOf vs n ps)) - minI (col vs ps (axisOf vs n ps)) = maxI (gapL vs n ps) := by
  obtain ⟨a0, a1⟩ := axis_in (vs := vs) (ps := ps) hn
  have h := List.idxOf_lt_length_of_mem (maxI_mem (s := gapL vs n ps) (by rw [gapL_len]; exact hn))
  have e : nth (gapL vs n ps) (axisOf vs n ps) = maxI (gapL vs n ps) := by
    unfold axisOf nth
    simp only [List.getD, Int.toNat_natCast, List.getElem?_eq_getElem h, Option.getD_some]
    exact List.getElem_idxOf h
  rw [← e]
  unfold gapL
  rw [nth_map a0 (by rw [rngN_len]; exact a1), nth_rng a0 a1]
def lt_last (row : List Int) : List Int := row.filter fun x => decide (x < nth row ((row.length : Int) - 1))
theorem run_split (n : Nat) (vs : List (List Int)) (ps : List Int) (hn0 : 0 < n) (hn : n ≤ 1000) (hp0 : 0 < ps.length) (hp1 : ps.length ≤ 100000) (hp : ∀ p ∈ ps, gIx (.tup (vs.map intT)) (.int p) = some (intT (nth vs p))) (hv : ∀ p ∈ ps, (nth vs p).length = n) (hlt : maxI (gapL vs n ps) ≠ 0 → 0 < ((sortI (col vs ps (axisOf vs n ps))).filter fun x => decide (x < nth (sortI (col vs ps (axisOf vs n ps))) (((sortI (col vs ps (axisOf vs n ps))).length : Int) - 1))).length) :
    run_split_at [.tup (vs.map intT), .lst (ps.map .int)] = some (if maxI (gapL vs n ps) = 0 then .non else .tup [.int (axisOf vs n ps), .int (valOf (sortI (col vs ps (axisOf vs n ps))))]) := by
  have hq : ∀ p ∈ ps, ∀ a, 0 ≤ a → a < (n : Int) → gIx (intT (nth vs p)) (.int a) = some (.int (nth (nth vs p) a)) := fun p hp a a0 a1 => gIx_iT a0 (by rw [hv p hp]; exact a1)
  have h0 : nth ps 0 ∈ ps := nth_mem (by omega) (by omega)
  obtain ⟨a0, a1⟩ := axis_in (vs := vs) (ps := ps) hn0
  refine runC_rt rfl ?_
  simp only [List.map_cons, List.map_nil, List.replicate, List.cons_append, List.nil_append, List.set_cons_succ, List.set_cons_zero]
  refine seq_set (by simp -implicitDefEqProofs (disch := first | assumption | omega | (simp only [List.length_map, rngN_len, sortI_len]; omega)) only [ev_asL, ev_lc, ev_rg1', ev_call, ev_cons, ev_nil, ev_op, ev_c, ev_bvar, ev_var, List.getElem?_cons_succ, List.getElem?_cons_zero, Option.bind_some, Option.map_some, slB_val, slV_val, slB_own, gLen_l, gLen_t, gLen_iT, List.length_map, rgA_1, rgO_ok, lim_ok, rngN_len, if_true, fltE_map, mapME_map, ev_gNm, ev_tYes, wipe_cons, wipe_nil, List.set_cons_succ, List.set_cons_zero, fltE_yes, fltE_p, fltP_some, fltE_rg, fltRg_p, fltRg_yes, fltRp_some, mapME_rg, mapRg_some, ev_iseq, itemsD_l, itemsD_t, mapME_some, gIx_lm, gIx_tm, Int.toNat_natCast, gAdd_i, gSub_i, map_i, ev_un, ev_asB, ev_asT, ev_not, ev_and, ev_or, ev_eif, ev_fcall, blD_bl, gEq_i, gNe_i, gLt_i, gLe_i, gGt_i, gGe_i, gNeg_i, truD_bl, ev_fn, gTuple_l, gTuple_t, gMod_i, gDiv_i, gMul_l, gMul_r, gMaxA_l', gMinA_l', gMaxA_t', gMinA_t', gSortA_l', sortI_len, gIx_last, truD_lm, truD_tm, ev_m1, gIndex_i, ev_oNo, ev_oYes, intO_i, ev_sl, gSl_l, gSl_t, cutD_map, gInt_i, gInt_b, gAbs_i, gSum_l, gSum_t, ev_isi, ev_eand, ev_eor, ev_enot, gIn_il, gIn_it, gNotIn_il, gNotIn_it, gIs_n, gIsNot_n, isNon_n, isNon_t, isNon_l, isNon_i, isNon_b, ev_tup, ev_lst, limT_0, mkL_0, limT_1, mkL_1, limT_2, mkL_2, limT_3, mkL_3, limT_4, mkL_4, limT_5, mkL_5, limT_6, mkL_6, limT_7, mkL_7, limT_8, mkL_8, gAdd_ll, gAdd_tt, gMax2_i, gMin2_i, gIx_p0, gIx_p1, ev_rev, cutD_take, cutD_drop, gSortA_pair, some_or, some_and, bl_or, bl_and, gIx_t0, gIx_l0, gIx_t1, gIx_l1, gIx_t2, gIx_l2, gIx_t3, gIx_l3, gIx_t4, gIx_l4, gIx_t5, gIx_l5, hp, hq, hv]; exact rfl) ?_
  simp only [List.map_cons, List.map_nil, List.replicate, List.cons_append, List.nil_append, List.set_cons_succ, List.set_cons_zero]
  refine seq_set (d := .lst ((gapL vs n ps).map D.int)) (by simp -implicitDefEqProofs (disch := first | assumption | omega | (simp only [List.length_map, rngN_len, sortI_len]; omega)) only [ev_asL, ev_lc, ev_rg1', ev_call, ev_cons, ev_nil, ev_op, ev_c, ev_bvar, ev_var, List.getElem?_cons_succ, List.getElem?_cons_zero, Option.bind_some, Option.map_some, slB_val, slV_val, slB_own, gLen_l, gLen_t, gLen_iT, List.length_map, rgA_1, rgO_ok, lim_ok, rngN_len, if_true, fltE_map, mapME_map, ev_gNm, ev_tYes, wipe_cons, wipe_nil, List.set_cons_succ, List.set_cons_zero, fltE_yes, fltE_p, fltP_some, fltE_rg, fltRg_p, fltRg_yes, fltRp_some, mapME_rg, mapRg_some, ev_iseq, itemsD_l, itemsD_t, mapME_some, gIx_lm, gIx_tm, Int.toNat_natCast, gAdd_i, gSub_i, map_i, ev_un, ev_asB, ev_asT, ev_not, ev_and, ev_or, ev_eif, ev_fcall, blD_bl, gEq_i, gNe_i, gLt_i, gLe_i, gGt_i, gGe_i, gNeg_i, truD_bl, ev_fn, gTuple_l, gTuple_t, gMod_i, gDiv_i, gMul_l, gMul_r, gMaxA_l', gMinA_l', gMaxA_t', gMinA_t', gSortA_l', sortI_len, gIx_last, truD_lm, truD_tm, ev_m1, gIndex_i, ev_oNo, ev_oYes, intO_i, ev_sl, gSl_l, gSl_t, cutD_map, gInt_i, gInt_b, gAbs_i, gSum_l, gSum_t, ev_isi, ev_eand, ev_eor, ev_enot, gIn_il, gIn_it, gNotIn_il, gNotIn_it, gIs_n, gIsNot_n, isNon_n, isNon_t, isNon_l, isNon_i, isNon_b, ev_tup, ev_lst, limT_0, mkL_0, limT_1, mkL_1, limT_2, mkL_2, limT_3, mkL_3, limT_4, mkL_4, limT_5, mkL_5, limT_6, mkL_6, limT_7, mkL_7, limT_8, mkL_8, gAdd_ll, gAdd_tt, gMax2_i, gMin2_i, gIx_p0, gIx_p1, ev_rev, cutD_take, cutD_drop, gSortA_pair, some_or, some_and, bl_or, bl_and, gIx_t0, gIx_l0, gIx_t1, gIx_l1, gIx_t2, gIx_l2, gIx_t3, gIx_l3, gIx_t4, gIx_l4, gIx_t5, gIx_l5]; rfl) ?_
  simp only [List.map_cons, List.map_nil, List.replicate, List.cons_append, List.nil_append, List.set_cons_succ, List.set_cons_zero]
  have gl := gapL_len (vs := vs) (n := n) (ps := ps)
  have gm := maxI_mem (s := gapL vs n ps) (by omega)
  refine seq_set (by simp -implicitDefEqProofs (disch := first | assumption | omega | (simp only [List.length_map, rngN_len, sortI_len]; omega)) only [ev_asL, ev_lc, ev_rg1', ev_call, ev_cons, ev_nil, ev_op, ev_c, ev_bvar, ev_var, List.getElem?_cons_succ, List.getElem?_cons_zero, Option.bind_some, Option.map_some, slB_val, slV_val, slB_own, gLen_l, gLen_t, gLen_iT, List.length_map, rgA_1, rgO_ok, lim_ok, rngN_len, if_true, fltE_map, mapME_map, ev_gNm, ev_tYes, wipe_cons, wipe_nil, List.set_cons_succ, List.set_cons_zero, fltE_yes, fltE_p, fltP_some, fltE_rg, fltRg_p, fltRg_yes, fltRp_some, mapME_rg, mapRg_some, ev_iseq, itemsD_l, itemsD_t, mapME_some, gIx_lm, gIx_tm, Int.toNat_natCast, gAdd_i, gSub_i, map_i, ev_un, ev_asB, ev_asT, ev_not, ev_and, ev_or, ev_eif, ev_fcall, blD_bl, gEq_i, gNe_i, gLt_i, gLe_i, gGt_i, gGe_i, gNeg_i, truD_bl, ev_fn, gTuple_l, gTuple_t, gMod_i, gDiv_i, gMul_l, gMul_r, gMaxA_l', gMinA_l', gMaxA_t', gMinA_t', gSortA_l', sortI_len, gIx_last, truD_lm, truD_tm, ev_m1, gIndex_i, ev_oNo, ev_oYes, intO_i, ev_sl, gSl_l, gSl_t, cutD_map, gInt_i, gInt_b, gAbs_i, gSum_l, gSum_t, ev_isi, ev_eand, ev_eor, ev_enot, gIn_il, gIn_it, gNotIn_il, gNotIn_it, gIs_n, gIsNot_n, isNon_n, isNon_t, isNon_l, isNon_i, isNon_b, ev_tup, ev_lst, limT_0, mkL_0, limT_1, mkL_1, limT_2, mkL_2, limT_3, mkL_3, limT_4, mkL_4, limT_5, mkL_5, limT_6, mkL_6, limT_7, mkL_7, limT_8, mkL_8, gAdd_ll, gAdd_tt, gMax2_i, gMin2_i, gIx_p0, gIx_p1, ev_rev, cutD_take, cutD_drop, gSortA_pair, some_or, some_and, bl_or, bl_and, gIx_t0, gIx_l0, gIx_t1, gIx_l1, gIx_t2, gIx_l2, gIx_t3, gIx_l3, gIx_t4, gIx_l4, gIx_t5, gIx_l5]; exact rfl) ?_
  simp only [List.map_cons, List.map_nil, List.replicate, List.cons_append, List.nil_append, List.set_cons_succ, List.set_cons_zero]
  refine seq_ifk (by simp -implicitDefEqProofs (disch := first | assumption | omega | (simp only [List.length_map, rngN_len, sortI_len]; omega)) only [ev_asL, ev_lc, ev_rg1', ev_call, ev_cons, ev_nil, ev_op, ev_c, ev_bvar, ev_var, List.getElem?_cons_succ, List.getElem?_cons_zero, Option.bind_some, Option.map_some, slB_val, slV_val, slB_own, gLen_l, gLen_t, gLen_iT, List.length_map, rgA_1, rgO_ok, lim_ok, rngN_len, if_true, fltE_map, mapME_map, ev_gNm, ev_tYes, wipe_cons, wipe_nil, List.set_cons_succ, List.set_cons_zero, fltE_yes, fltE_p, fltP_some, fltE_rg, fltRg_p, fltRg_yes, fltRp_some, mapME_rg, mapRg_some, ev_iseq, itemsD_l, itemsD_t, mapME_some, gIx_lm, gIx_tm, Int.toNat_natCast, gAdd_i, gSub_i, map_i, ev_un, ev_asB, ev_asT, ev_not, ev_and, ev_or, ev_eif, ev_fcall, blD_bl, gEq_i, gNe_i, gLt_i, gLe_i, gGt_i, gGe_i, gNeg_i, truD_bl, ev_fn, gTuple_l, gTuple_t, gMod_i, gDiv_i, gMul_l, gMul_r, gMaxA_l', gMinA_l', gMaxA_t', gMinA_t', gSortA_l', sortI_len, gIx_last, truD_lm, truD_tm, ev_m1, gIndex_i, ev_oNo, ev_oYes, intO_i, ev_sl, gSl_l, gSl_t, cutD_map, gInt_i, gInt_b, gAbs_i, gSum_l, gSum_t, ev_isi, ev_eand, ev_eor, ev_enot, gIn_il, gIn_it, gNotIn_il, gNotIn_it, gIs_n, gIsNot_n, isNon_n, isNon_t, isNon_l, isNon_i, isNon_b, ev_tup, ev_lst, limT_0, mkL_0, limT_1, mkL_1, limT_2, mkL_2, limT_3, mkL_3, limT_4, mkL_4, limT_5, mkL_5, limT_6, mkL_6, limT_7, mkL_7, limT_8, mkL_8, gAdd_ll, gAdd_tt, gMax2_i, gMin2_i, gIx_p0, gIx_p1, ev_rev, cutD_take, cutD_drop, gSortA_pair, some_or, some_and, bl_or, bl_and, gIx_t0, gIx_l0, gIx_t1, gIx_l1, gIx_t2, gIx_l2, gIx_t3, gIx_l3, gIx_t4, gIx_l4, gIx_t5, gIx_l5]; exact rfl) (fun h => ?_) (fun h => ?_)
  · rw [if_pos (of_decide_eq_true h)]
    rfl
  have hw := of_decide_eq_false h
  rw [if_neg hw, seq_nop]
  refine seq_set (d := .int (axisOf vs n ps)) (by simp -implicitDefEqProofs (disch := first | assumption | omega | (simp only [List.length_map, rngN_len, sortI_len]; omega)) only [ev_asL, ev_lc, ev_rg1', ev_call, ev_cons, ev_nil, ev_op, ev_c, ev_bvar, ev_var, List.getElem?_cons_succ, List.getElem?_cons_zero, Option.bind_some, Option.map_some, slB_val, slV_val, slB_own, gLen_l, gLen_t, gLen_iT, List.length_map, rgA_1, rgO_ok, lim_ok, rngN_len, if_true, fltE_map, mapME_map, ev_gNm, ev_tYes, wipe_cons, wipe_nil, List.set_cons_succ, List.set_cons_zero, fltE_yes, fltE_p, fltP_some, fltE_rg, fltRg_p, fltRg_yes, fltRp_some, mapME_rg, mapRg_some, ev_iseq, itemsD_l, itemsD_t, mapME_some, gIx_lm, gIx_tm, Int.toNat_natCast, gAdd_i, gSub_i, map_i, ev_un, ev_asB, ev_asT, ev_not, ev_and, ev_or, ev_eif, ev_fcall, blD_bl, gEq_i, gNe_i, gLt_i, gLe_i, gGt_i, gGe_i, gNeg_i, truD_bl, ev_fn, gTuple_l, gTuple_t, gMod_i, gDiv_i, gMul_l, gMul_r, gMaxA_l', gMinA_l', gMaxA_t', gMinA_t', gSortA_l', sortI_len, gIx_last, truD_lm, truD_tm, ev_m1, gIndex_i, ev_oNo, ev_oYes, intO_i, ev_sl, gSl_l, gSl_t, cutD_map, gInt_i, gInt_b, gAbs_i, gSum_l, gSum_t, ev_isi, ev_eand, ev_eor, ev_enot, gIn_il, gIn_it, gNotIn_il, gNotIn_it, gIs_n, gIsNot_n, isNon_n, isNon_t, isNon_l, isNon_i, isNon_b, ev_tup, ev_lst, limT_0, mkL_0, limT_1, mkL_1, limT_2, mkL_2, limT_3, mkL_3, limT_4, mkL_4, limT_5, mkL_5, limT_6, mkL_6, limT_7, mkL_7, limT_8, mkL_8, gAdd_ll, gAdd_tt, gMax2_i, gMin2_i, gIx_p0, gIx_p1, ev_rev, cutD_take, cutD_drop, gSortA_pair, some_or, some_and, bl_or, bl_and, gIx_t0, gIx_l0, gIx_t1, gIx_l1, gIx_t2, gIx_l2, gIx_t3, gIx_l3, gIx_t4, gIx_l4, gIx_t5, gIx_l5]; exact rfl) ?_
  simp only [List.map_cons, List.map_nil, List.replicate, List.cons_append, List.nil_append, List.set_cons_succ, List.set_cons_zero]
  refine seq_set (d := .lst ((sortI (col vs ps (axisOf vs n ps))).map D.int)) (by
    simp -implicitDefEqProofs (disch := first | assumption | omega | (simp only [List.length_map, rngN_len, sortI_len]; omega)) only [ev_asL, ev_lc, ev_rg1', ev_call, ev_cons, ev_nil, ev_op, ev_c, ev_bvar, ev_var, List.getElem?_cons_succ, List.getElem?_cons_zero, Option.bind_some, Option.map_some, slB_val, slV_val, slB_own, gLen_l, gLen_t, gLen_iT, List.length_map, rgA_1, rgO_ok, lim_ok, rngN_len, if_true, fltE_map, mapME_map, ev_gNm, ev_tYes, wipe_cons, wipe_nil, List.set_cons_succ, List.set_cons_zero, fltE_yes, fltE_p, fltP_some, fltE_rg, fltRg_p, fltRg_yes, fltRp_some, mapME_rg, mapRg_some, ev_iseq, itemsD_l, itemsD_t, mapME_some, gIx_lm, gIx_tm, Int.toNat_natCast, gAdd_i, gSub_i, map_i, ev_un, ev_asB, ev_asT, ev_not, ev_and, ev_or, ev_eif, ev_fcall, blD_bl, gEq_i, gNe_i, gLt_i, gLe_i, gGt_i, gGe_i, gNeg_i, truD_bl, ev_fn, gTuple_l, gTuple_t, gMod_i, gDiv_i, gMul_l, gMul_r, gMaxA_l', gMinA_l', gMaxA_t', gMinA_t', gSortA_l', sortI_len, gIx_last, truD_lm, truD_tm, ev_m1, gIndex_i, ev_oNo, ev_oYes, intO_i, ev_sl, gSl_l, gSl_t, cutD_map, gInt_i, gInt_b, gAbs_i, gSum_l, gSum_t, ev_isi, ev_eand, ev_eor, ev_enot, gIn_il, gIn_it, gNotIn_il, gNotIn_it, gIs_n, gIsNot_n, isNon_n, isNon_t, isNon_l, isNon_i, isNon_b, ev_tup, ev_lst, limT_0, mkL_0, limT_1, mkL_1, limT_2, mkL_2, limT_3, mkL_3, limT_4, mkL_4, limT_5, mkL_5, limT_6, mkL_6, limT_7, mkL_7, limT_8, mkL_8, gAdd_ll, gAdd_tt, gMax2_i, gMin2_i, gIx_p0, gIx_p1, ev_rev, cutD_take, cutD_drop, gSortA_pair, some_or, some_and, bl_or, bl_and, gIx_t0, gIx_l0, gIx_t1, gIx_l1, gIx_t2, gIx_l2, gIx_t3, gIx_l3, gIx_t4, gIx_l4, gIx_t5, gIx_l5, nth_rng]
    rfl) ?_
  simp only [List.map_cons, List.map_nil, List.replicate, List.cons_append, List.nil_append, List.set_cons_succ, List.set_cons_zero]
  have hl : (sortI (col vs ps (axisOf vs n ps))).length = ps.length := by rw [sortI_len, col, List.length_map]
  have hlt := hlt hw
  generalize hrow : sortI (col vs ps (axisOf vs n ps)) = row at hl hlt
  refine seq_set (by simp -implicitDefEqProofs (disch := first | assumption | omega | (simp only [List.length_map, rngN_len, sortI_len]; omega)) only [ev_asL, ev_lc, ev_rg1', ev_call, ev_cons, ev_nil, ev_op, ev_c, ev_bvar, ev_var, List.getElem?_cons_succ, List.getElem?_cons_zero, Option.bind_some, Option.map_some, slB_val, slV_val, slB_own, gLen_l, gLen_t, gLen_iT, List.length_map, rgA_1, rgO_ok, lim_ok, rngN_len, if_true, fltE_map, mapME_map, ev_gNm, ev_tYes, wipe_cons, wipe_nil, List.set_cons_succ, List.set_cons_zero, fltE_yes, fltE_p, fltP_some, fltE_rg, fltRg_p, fltRg_yes, fltRp_some, mapME_rg, mapRg_some, ev_iseq, itemsD_l, itemsD_t, mapME_some, gIx_lm, gIx_tm, Int.toNat_natCast, gAdd_i, gSub_i, map_i, ev_un, ev_asB, ev_asT, ev_not, ev_and, ev_or, ev_eif, ev_fcall, blD_bl, gEq_i, gNe_i, gLt_i, gLe_i, gGt_i, gGe_i, gNeg_i, truD_bl, ev_fn, gTuple_l, gTuple_t, gMod_i, gDiv_i, gMul_l, gMul_r, gMaxA_l', gMinA_l', gMaxA_t', gMinA_t', gSortA_l', sortI_len, gIx_last, truD_lm, truD_tm, ev_m1, gIndex_i, ev_oNo, ev_oYes, intO_i, ev_sl, gSl_l, gSl_t, cutD_map, gInt_i, gInt_b, gAbs_i, gSum_l, gSum_t, ev_isi, ev_eand, ev_eor, ev_enot, gIn_il, gIn_it, gNotIn_il, gNotIn_it, gIs_n, gIsNot_n, isNon_n, isNon_t, isNon_l, isNon_i, isNon_b, ev_tup, ev_lst, limT_0, mkL_0, limT_1, mkL_1, limT_2, mkL_2, limT_3, mkL_3, limT_4, mkL_4, limT_5, mkL_5, limT_6, mkL_6, limT_7, mkL_7, limT_8, mkL_8, gAdd_ll, gAdd_tt, gMax2_i, gMin2_i, gIx_p0, gIx_p1, ev_rev, cutD_take, cutD_drop, gSortA_pair, some_or, some_and, bl_or, bl_and, gIx_t0, gIx_l0, gIx_t1, gIx_l1, gIx_t2, gIx_l2, gIx_t3, gIx_l3, gIx_t4, gIx_l4, gIx_t5, gIx_l5]; exact rfl) ?_
  simp only [List.map_cons, List.map_nil, List.replicate, List.cons_append, List.nil_append, List.set_cons_succ, List.set_cons_zero]
  refine seq_ifk (by simp -implicitDefEqProofs (disch := first | assumption | omega | (simp only [List.length_map, rngN_len, sortI_len]; omega)) only [ev_asL, ev_lc, ev_rg1', ev_call, ev_cons, ev_nil, ev_op, ev_c, ev_bvar, ev_var, List.getElem?_cons_succ, List.getElem?_cons_zero, Option.bind_some, Option.map_some, slB_val, slV_val, slB_own, gLen_l, gLen_t, gLen_iT, List.length_map, rgA_1, rgO_ok, lim_ok, rngN_len, if_true, fltE_map, mapME_map, ev_gNm, ev_tYes, wipe_cons, wipe_nil, List.set_cons_succ, List.set_cons_zero, fltE_yes, fltE_p, fltP_some, fltE_rg, fltRg_p, fltRg_yes, fltRp_some, mapME_rg, mapRg_some, ev_iseq, itemsD_l, itemsD_t, mapME_some, gIx_lm, gIx_tm, Int.toNat_natCast, gAdd_i, gSub_i, map_i, ev_un, ev_asB, ev_asT, ev_not, ev_and, ev_or, ev_eif, ev_fcall, blD_bl, gEq_i, gNe_i, gLt_i, gLe_i, gGt_i, gGe_i, gNeg_i, truD_bl, ev_fn, gTuple_l, gTuple_t, gMod_i, gDiv_i, gMul_l, gMul_r, gMaxA_l', gMinA_l', gMaxA_t', gMinA_t', gSortA_l', sortI_len, gIx_last, truD_lm, truD_tm, ev_m1, gIndex_i, ev_oNo, ev_oYes, intO_i, ev_sl, gSl_l, gSl_t, cutD_map, gInt_i, gInt_b, gAbs_i, gSum_l, gSum_t, ev_isi, ev_eand, ev_eor, ev_enot, gIn_il, gIn_it, gNotIn_il, gNotIn_it, gIs_n, gIsNot_n, isNon_n, isNon_t, isNon_l, isNon_i, isNon_b, ev_tup, ev_lst, limT_0, mkL_0, limT_1, mkL_1, limT_2, mkL_2, limT_3, mkL_3, limT_4, mkL_4, limT_5, mkL_5, limT_6, mkL_6, limT_7, mkL_7, limT_8, mkL_8, gAdd_ll, gAdd_tt, gMax2_i, gMin2_i, gIx_p0, gIx_p1, ev_rev, cutD_take, cutD_drop, gSortA_pair, some_or, some_and, bl_or, bl_and, gIx_t0, gIx_l0, gIx_t1, gIx_l1, gIx_t2, gIx_l2, gIx_t3, gIx_l3, gIx_t4, gIx_l4, gIx_t5, gIx_l5]; exact rfl) (fun h => ?_) (fun h => ?_)
  · have h := of_decide_eq_true h
    refine seq_set (by simp -implicitDefEqProofs (disch := first | assumption | omega | (simp only [List.length_map, rngN_len, sortI_len]; omega)) only [ev_asL, ev_lc, ev_rg1', ev_call, ev_cons, ev_nil, ev_op, ev_c, ev_bvar, ev_var, List.getElem?_cons_succ, List.getElem?_cons_zero, Option.bind_some, Option.map_some, slB_val, slV_val, slB_own, gLen_l, gLen_t, gLen_iT, List.length_map, rgA_1, rgO_ok, lim_ok, rngN_len, if_true, fltE_map, mapME_map, ev_gNm, ev_tYes, wipe_cons, wipe_nil, List.set_cons_succ, List.set_cons_zero, fltE_yes, fltE_p, fltP_some, fltE_rg, fltRg_p, fltRg_yes, fltRp_some, mapME_rg, mapRg_some, ev_iseq, itemsD_l, itemsD_t, mapME_some, gIx_lm, gIx_tm, Int.toNat_natCast, gAdd_i, gSub_i, map_i, ev_un, ev_asB, ev_asT, ev_not, ev_and, ev_or, ev_eif, ev_fcall, blD_bl, gEq_i, gNe_i, gLt_i, gLe_i, gGt_i, gGe_i, gNeg_i, truD_bl, ev_fn, gTuple_l, gTuple_t, gMod_i, gDiv_i, gMul_l, gMul_r, gMaxA_l', gMinA_l', gMaxA_t', gMinA_t', gSortA_l', sortI_len, gIx_last, truD_lm, truD_tm, ev_m1, gIndex_i, ev_oNo, ev_oYes, intO_i, ev_sl, gSl_l, gSl_t, cutD_map, gInt_i, gInt_b, gAbs_i, gSum_l, gSum_t, ev_isi, ev_eand, ev_eor, ev_enot, gIn_il, gIn_it, gNotIn_il, gNotIn_it, gIs_n, gIsNot_n, isNon_n, isNon_t, isNon_l, isNon_i, isNon_b, ev_tup, ev_lst, limT_0, mkL_0, limT_1, mkL_1, limT_2, mkL_2, limT_3, mkL_3, limT_4, mkL_4, limT_5, mkL_5, limT_6, mkL_6, limT_7, mkL_7, limT_8, mkL_8, gAdd_ll, gAdd_tt, gMax2_i, gMin2_i, gIx_p0, gIx_p1, ev_rev, cutD_take, cutD_drop, gSortA_pair, some_or, some_and, bl_or, bl_and, gIx_t0, gIx_l0, gIx_t1, gIx_l1, gIx_t2, gIx_l2, gIx_t3, gIx_l3, gIx_t4, gIx_l4, gIx_t5, gIx_l5]; exact rfl) ?_
    simp only [List.map_cons, List.map_nil, List.replicate, List.cons_append, List.nil_append, List.set_cons_succ, List.set_cons_zero]
    refine run_ret ?_
    unfold valOf
    rw [if_pos h]
    rfl
  · have h := of_decide_eq_false h
    refine run_ret ?_
    unfold valOf
    rw [if_neg h]
    rfl
end K06

set_option Elab.async false
set_option linter.all false
set_option maxRecDepth 100000
set_option maxHeartbeats 4000000
namespace K06
open PySem L2 PD
theorem nth_get {xs : List Int} {i : Nat} (h : i < xs.length) : nth xs (i : Int) = xs[i] := by
  unfold nth
  simp [List.getD, h]
theorem last_ge {row : List Int} (hs : row.Pairwise (· ≤ ·)) {x : Int} (hx : x ∈ row) : x ≤ nth row ((row.length : Int) - 1) := by
  obtain ⟨i, hi, rfl⟩ := List.mem_iff_getElem.mp hx
  have e : ((row.length : Int) - 1) = ((row.length - 1 : Nat) : Int) := by omega
  rw [e, nth_get (by omega)]
  by_cases h : i = row.length - 1
  · subst h
    exact Int.le_refl _
  · exact List.pairwise_iff_getElem.mp hs i (row.length - 1) hi (by omega) (by omega)
theorem sort_mem {s : List Int} {x : Int} : x ∈ sortI s ↔ x ∈ s := (sortI_perm s).mem_iff
theorem lt_last_ne {c : List Int} (h : 0 < c.length) (hw : maxI c ≠ minI c) : minI c ∈ (sortI c).filter fun x => decide (x < nth (sortI c) (((sortI c).length : Int) - 1)) := by
  have h1 := last_ge (sortI_sorted c) (sort_mem.mpr (maxI_mem h))
  have h2 := le_maxI (minI_mem h)
  exact List.mem_filter.mpr ⟨sort_mem.mpr (minI_mem h), decide_eq_true (by omega)⟩
theorem val_in {c : List Int} (h : 0 < c.length) (hw : maxI c ≠ minI c) : valOf (sortI c) ∈ c ∧ ∃ x ∈ c, valOf (sortI c) < x := by
  have hl := sortI_len (s := c)
  have h3 := lt_last_ne h hw
  have lm : nth (sortI c) (((sortI c).length : Int) - 1) ∈ c := sort_mem.mp (nth_mem (by omega) (by omega))
  unfold valOf
  by_cases hc : nth (sortI c) ((((sortI c).length : Int) + 1) / 2 - 1) = nth (sortI c) (((sortI c).length : Int) - 1)
  · rw [if_pos hc]
    have m := maxI_mem (s := (sortI c).filter fun x => decide (x < nth (sortI c) (((sortI c).length : Int) - 1))) (List.length_pos_of_mem h3)
    obtain ⟨m1, m2⟩ := List.mem_filter.mp m
    exact ⟨sort_mem.mp m1, _, lm, of_decide_eq_true m2⟩
  · rw [if_neg hc]
    have m : nth (sortI c) ((((sortI c).length : Int) + 1) / 2 - 1) ∈ sortI c := nth_mem (by omega) (by omega)
    have := last_ge (sortI_sorted c) m
    exact ⟨sort_mem.mp m, _, lm, by omega⟩
inductive ST where
  | non | leaf (ps : List Int) | node (axis value : Int) (lo hi : ST)
def ST.d : ST → D
  | .non => .non
  | .leaf ps => intT ps
  | .node a v l h => .tup [.int a, .int v, l.d, h.d]
def lows (vs : List (List Int)) (a v : Int) (ps : List Int) : List Int := ps.filter fun p => decide (nth (nth vs p) a ≤ v)
def highs (vs : List (List Int)) (a v : Int) (ps : List Int) : List Int := ps.filter fun p => decide (v < nth (nth vs p) a)
def cutOf (vs : List (List Int)) (n : Nat) (ps : List Int) : Int := valOf (sortI (col vs ps (axisOf vs n ps)))
def split (vs : List (List Int)) (n : Nat) : Nat → List Int → ST
  | 0, _ => .non
  | f + 1, ps => if ps.length = 0 then .non else if ps.length ≤ 2 ∨ maxI (gapL vs n ps) = 0 then .leaf ps
    else .node (axisOf vs n ps) (cutOf vs n ps) (split vs n f (lows vs (axisOf vs n ps) (cutOf vs n ps) ps)) (split vs n f (highs vs (axisOf vs n ps) (cutOf vs n ps) ps))
theorem filter_lt {α : Type} {p : α → Bool} {xs : List α} {x : α} (hx : x ∈ xs) (h : p x = false) : (xs.filter p).length < xs.length := by
  refine Nat.lt_of_le_of_ne (List.length_filter_le p xs) fun e => ?_
  have := List.length_filter_eq_length_iff.mp e x hx
  rw [h] at this
  cases this
theorem cut_less {vs : List (List Int)} {n : Nat} {ps : List Int} (hn : 0 < n) (hp : 0 < ps.length) (hw : maxI (gapL vs n ps) ≠ 0) : (lows vs (axisOf vs n ps) (cutOf vs n ps) ps).length < ps.length ∧ (highs vs (axisOf vs n ps) (cutOf vs n ps) ps).length < ps.length := by
  have g := gap_axis (vs := vs) (ps := ps) hn
  obtain ⟨h1, x, h2, h3⟩ := val_in (c := col vs ps (axisOf vs n ps)) (by simpa [col] using hp) (by omega)
  obtain ⟨p, hp1, e1⟩ := List.mem_map.mp h1
  obtain ⟨q, hq1, e2⟩ := List.mem_map.mp h2
  unfold cutOf
  refine ⟨filter_lt hq1 (decide_eq_false ?_), filter_lt hp1 (decide_eq_false ?_)⟩
  · omega
  · omega
theorem run_tree (n : Nat) (vs : List (List Int)) (hn0 : 0 < n) (hn : n ≤ 1000) (hv : ∀ v ∈ vs, v.length = n) : ∀ (f : Nat) (ps : List Int), ps.length < f → ps.length ≤ 1000 → (∀ p ∈ ps, 0 ≤ p ∧ p < vs.length) → run_tree_of_places f [.tup (vs.map intT), .lst (ps.map .int)] = some (split vs n f ps).d
  | 0, ps, h, _, _ => absurd h (by omega)
  | f + 1, ps, hf, hz, hp => by
    have ih := run_tree n vs hn0 hn hv f
    have hp' : ∀ p ∈ ps, gIx (.tup (vs.map intT)) (.int p) = some (intT (nth vs p)) := fun p h => gIx_tm (hp p h).1 (hp p h).2
    have hv' : ∀ p ∈ ps, (nth vs p).length = n := fun p h => hv _ (nth_mem (hp p h).1 (hp p h).2)
    have hq : ∀ p ∈ ps, ∀ a, 0 ≤ a → a < (n : Int) → gIx (intT (nth vs p)) (.int a) = some (.int (nth (nth vs p) a)) := fun p hp a a0 a1 => gIx_iT a0 (by rw [hv' p hp]; exact a1)
    obtain ⟨a0, a1⟩ := axis_in (vs := vs) (ps := ps) hn0
    show runC 2 6 (b_tree_of_places (run_tree_of_places f)) _ = _
    refine runC_rt rfl ?_
    simp only [List.map_cons, List.map_nil, List.replicate, List.cons_append, List.nil_append, List.set_cons_succ, List.set_cons_zero]
    unfold split
    refine seq_ifk (by simp -implicitDefEqProofs (disch := first | assumption | omega | (simp only [List.length_map, rngN_len, sortI_len]; omega)) only [ev_asL, ev_lc, ev_rg1', ev_call, ev_cons, ev_nil, ev_op, ev_c, ev_bvar, ev_var, List.getElem?_cons_succ, List.getElem?_cons_zero, Option.bind_some, Option.map_some, slB_val, slV_val, slB_own, gLen_l, gLen_t, gLen_iT, List.length_map, rgA_1, rgO_ok, lim_ok, rngN_len, if_true, fltE_map, mapME_map, ev_gNm, ev_tYes, wipe_cons, wipe_nil, List.set_cons_succ, List.set_cons_zero, fltE_yes, fltE_p, fltP_some, fltE_rg, fltRg_p, fltRg_yes, fltRp_some, mapME_rg, mapRg_some, ev_iseq, itemsD_l, itemsD_t, mapME_some, gIx_lm, gIx_tm, Int.toNat_natCast, gAdd_i, gSub_i, map_i, ev_un, ev_asB, ev_asT, ev_not, ev_and, ev_or, ev_eif, ev_fcall, blD_bl, gEq_i, gNe_i, gLt_i, gLe_i, gGt_i, gGe_i, gNeg_i, truD_bl, ev_fn, gTuple_l, gTuple_t, gMod_i, gDiv_i, gMul_l, gMul_r, gMaxA_l', gMinA_l', gMaxA_t', gMinA_t', gSortA_l', sortI_len, gIx_last, truD_lm, truD_tm, ev_m1, gIndex_i, ev_oNo, ev_oYes, intO_i, ev_sl, gSl_l, gSl_t, cutD_map, gInt_i, gInt_b, gAbs_i, gSum_l, gSum_t, ev_isi, ev_eand, ev_eor, ev_enot, gIn_il, gIn_it, gNotIn_il, gNotIn_it, gIs_n, gIsNot_n, isNon_n, isNon_t, isNon_l, isNon_i, isNon_b, ev_tup, ev_lst, limT_0, mkL_0, limT_1, mkL_1, limT_2, mkL_2, limT_3, mkL_3, limT_4, mkL_4, limT_5, mkL_5, limT_6, mkL_6, limT_7, mkL_7, limT_8, mkL_8, gAdd_ll, gAdd_tt, gMax2_i, gMin2_i, gIx_p0, gIx_p1, ev_rev, cutD_take, cutD_drop, gSortA_pair, some_or, some_and, bl_or, bl_and, gIx_t0, gIx_l0, gIx_t1, gIx_l1, gIx_t2, gIx_l2, gIx_t3, gIx_l3, gIx_t4, gIx_l4, gIx_t5, gIx_l5]; first | done | exact rfl) (fun h => ?_) (fun h => ?_)
    · rw [if_pos (by simpa using h)]
      rfl
    have h0 : 0 < ps.length := by simpa using h
    rw [if_neg (by omega), seq_nop]
    have hs := run_split n vs ps hn0 hn h0 (by omega) hp' hv' (fun hw => List.length_pos_of_mem (lt_last_ne (by simpa [col] using h0) (by
      have := gap_axis (vs := vs) (ps := ps) hn0
      omega)))
    by_cases hc : ps.length ≤ 2 ∨ maxI (gapL vs n ps) = 0
    · rw [if_pos hc]
      refine seq_set (d := .non) ?_ ?_
      · by_cases h2 : (2 : Int) < ps.length
        · simp -implicitDefEqProofs (disch := first | assumption | omega | (simp only [List.length_map, rngN_len, sortI_len]; omega)) only [ev_asL, ev_lc, ev_rg1', ev_call, ev_cons, ev_nil, ev_op, ev_c, ev_bvar, ev_var, List.getElem?_cons_succ, List.getElem?_cons_zero, Option.bind_some, Option.map_some, slB_val, slV_val, slB_own, gLen_l, gLen_t, gLen_iT, List.length_map, rgA_1, rgO_ok, lim_ok, rngN_len, if_true, fltE_map, mapME_map, ev_gNm, ev_tYes, wipe_cons, wipe_nil, List.set_cons_succ, List.set_cons_zero, fltE_yes, fltE_p, fltP_some, fltE_rg, fltRg_p, fltRg_yes, fltRp_some, mapME_rg, mapRg_some, ev_iseq, itemsD_l, itemsD_t, mapME_some, gIx_lm, gIx_tm, Int.toNat_natCast, gAdd_i, gSub_i, map_i, ev_un, ev_asB, ev_asT, ev_not, ev_and, ev_or, ev_eif, ev_fcall, blD_bl, gEq_i, gNe_i, gLt_i, gLe_i, gGt_i, gGe_i, gNeg_i, truD_bl, ev_fn, gTuple_l, gTuple_t, gMod_i, gDiv_i, gMul_l, gMul_r, gMaxA_l', gMinA_l', gMaxA_t', gMinA_t', gSortA_l', sortI_len, gIx_last, truD_lm, truD_tm, ev_m1, gIndex_i, ev_oNo, ev_oYes, intO_i, ev_sl, gSl_l, gSl_t, cutD_map, gInt_i, gInt_b, gAbs_i, gSum_l, gSum_t, ev_isi, ev_eand, ev_eor, ev_enot, gIn_il, gIn_it, gNotIn_il, gNotIn_it, gIs_n, gIsNot_n, isNon_n, isNon_t, isNon_l, isNon_i, isNon_b, ev_tup, ev_lst, limT_0, mkL_0, limT_1, mkL_1, limT_2, mkL_2, limT_3, mkL_3, limT_4, mkL_4, limT_5, mkL_5, limT_6, mkL_6, limT_7, mkL_7, limT_8, mkL_8, gAdd_ll, gAdd_tt, gMax2_i, gMin2_i, gIx_p0, gIx_p1, ev_rev, cutD_take, cutD_drop, gSortA_pair, some_or, some_and, bl_or, bl_and, gIx_t0, gIx_l0, gIx_t1, gIx_l1, gIx_t2, gIx_l2, gIx_t3, gIx_l3, gIx_t4, gIx_l4, gIx_t5, gIx_l5, hs, decide_eq_true h2]
          rw [if_pos (by omega)]
        · simp -implicitDefEqProofs (disch := first | assumption | omega | (simp only [List.length_map, rngN_len, sortI_len]; omega)) only [ev_asL, ev_lc, ev_rg1', ev_call, ev_cons, ev_nil, ev_op, ev_c, ev_bvar, ev_var, List.getElem?_cons_succ, List.getElem?_cons_zero, Option.bind_some, Option.map_some, slB_val, slV_val, slB_own, gLen_l, gLen_t, gLen_iT, List.length_map, rgA_1, rgO_ok, lim_ok, rngN_len, if_true, fltE_map, mapME_map, ev_gNm, ev_tYes, wipe_cons, wipe_nil, List.set_cons_succ, List.set_cons_zero, fltE_yes, fltE_p, fltP_some, fltE_rg, fltRg_p, fltRg_yes, fltRp_some, mapME_rg, mapRg_some, ev_iseq, itemsD_l, itemsD_t, mapME_some, gIx_lm, gIx_tm, Int.toNat_natCast, gAdd_i, gSub_i, map_i, ev_un, ev_asB, ev_asT, ev_not, ev_and, ev_or, ev_eif, ev_fcall, blD_bl, gEq_i, gNe_i, gLt_i, gLe_i, gGt_i, gGe_i, gNeg_i, truD_bl, ev_fn, gTuple_l, gTuple_t, gMod_i, gDiv_i, gMul_l, gMul_r, gMaxA_l', gMinA_l', gMaxA_t', gMinA_t', gSortA_l', sortI_len, gIx_last, truD_lm, truD_tm, ev_m1, gIndex_i, ev_oNo, ev_oYes, intO_i, ev_sl, gSl_l, gSl_t, cutD_map, gInt_i, gInt_b, gAbs_i, gSum_l, gSum_t, ev_isi, ev_eand, ev_eor, ev_enot, gIn_il, gIn_it, gNotIn_il, gNotIn_it, gIs_n, gIsNot_n, isNon_n, isNon_t, isNon_l, isNon_i, isNon_b, ev_tup, ev_lst, limT_0, mkL_0, limT_1, mkL_1, limT_2, mkL_2, limT_3, mkL_3, limT_4, mkL_4, limT_5, mkL_5, limT_6, mkL_6, limT_7, mkL_7, limT_8, mkL_8, gAdd_ll, gAdd_tt, gMax2_i, gMin2_i, gIx_p0, gIx_p1, ev_rev, cutD_take, cutD_drop, gSortA_pair, some_or, some_and, bl_or, bl_and, gIx_t0, gIx_l0, gIx_t1, gIx_l1, gIx_t2, gIx_l2, gIx_t3, gIx_l3, gIx_t4, gIx_l4, gIx_t5, gIx_l5, decide_eq_false h2]
          first | done | exact rfl
      simp only [List.map_cons, List.map_nil, List.replicate, List.cons_append, List.nil_append, List.set_cons_succ, List.set_cons_zero]
      refine seq_if1r (by simp -implicitDefEqProofs (disch := first | assumption | omega | (simp only [List.length_map, rngN_len, sortI_len]; omega)) only [ev_asL, ev_lc, ev_rg1', ev_call, ev_cons, ev_nil, ev_op, ev_c, ev_bvar, ev_var, List.getElem?_cons_succ, List.getElem?_cons_zero, Option.bind_some, Option.map_some, slB_val, slV_val, slB_own, gLen_l, gLen_t, gLen_iT, List.length_map, rgA_1, rgO_ok, lim_ok, rngN_len, if_true, fltE_map, mapME_map, ev_gNm, ev_tYes, wipe_cons, wipe_nil, List.set_cons_succ, List.set_cons_zero, fltE_yes, fltE_p, fltP_some, fltE_rg, fltRg_p, fltRg_yes, fltRp_some, mapME_rg, mapRg_some, ev_iseq, itemsD_l, itemsD_t, mapME_some, gIx_lm, gIx_tm, Int.toNat_natCast, gAdd_i, gSub_i, map_i, ev_un, ev_asB, ev_asT, ev_not, ev_and, ev_or, ev_eif, ev_fcall, blD_bl, gEq_i, gNe_i, gLt_i, gLe_i, gGt_i, gGe_i, gNeg_i, truD_bl, ev_fn, gTuple_l, gTuple_t, gMod_i, gDiv_i, gMul_l, gMul_r, gMaxA_l', gMinA_l', gMaxA_t', gMinA_t', gSortA_l', sortI_len, gIx_last, truD_lm, truD_tm, ev_m1, gIndex_i, ev_oNo, ev_oYes, intO_i, ev_sl, gSl_l, gSl_t, cutD_map, gInt_i, gInt_b, gAbs_i, gSum_l, gSum_t, ev_isi, ev_eand, ev_eor, ev_enot, gIn_il, gIn_it, gNotIn_il, gNotIn_it, gIs_n, gIsNot_n, isNon_n, isNon_t, isNon_l, isNon_i, isNon_b, ev_tup, ev_lst, limT_0, mkL_0, limT_1, mkL_1, limT_2, mkL_2, limT_3, mkL_3, limT_4, mkL_4, limT_5, mkL_5, limT_6, mkL_6, limT_7, mkL_7, limT_8, mkL_8, gAdd_ll, gAdd_tt, gMax2_i, gMin2_i, gIx_p0, gIx_p1, ev_rev, cutD_take, cutD_drop, gSortA_pair, some_or, some_and, bl_or, bl_and, gIx_t0, gIx_l0, gIx_t1, gIx_l1, gIx_t2, gIx_l2, gIx_t3, gIx_l3, gIx_t4, gIx_l4, gIx_t5, gIx_l5]; first | done | exact rfl) (run_ret ?_)
      simp -implicitDefEqProofs (disch := first | assumption | omega | (simp only [List.length_map, rngN_len, sortI_len]; omega)) only [ev_asL, ev_lc, ev_rg1', ev_call, ev_cons, ev_nil, ev_op, ev_c, ev_bvar, ev_var, List.getElem?_cons_succ, List.getElem?_cons_zero, Option.bind_some, Option.map_some, slB_val, slV_val, slB_own, gLen_l, gLen_t, gLen_iT, List.length_map, rgA_1, rgO_ok, lim_ok, rngN_len, if_true, fltE_map, mapME_map, ev_gNm, ev_tYes, wipe_cons, wipe_nil, List.set_cons_succ, List.set_cons_zero, fltE_yes, fltE_p, fltP_some, fltE_rg, fltRg_p, fltRg_yes, fltRp_some, mapME_rg, mapRg_some, ev_iseq, itemsD_l, itemsD_t, mapME_some, gIx_lm, gIx_tm, Int.toNat_natCast, gAdd_i, gSub_i, map_i, ev_un, ev_asB, ev_asT, ev_not, ev_and, ev_or, ev_eif, ev_fcall, blD_bl, gEq_i, gNe_i, gLt_i, gLe_i, gGt_i, gGe_i, gNeg_i, truD_bl, ev_fn, gTuple_l, gTuple_t, gMod_i, gDiv_i, gMul_l, gMul_r, gMaxA_l', gMinA_l', gMaxA_t', gMinA_t', gSortA_l', sortI_len, gIx_last, truD_lm, truD_tm, ev_m1, gIndex_i, ev_oNo, ev_oYes, intO_i, ev_sl, gSl_l, gSl_t, cutD_map, gInt_i, gInt_b, gAbs_i, gSum_l, gSum_t, ev_isi, ev_eand, ev_eor, ev_enot, gIn_il, gIn_it, gNotIn_il, gNotIn_it, gIs_n, gIsNot_n, isNon_n, isNon_t, isNon_l, isNon_i, isNon_b, ev_tup, ev_lst, limT_0, mkL_0, limT_1, mkL_1, limT_2, mkL_2, limT_3, mkL_3, limT_4, mkL_4, limT_5, mkL_5, limT_6, mkL_6, limT_7, mkL_7, limT_8, mkL_8, gAdd_ll, gAdd_tt, gMax2_i, gMin2_i, gIx_p0, gIx_p1, ev_rev, cutD_take, cutD_drop, gSortA_pair, some_or, some_and, bl_or, bl_and, gIx_t0, gIx_l0, gIx_t1, gIx_l1, gIx_t2, gIx_l2, gIx_t3, gIx_l3, gIx_t4, gIx_l4, gIx_t5, gIx_l5]
      first | done | exact rfl
    · rw [if_neg hc]
      have h2 : (2 : Int) < ps.length := by omega
      have hw : maxI (gapL vs n ps) ≠ 0 := by omega
      rw [if_neg hw] at hs
      obtain ⟨l1, l2⟩ := cut_less (vs := vs) hn0 h0 hw
      refine seq_set (d := .tup [.int (axisOf vs n ps), .int (cutOf vs n ps)]) (by simp -implicitDefEqProofs (disch := first | assumption | omega | (simp only [List.length_map, rngN_len, sortI_len]; omega)) only [ev_asL, ev_lc, ev_rg1', ev_call, ev_cons, ev_nil, ev_op, ev_c, ev_bvar, ev_var, List.getElem?_cons_succ, List.getElem?_cons_zero, Option.bind_some, Option.map_some, slB_val, slV_val, slB_own, gLen_l, gLen_t, gLen_iT, List.length_map, rgA_1, rgO_ok, lim_ok, rngN_len, if_true, fltE_map, mapME_map, ev_gNm, ev_tYes, wipe_cons, wipe_nil, List.set_cons_succ, List.set_cons_zero, fltE_yes, fltE_p, fltP_some, fltE_rg, fltRg_p, fltRg_yes, fltRp_some, mapME_rg, mapRg_some, ev_iseq, itemsD_l, itemsD_t, mapME_some, gIx_lm, gIx_tm, Int.toNat_natCast, gAdd_i, gSub_i, map_i, ev_un, ev_asB, ev_asT, ev_not, ev_and, ev_or, ev_eif, ev_fcall, blD_bl, gEq_i, gNe_i, gLt_i, gLe_i, gGt_i, gGe_i, gNeg_i, truD_bl, ev_fn, gTuple_l, gTuple_t, gMod_i, gDiv_i, gMul_l, gMul_r, gMaxA_l', gMinA_l', gMaxA_t', gMinA_t', gSortA_l', sortI_len, gIx_last, truD_lm, truD_tm, ev_m1, gIndex_i, ev_oNo, ev_oYes, intO_i, ev_sl, gSl_l, gSl_t, cutD_map, gInt_i, gInt_b, gAbs_i, gSum_l, gSum_t, ev_isi, ev_eand, ev_eor, ev_enot, gIn_il, gIn_it, gNotIn_il, gNotIn_it, gIs_n, gIsNot_n, isNon_n, isNon_t, isNon_l, isNon_i, isNon_b, ev_tup, ev_lst, limT_0, mkL_0, limT_1, mkL_1, limT_2, mkL_2, limT_3, mkL_3, limT_4, mkL_4, limT_5, mkL_5, limT_6, mkL_6, limT_7, mkL_7, limT_8, mkL_8, gAdd_ll, gAdd_tt, gMax2_i, gMin2_i, gIx_p0, gIx_p1, ev_rev, cutD_take, cutD_drop, gSortA_pair, some_or, some_and, bl_or, bl_and, gIx_t0, gIx_l0, gIx_t1, gIx_l1, gIx_t2, gIx_l2, gIx_t3, gIx_l3, gIx_t4, gIx_l4, gIx_t5, gIx_l5, hs, decide_eq_true h2]; first | done | exact rfl) ?_
      simp only [List.map_cons, List.map_nil, List.replicate, List.cons_append, List.nil_append, List.set_cons_succ, List.set_cons_zero]
      refine seq_if0 rfl ?_
      refine seq_asg (d := .tup [.int (axisOf vs n ps), .int (cutOf vs n ps)]) rfl rfl ?_
      simp only [List.map_cons, List.map_nil, List.replicate, List.cons_append, List.nil_append, List.set_cons_succ, List.set_cons_zero]
      refine seq_set (d := .lst ((lows vs (axisOf vs n ps) (cutOf vs n ps) ps).map D.int)) (by simp -implicitDefEqProofs (disch := first | assumption | omega | (simp only [List.length_map, rngN_len, sortI_len]; omega)) only [ev_asL, ev_lc, ev_rg1', ev_call, ev_cons, ev_nil, ev_op, ev_c, ev_bvar, ev_var, List.getElem?_cons_succ, List.getElem?_cons_zero, Option.bind_some, Option.map_some, slB_val, slV_val, slB_own, gLen_l, gLen_t, gLen_iT, List.length_map, rgA_1, rgO_ok, lim_ok, rngN_len, if_true, fltE_map, mapME_map, ev_gNm, ev_tYes, wipe_cons, wipe_nil, List.set_cons_succ, List.set_cons_zero, fltE_yes, fltE_p, fltP_some, fltE_rg, fltRg_p, fltRg_yes, fltRp_some, mapME_rg, mapRg_some, ev_iseq, itemsD_l, itemsD_t, mapME_some, gIx_lm, gIx_tm, Int.toNat_natCast, gAdd_i, gSub_i, map_i, ev_un, ev_asB, ev_asT, ev_not, ev_and, ev_or, ev_eif, ev_fcall, blD_bl, gEq_i, gNe_i, gLt_i, gLe_i, gGt_i, gGe_i, gNeg_i, truD_bl, ev_fn, gTuple_l, gTuple_t, gMod_i, gDiv_i, gMul_l, gMul_r, gMaxA_l', gMinA_l', gMaxA_t', gMinA_t', gSortA_l', sortI_len, gIx_last, truD_lm, truD_tm, ev_m1, gIndex_i, ev_oNo, ev_oYes, intO_i, ev_sl, gSl_l, gSl_t, cutD_map, gInt_i, gInt_b, gAbs_i, gSum_l, gSum_t, ev_isi, ev_eand, ev_eor, ev_enot, gIn_il, gIn_it, gNotIn_il, gNotIn_it, gIs_n, gIsNot_n, isNon_n, isNon_t, isNon_l, isNon_i, isNon_b, ev_tup, ev_lst, limT_0, mkL_0, limT_1, mkL_1, limT_2, mkL_2, limT_3, mkL_3, limT_4, mkL_4, limT_5, mkL_5, limT_6, mkL_6, limT_7, mkL_7, limT_8, mkL_8, gAdd_ll, gAdd_tt, gMax2_i, gMin2_i, gIx_p0, gIx_p1, ev_rev, cutD_take, cutD_drop, gSortA_pair, some_or, some_and, bl_or, bl_and, gIx_t0, gIx_l0, gIx_t1, gIx_l1, gIx_t2, gIx_l2, gIx_t3, gIx_l3, gIx_t4, gIx_l4, gIx_t5, gIx_l5, hp', hq]; first | done | exact rfl) ?_
      simp only [List.map_cons, List.map_nil, List.replicate, List.cons_append, List.nil_append, List.set_cons_succ, List.set_cons_zero]
      refine seq_set (d := .lst ((highs vs (axisOf vs n ps) (cutOf vs n ps) ps).map D.int)) (by simp -implicitDefEqProofs (disch := first | assumption | omega | (simp only [List.length_map, rngN_len, sortI_len]; omega)) only [ev_asL, ev_lc, ev_rg1', ev_call, ev_cons, ev_nil, ev_op, ev_c, ev_bvar, ev_var, List.getElem?_cons_succ, List.getElem?_cons_zero, Option.bind_some, Option.map_some, slB_val, slV_val, slB_own, gLen_l, gLen_t, gLen_iT, List.length_map, rgA_1, rgO_ok, lim_ok, rngN_len, if_true, fltE_map, mapME_map, ev_gNm, ev_tYes, wipe_cons, wipe_nil, List.set_cons_succ, List.set_cons_zero, fltE_yes, fltE_p, fltP_some, fltE_rg, fltRg_p, fltRg_yes, fltRp_some, mapME_rg, mapRg_some, ev_iseq, itemsD_l, itemsD_t, mapME_some, gIx_lm, gIx_tm, Int.toNat_natCast, gAdd_i, gSub_i, map_i, ev_un, ev_asB, ev_asT, ev_not, ev_and, ev_or, ev_eif, ev_fcall, blD_bl, gEq_i, gNe_i, gLt_i, gLe_i, gGt_i, gGe_i, gNeg_i, truD_bl, ev_fn, gTuple_l, gTuple_t, gMod_i, gDiv_i, gMul_l, gMul_r, gMaxA_l', gMinA_l', gMaxA_t', gMinA_t', gSortA_l', sortI_len, gIx_last, truD_lm, truD_tm, ev_m1, gIndex_i, ev_oNo, ev_oYes, intO_i, ev_sl, gSl_l, gSl_t, cutD_map, gInt_i, gInt_b, gAbs_i, gSum_l, gSum_t, ev_isi, ev_eand, ev_eor, ev_enot, gIn_il, gIn_it, gNotIn_il, gNotIn_it, gIs_n, gIsNot_n, isNon_n, isNon_t, isNon_l, isNon_i, isNon_b, ev_tup, ev_lst, limT_0, mkL_0, limT_1, mkL_1, limT_2, mkL_2, limT_3, mkL_3, limT_4, mkL_4, limT_5, mkL_5, limT_6, mkL_6, limT_7, mkL_7, limT_8, mkL_8, gAdd_ll, gAdd_tt, gMax2_i, gMin2_i, gIx_p0, gIx_p1, ev_rev, cutD_take, cutD_drop, gSortA_pair, some_or, some_and, bl_or, bl_and, gIx_t0, gIx_l0, gIx_t1, gIx_l1, gIx_t2, gIx_l2, gIx_t3, gIx_l3, gIx_t4, gIx_l4, gIx_t5, gIx_l5, hp', hq]; first | done | exact rfl) ?_
      simp only [List.map_cons, List.map_nil, List.replicate, List.cons_append, List.nil_append, List.set_cons_succ, List.set_cons_zero]
      refine run_ret ?_
      have i1 := ih (lows vs (axisOf vs n ps) (cutOf vs n ps) ps) (by omega) (by omega) fun p h => hp p (List.mem_filter.mp h).1
      have i2 := ih (highs vs (axisOf vs n ps) (cutOf vs n ps) ps) (by omega) (by omega) fun p h => hp p (List.mem_filter.mp h).1
      simp -implicitDefEqProofs (disch := first | assumption | omega | (simp only [List.length_map, rngN_len, sortI_len]; omega)) only [ev_asL, ev_lc, ev_rg1', ev_call, ev_cons, ev_nil, ev_op, ev_c, ev_bvar, ev_var, List.getElem?_cons_succ, List.getElem?_cons_zero, Option.bind_some, Option.map_some, slB_val, slV_val, slB_own, gLen_l, gLen_t, gLen_iT, List.length_map, rgA_1, rgO_ok, lim_ok, rngN_len, if_true, fltE_map, mapME_map, ev_gNm, ev_tYes, wipe_cons, wipe_nil, List.set_cons_succ, List.set_cons_zero, fltE_yes, fltE_p, fltP_some, fltE_rg, fltRg_p, fltRg_yes, fltRp_some, mapME_rg, mapRg_some, ev_iseq, itemsD_l, itemsD_t, mapME_some, gIx_lm, gIx_tm, Int.toNat_natCast, gAdd_i, gSub_i, map_i, ev_un, ev_asB, ev_asT, ev_not, ev_and, ev_or, ev_eif, ev_fcall, blD_bl, gEq_i, gNe_i, gLt_i, gLe_i, gGt_i, gGe_i, gNeg_i, truD_bl, ev_fn, gTuple_l, gTuple_t, gMod_i, gDiv_i, gMul_l, gMul_r, gMaxA_l', gMinA_l', gMaxA_t', gMinA_t', gSortA_l', sortI_len, gIx_last, truD_lm, truD_tm, ev_m1, gIndex_i, ev_oNo, ev_oYes, intO_i, ev_sl, gSl_l, gSl_t, cutD_map, gInt_i, gInt_b, gAbs_i, gSum_l, gSum_t, ev_isi, ev_eand, ev_eor, ev_enot, gIn_il, gIn_it, gNotIn_il, gNotIn_it, gIs_n, gIsNot_n, isNon_n, isNon_t, isNon_l, isNon_i, isNon_b, ev_tup, ev_lst, limT_0, mkL_0, limT_1, mkL_1, limT_2, mkL_2, limT_3, mkL_3, limT_4, mkL_4, limT_5, mkL_5, limT_6, mkL_6, limT_7, mkL_7, limT_8, mkL_8, gAdd_ll, gAdd_tt, gMax2_i, gMin2_i, gIx_p0, gIx_p1, ev_rev, cutD_take, cutD_drop, gSortA_pair, some_or, some_and, bl_or, bl_and, gIx_t0, gIx_l0, gIx_t1, gIx_l1, gIx_t2, gIx_l2, gIx_t3, gIx_l3, gIx_t4, gIx_l4, gIx_t5, gIx_l5, i1, i2]
      first | done | exact rfl
end K06

set_option Elab.async false
set_option linter.all false
set_option maxRecDepth 100000
set_option maxHeartbeats 4000000
namespace K06
open PySem L2 PD
/-! the first of the widest, as a loop finds it -/
def stepB (g : List Int) (b : Option Int) (a : Int) : Option Int := match b with
  | none => some a
  | some c => if nth g c < nth g a then some a else some c
def bestA (g : List Int) (ys : List Int) : Option Int := ys.foldl (stepB g) none
theorem bestA_snoc {g ys : List Int} {a : Int} : bestA g (ys ++ [a]) = stepB g (bestA g ys) a := by simp [bestA]
theorem rngN_succ (k : Nat) : rngN (k + 1) = rngN k ++ [(k : Int)] := by simp [rngN, List.range_succ]
theorem maxI_snoc {s : List Int} {x : Int} (h : 0 < s.length) : maxI (s ++ [x]) = max (maxI s) x := by
  have h1 := maxI_mem (s := s ++ [x]) (by simp)
  have h2 := le_maxI (s := s ++ [x]) (x := x) (by simp)
  have h3 := le_maxI (s := s ++ [x]) (x := maxI s) (by simp [maxI_mem h])
  rcases List.mem_append.mp h1 with q | q
  · have := le_maxI q
    omega
  · have := List.mem_singleton.mp q
    omega
theorem nth_take {g : List Int} {k : Nat} {i : Int} (h0 : 0 ≤ i) (h1 : i < k) : nth (g.take k) i = nth g i := by
  unfold nth
  simp only [List.getD]
  rw [List.getElem?_take_of_lt (by omega)]
theorem nth_idxOf {g : List Int} {x : Int} (h : x ∈ g) : nth g (g.idxOf x : Nat) = x := by
  have h1 := List.idxOf_lt_length_of_mem h
  unfold nth
  simp only [List.getD, Int.toNat_natCast, List.getElem?_eq_getElem h1, Option.getD_some]
  exact List.getElem_idxOf h1
theorem bestA_rng (g : List Int) : ∀ k : Nat, 0 < k → k ≤ g.length → bestA g (rngN k) = some (((g.take k).idxOf (maxI (g.take k)) : Nat) : Int)
  | 0, h, _ => absurd h (by omega)
  | k + 1, _, hk => by
    rw [rngN_succ, bestA_snoc]
    have e : g.take (k + 1) = g.take k ++ [nth g k] := by
      rw [List.take_succ_eq_append_getElem (by omega), nth_get (by omega)]
    by_cases hz : k = 0
    · subst hz
      rw [e]
      simp [bestA, rngN, stepB, maxI, max0, maxL]
    · rw [bestA_rng g k (by omega) (by omega)]
      have hl : 0 < (g.take k).length := by rw [List.length_take]; omega
      have hm := maxI_mem hl
      have hi := List.idxOf_lt_length_of_mem hm
      have hv : nth g (((g.take k).idxOf (maxI (g.take k)) : Nat) : Int) = maxI (g.take k) := by
        rw [List.length_take] at hi
        rw [← nth_take (k := k) (by omega) (by omega), nth_idxOf hm]
      show (if nth g (((g.take k).idxOf (maxI (g.take k)) : Nat) : Int) < nth g (k : Int) then some (k : Int) else some (((g.take k).idxOf (maxI (g.take k)) : Nat) : Int)) = _
      rw [hv, e, maxI_snoc hl]
      by_cases hc : maxI (g.take k) < nth g (k : Int)
      · rw [if_pos hc, show max (maxI (g.take k)) (nth g k) = nth g k from by omega, List.idxOf_append]
        rw [if_neg fun q => by
          have := le_maxI q
          omega]
        simp only [List.idxOf_cons_self, List.length_take]
        rw [show min k g.length = k from by omega]
        simp
      · rw [if_neg hc, show max (maxI (g.take k)) (nth g k) = maxI (g.take k) from by omega, List.idxOf_append, if_pos hm]
theorem bestA_axis {vs : List (List Int)} {n : Nat} {ps : List Int} (hn : 0 < n) : bestA (gapL vs n ps) (rngN n) = some (axisOf vs n ps) := by
  have h := bestA_rng (gapL vs n ps) n hn (by rw [gapL_len]; exact Nat.le_refl n)
  rw [List.take_of_length_le (by rw [gapL_len]; exact Nat.le_refl n)] at h
  exact h
theorem last_max {c : List Int} (h : 0 < c.length) : nth (sortI c) (((sortI c).length : Int) - 1) = maxI c := by
  have hl := sortI_len (s := c)
  have h1 := last_ge (sortI_sorted c) (sort_mem.mpr (maxI_mem h))
  have h2 := le_maxI (sort_mem.mp (nth_mem (xs := sortI c) (i := ((sortI c).length : Int) - 1) (by omega) (by omega)))
  omega
theorem first_le {row : List Int} (hs : row.Pairwise (· ≤ ·)) {x : Int} (hx : x ∈ row) : nth row 0 ≤ x := by
  cases row with
  | nil => cases hx
  | cons y r =>
    show y ≤ x
    rcases List.mem_cons.mp hx with rfl | q
    · exact Int.le_refl _
    · exact (List.pairwise_cons.mp hs).1 x q
theorem first_min {c : List Int} (h : 0 < c.length) : nth (sortI c) 0 = minI c := by
  have hl := sortI_len (s := c)
  have h1 := first_le (sortI_sorted c) (sort_mem.mpr (minI_mem h))
  have h2 := minI_le (sort_mem.mp (nth_mem (xs := sortI c) (i := 0) (by omega) (by omega)))
  omega
theorem not_low {vs : List (List Int)} {a v : Int} {ps : List Int} : (ps.filter fun p => !decide (p ∈ lows vs a v ps)) = highs vs a v ps := by
  unfold highs
  apply List.filter_congr
  intro p hp
  unfold lows
  by_cases h : nth (nth vs p) a ≤ v
  · simp [List.mem_filter, hp, h]
  · simp [List.mem_filter, h]
    omega
end K06

set_option Elab.async false
set_option linter.all false
set_option maxRecDepth 100000
set_option maxHeartbeats 4000000
namespace K06
open PySem L2 PD
def bestD (vs : List (List Int)) (n : Nat) (ps : List Int) : Option Int → D
  | none => .non
  | some a => .tup [.int (nth (gapL vs n ps) a), .int a, .lst ((sortI (col vs ps a)).map D.int)]
theorem gap_nth {vs : List (List Int)} {n : Nat} {ps : List Int} {a : Int} (h0 : 0 < ps.length) (a0 : 0 ≤ a) (a1 : a < n) : nth (sortI (col vs ps a)) ((ps.length : Int) - 1) - nth (sortI (col vs ps a)) 0 = nth (gapL vs n ps) a := by
  have hl : (sortI (col vs ps a)).length = ps.length := by rw [sortI_len, col, List.length_map]
  rw [← hl]
  have hc : 0 < (col vs ps a).length := by simpa [col] using h0
  rw [last_max hc, first_min hc]
  unfold gapL
  rw [nth_map a0 (by rw [rngN_len]; exact a1), nth_rng a0 a1]
theorem run_lsplit (n : Nat) (vs : List (List Int)) (hn0 : 0 < n) (hn : n ≤ 1000) (hv : ∀ v ∈ vs, v.length = n) : ∀ (f : Nat) (ps : List Int), ps.length < f → ps.length ≤ 1000 → (∀ p ∈ ps, 0 ≤ p ∧ p < vs.length) → run_l_split f [.tup (vs.map intT), .lst (ps.map .int)] = some (split vs n f ps).d
  | 0, ps, h, _, _ => absurd h (by omega)
  | f + 1, ps, hf, hz, hp => by
    have ih := run_lsplit n vs hn0 hn hv f
    have hp' : ∀ p ∈ ps, gIx (.tup (vs.map intT)) (.int p) = some (intT (nth vs p)) := fun p h => gIx_tm (hp p h).1 (hp p h).2
    have hv' : ∀ p ∈ ps, (nth vs p).length = n := fun p h => hv _ (nth_mem (hp p h).1 (hp p h).2)
    have hq : ∀ p ∈ ps, ∀ a, 0 ≤ a → a < (n : Int) → gIx (intT (nth vs p)) (.int a) = some (.int (nth (nth vs p) a)) := fun p hp a a0 a1 => gIx_iT a0 (by rw [hv' p hp]; exact a1)
    obtain ⟨a0, a1⟩ := axis_in (vs := vs) (ps := ps) hn0
    show runC 2 8 (b_l_split (run_l_split f)) _ = _
    refine runC_rt rfl ?_
    simp only [List.map_cons, List.map_nil, List.replicate, List.cons_append, List.nil_append, List.set_cons_succ, List.set_cons_zero]
    unfold split
    refine seq_ifk (by simp -implicitDefEqProofs (disch := first | assumption | omega | (simp only [List.length_map, rngN_len, sortI_len]; omega)) only [ev_asL, ev_lc, ev_rg1', ev_call, ev_cons, ev_nil, ev_op, ev_c, ev_bvar, ev_var, List.getElem?_cons_succ, List.getElem?_cons_zero, Option.bind_some, Option.map_some, slB_val, slV_val, slB_own, gLen_l, gLen_t, gLen_iT, List.length_map, rgA_1, rgO_ok, lim_ok, rngN_len, if_true, fltE_map, mapME_map, ev_gNm, ev_tYes, wipe_cons, wipe_nil, List.set_cons_succ, List.set_cons_zero, fltE_yes, fltE_p, fltP_some, fltE_rg, fltRg_p, fltRg_yes, fltRp_some, mapME_rg, mapRg_some, ev_iseq, itemsD_l, itemsD_t, mapME_some, gIx_lm, gIx_tm, Int.toNat_natCast, gAdd_i, gSub_i, map_i, ev_un, ev_asB, ev_asT, ev_not, ev_and, ev_or, ev_eif, ev_fcall, blD_bl, gEq_i, gNe_i, gLt_i, gLe_i, gGt_i, gGe_i, gNeg_i, truD_bl, ev_fn, gTuple_l, gTuple_t, gMod_i, gDiv_i, gMul_l, gMul_r, gMaxA_l', gMinA_l', gMaxA_t', gMinA_t', gSortA_l', sortI_len, gIx_last, truD_lm, truD_tm, ev_m1, gIndex_i, ev_oNo, ev_oYes, intO_i, ev_sl, gSl_l, gSl_t, cutD_map, gInt_i, gInt_b, gAbs_i, gSum_l, gSum_t, ev_isi, ev_eand, ev_eor, ev_enot, gIn_il, gIn_it, gNotIn_il, gNotIn_it, gIs_n, gIsNot_n, isNon_n, isNon_t, isNon_l, isNon_i, isNon_b, ev_tup, ev_lst, limT_0, mkL_0, limT_1, mkL_1, limT_2, mkL_2, limT_3, mkL_3, limT_4, mkL_4, limT_5, mkL_5, limT_6, mkL_6, limT_7, mkL_7, limT_8, mkL_8, gAdd_ll, gAdd_tt, gMax2_i, gMin2_i, gIx_p0, gIx_p1, ev_rev, cutD_take, cutD_drop, gSortA_pair, some_or, some_and, bl_or, bl_and, gIx_t0, gIx_l0, gIx_t1, gIx_l1, gIx_t2, gIx_l2, gIx_t3, gIx_l3, gIx_t4, gIx_l4, gIx_t5, gIx_l5]; first | done | exact rfl) (fun h => ?_) (fun h => ?_)
    · rw [if_pos (by simpa using h)]
      rfl
    have h0 : 0 < ps.length := by
      have : ¬ ((ps.length : Int) = 0) := by simpa using h
      omega
    have hm := hp _ (nth_mem (xs := ps) (i := 0) (by omega) (by omega))
    have z0 : (nth vs 0).length = n := hv _ (nth_mem (by omega) (by omega))
    rw [if_neg (by omega), seq_nop]
    refine seq_set (by simp -implicitDefEqProofs (disch := first | assumption | omega | (simp only [List.length_map, rngN_len, sortI_len]; omega)) only [ev_asL, ev_lc, ev_rg1', ev_call, ev_cons, ev_nil, ev_op, ev_c, ev_bvar, ev_var, List.getElem?_cons_succ, List.getElem?_cons_zero, Option.bind_some, Option.map_some, slB_val, slV_val, slB_own, gLen_l, gLen_t, gLen_iT, List.length_map, rgA_1, rgO_ok, lim_ok, rngN_len, if_true, fltE_map, mapME_map, ev_gNm, ev_tYes, wipe_cons, wipe_nil, List.set_cons_succ, List.set_cons_zero, fltE_yes, fltE_p, fltP_some, fltE_rg, fltRg_p, fltRg_yes, fltRp_some, mapME_rg, mapRg_some, ev_iseq, itemsD_l, itemsD_t, mapME_some, gIx_lm, gIx_tm, Int.toNat_natCast, gAdd_i, gSub_i, map_i, ev_un, ev_asB, ev_asT, ev_not, ev_and, ev_or, ev_eif, ev_fcall, blD_bl, gEq_i, gNe_i, gLt_i, gLe_i, gGt_i, gGe_i, gNeg_i, truD_bl, ev_fn, gTuple_l, gTuple_t, gMod_i, gDiv_i, gMul_l, gMul_r, gMaxA_l', gMinA_l', gMaxA_t', gMinA_t', gSortA_l', sortI_len, gIx_last, truD_lm, truD_tm, ev_m1, gIndex_i, ev_oNo, ev_oYes, intO_i, ev_sl, gSl_l, gSl_t, cutD_map, gInt_i, gInt_b, gAbs_i, gSum_l, gSum_t, ev_isi, ev_eand, ev_eor, ev_enot, gIn_il, gIn_it, gNotIn_il, gNotIn_it, gIs_n, gIsNot_n, isNon_n, isNon_t, isNon_l, isNon_i, isNon_b, ev_tup, ev_lst, limT_0, mkL_0, limT_1, mkL_1, limT_2, mkL_2, limT_3, mkL_3, limT_4, mkL_4, limT_5, mkL_5, limT_6, mkL_6, limT_7, mkL_7, limT_8, mkL_8, gAdd_ll, gAdd_tt, gMax2_i, gMin2_i, gIx_p0, gIx_p1, ev_rev, cutD_take, cutD_drop, gSortA_pair, some_or, some_and, bl_or, bl_and, gIx_t0, gIx_l0, gIx_t1, gIx_l1, gIx_t2, gIx_l2, gIx_t3, gIx_l3, gIx_t4, gIx_l4, gIx_t5, gIx_l5]; first | done | exact rfl) ?_
    simp only [List.map_cons, List.map_nil, List.replicate, List.cons_append, List.nil_append, List.set_cons_succ, List.set_cons_zero]
    refine seq_for (xs := rngN n) (enc := D.int) (fun ys => [.val (.tup (vs.map intT)), .val (.lst (ps.map D.int)), .val (bestD vs n ps (bestA (gapL vs n ps) ys)), lastW (fun a => .val (.int a)) ys, lastW (fun a => .val (.lst ((sortI (col vs ps a)).map D.int))) ys, lastW (fun a => .val (.int (nth (gapL vs n ps) a))) ys, .un, .un, .un, .un]) ?_ rfl (fun ys a zs hx => ?_) ?_
    · simp -implicitDefEqProofs (disch := first | assumption | omega | (simp only [List.length_map, rngN_len, sortI_len]; omega)) only [ev_asL, ev_lc, ev_rg1', ev_call, ev_cons, ev_nil, ev_op, ev_c, ev_bvar, ev_var, List.getElem?_cons_succ, List.getElem?_cons_zero, Option.bind_some, Option.map_some, slB_val, slV_val, slB_own, gLen_l, gLen_t, gLen_iT, List.length_map, rgA_1, rgO_ok, lim_ok, rngN_len, if_true, fltE_map, mapME_map, ev_gNm, ev_tYes, wipe_cons, wipe_nil, List.set_cons_succ, List.set_cons_zero, fltE_yes, fltE_p, fltP_some, fltE_rg, fltRg_p, fltRg_yes, fltRp_some, mapME_rg, mapRg_some, ev_iseq, itemsD_l, itemsD_t, mapME_some, gIx_lm, gIx_tm, Int.toNat_natCast, gAdd_i, gSub_i, map_i, ev_un, ev_asB, ev_asT, ev_not, ev_and, ev_or, ev_eif, ev_fcall, blD_bl, gEq_i, gNe_i, gLt_i, gLe_i, gGt_i, gGe_i, gNeg_i, truD_bl, ev_fn, gTuple_l, gTuple_t, gMod_i, gDiv_i, gMul_l, gMul_r, gMaxA_l', gMinA_l', gMaxA_t', gMinA_t', gSortA_l', sortI_len, gIx_last, truD_lm, truD_tm, ev_m1, gIndex_i, ev_oNo, ev_oYes, intO_i, ev_sl, gSl_l, gSl_t, cutD_map, gInt_i, gInt_b, gAbs_i, gSum_l, gSum_t, ev_isi, ev_eand, ev_eor, ev_enot, gIn_il, gIn_it, gNotIn_il, gNotIn_it, gIs_n, gIsNot_n, isNon_n, isNon_t, isNon_l, isNon_i, isNon_b, ev_tup, ev_lst, limT_0, mkL_0, limT_1, mkL_1, limT_2, mkL_2, limT_3, mkL_3, limT_4, mkL_4, limT_5, mkL_5, limT_6, mkL_6, limT_7, mkL_7, limT_8, mkL_8, gAdd_ll, gAdd_tt, gMax2_i, gMin2_i, gIx_p0, gIx_p1, ev_rev, cutD_take, cutD_drop, gSortA_pair, some_or, some_and, bl_or, bl_and, gIx_t0, gIx_l0, gIx_t1, gIx_l1, gIx_t2, gIx_l2, gIx_t3, gIx_l3, gIx_t4, gIx_l4, gIx_t5, gIx_l5, z0]
    · have ha : a ∈ rngN n := by rw [hx]; simp
      obtain ⟨b0, b1⟩ := mem_rngN ha
      refine ⟨_, rfl, .inl ?_⟩
      simp only [List.map_cons, List.map_nil, List.replicate, List.cons_append, List.nil_append, List.set_cons_succ, List.set_cons_zero]
      refine seq_set (d := .lst ((sortI (col vs ps a)).map D.int)) (by
        simp -implicitDefEqProofs (disch := first | assumption | omega | (simp only [List.length_map, rngN_len, sortI_len]; omega)) only [ev_asL, ev_lc, ev_rg1', ev_call, ev_cons, ev_nil, ev_op, ev_c, ev_bvar, ev_var, List.getElem?_cons_succ, List.getElem?_cons_zero, Option.bind_some, Option.map_some, slB_val, slV_val, slB_own, gLen_l, gLen_t, gLen_iT, List.length_map, rgA_1, rgO_ok, lim_ok, rngN_len, if_true, fltE_map, mapME_map, ev_gNm, ev_tYes, wipe_cons, wipe_nil, List.set_cons_succ, List.set_cons_zero, fltE_yes, fltE_p, fltP_some, fltE_rg, fltRg_p, fltRg_yes, fltRp_some, mapME_rg, mapRg_some, ev_iseq, itemsD_l, itemsD_t, mapME_some, gIx_lm, gIx_tm, Int.toNat_natCast, gAdd_i, gSub_i, map_i, ev_un, ev_asB, ev_asT, ev_not, ev_and, ev_or, ev_eif, ev_fcall, blD_bl, gEq_i, gNe_i, gLt_i, gLe_i, gGt_i, gGe_i, gNeg_i, truD_bl, ev_fn, gTuple_l, gTuple_t, gMod_i, gDiv_i, gMul_l, gMul_r, gMaxA_l', gMinA_l', gMaxA_t', gMinA_t', gSortA_l', sortI_len, gIx_last, truD_lm, truD_tm, ev_m1, gIndex_i, ev_oNo, ev_oYes, intO_i, ev_sl, gSl_l, gSl_t, cutD_map, gInt_i, gInt_b, gAbs_i, gSum_l, gSum_t, ev_isi, ev_eand, ev_eor, ev_enot, gIn_il, gIn_it, gNotIn_il, gNotIn_it, gIs_n, gIsNot_n, isNon_n, isNon_t, isNon_l, isNon_i, isNon_b, ev_tup, ev_lst, limT_0, mkL_0, limT_1, mkL_1, limT_2, mkL_2, limT_3, mkL_3, limT_4, mkL_4, limT_5, mkL_5, limT_6, mkL_6, limT_7, mkL_7, limT_8, mkL_8, gAdd_ll, gAdd_tt, gMax2_i, gMin2_i, gIx_p0, gIx_p1, ev_rev, cutD_take, cutD_drop, gSortA_pair, some_or, some_and, bl_or, bl_and, gIx_t0, gIx_l0, gIx_t1, gIx_l1, gIx_t2, gIx_l2, gIx_t3, gIx_l3, gIx_t4, gIx_l4, gIx_t5, gIx_l5, hp', hq]
        first | done | exact rfl) ?_
      simp only [List.map_cons, List.map_nil, List.replicate, List.cons_append, List.nil_append, List.set_cons_succ, List.set_cons_zero]
      have hl : (col vs ps a).length = ps.length := by rw [col, List.length_map]
      have hg := gap_nth (vs := vs) h0 b0 b1
      refine seq_set (d := .int (nth (gapL vs n ps) a)) (by simp -implicitDefEqProofs (disch := first | assumption | omega | (simp only [List.length_map, rngN_len, sortI_len]; omega)) only [ev_asL, ev_lc, ev_rg1', ev_call, ev_cons, ev_nil, ev_op, ev_c, ev_bvar, ev_var, List.getElem?_cons_succ, List.getElem?_cons_zero, Option.bind_some, Option.map_some, slB_val, slV_val, slB_own, gLen_l, gLen_t, gLen_iT, List.length_map, rgA_1, rgO_ok, lim_ok, rngN_len, if_true, fltE_map, mapME_map, ev_gNm, ev_tYes, wipe_cons, wipe_nil, List.set_cons_succ, List.set_cons_zero, fltE_yes, fltE_p, fltP_some, fltE_rg, fltRg_p, fltRg_yes, fltRp_some, mapME_rg, mapRg_some, ev_iseq, itemsD_l, itemsD_t, mapME_some, gIx_lm, gIx_tm, Int.toNat_natCast, gAdd_i, gSub_i, map_i, ev_un, ev_asB, ev_asT, ev_not, ev_and, ev_or, ev_eif, ev_fcall, blD_bl, gEq_i, gNe_i, gLt_i, gLe_i, gGt_i, gGe_i, gNeg_i, truD_bl, ev_fn, gTuple_l, gTuple_t, gMod_i, gDiv_i, gMul_l, gMul_r, gMaxA_l', gMinA_l', gMaxA_t', gMinA_t', gSortA_l', sortI_len, gIx_last, truD_lm, truD_tm, ev_m1, gIndex_i, ev_oNo, ev_oYes, intO_i, ev_sl, gSl_l, gSl_t, cutD_map, gInt_i, gInt_b, gAbs_i, gSum_l, gSum_t, ev_isi, ev_eand, ev_eor, ev_enot, gIn_il, gIn_it, gNotIn_il, gNotIn_it, gIs_n, gIsNot_n, isNon_n, isNon_t, isNon_l, isNon_i, isNon_b, ev_tup, ev_lst, limT_0, mkL_0, limT_1, mkL_1, limT_2, mkL_2, limT_3, mkL_3, limT_4, mkL_4, limT_5, mkL_5, limT_6, mkL_6, limT_7, mkL_7, limT_8, mkL_8, gAdd_ll, gAdd_tt, gMax2_i, gMin2_i, gIx_p0, gIx_p1, ev_rev, cutD_take, cutD_drop, gSortA_pair, some_or, some_and, bl_or, bl_and, gIx_t0, gIx_l0, gIx_t1, gIx_l1, gIx_t2, gIx_l2, gIx_t3, gIx_l3, gIx_t4, gIx_l4, gIx_t5, gIx_l5, hl, hg]) ?_
      simp only [List.map_cons, List.map_nil, List.replicate, List.cons_append, List.nil_append, List.set_cons_succ, List.set_cons_zero, bestA_snoc, lastW_snoc]
      cases hb : bestA (gapL vs n ps) ys with
      | none =>
        refine run_if1 (by simp -implicitDefEqProofs (disch := first | assumption | omega | (simp only [List.length_map, rngN_len, sortI_len]; omega)) only [bestD, ev_asL, ev_lc, ev_rg1', ev_call, ev_cons, ev_nil, ev_op, ev_c, ev_bvar, ev_var, List.getElem?_cons_succ, List.getElem?_cons_zero, Option.bind_some, Option.map_some, slB_val, slV_val, slB_own, gLen_l, gLen_t, gLen_iT, List.length_map, rgA_1, rgO_ok, lim_ok, rngN_len, if_true, fltE_map, mapME_map, ev_gNm, ev_tYes, wipe_cons, wipe_nil, List.set_cons_succ, List.set_cons_zero, fltE_yes, fltE_p, fltP_some, fltE_rg, fltRg_p, fltRg_yes, fltRp_some, mapME_rg, mapRg_some, ev_iseq, itemsD_l, itemsD_t, mapME_some, gIx_lm, gIx_tm, Int.toNat_natCast, gAdd_i, gSub_i, map_i, ev_un, ev_asB, ev_asT, ev_not, ev_and, ev_or, ev_eif, ev_fcall, blD_bl, gEq_i, gNe_i, gLt_i, gLe_i, gGt_i, gGe_i, gNeg_i, truD_bl, ev_fn, gTuple_l, gTuple_t, gMod_i, gDiv_i, gMul_l, gMul_r, gMaxA_l', gMinA_l', gMaxA_t', gMinA_t', gSortA_l', sortI_len, gIx_last, truD_lm, truD_tm, ev_m1, gIndex_i, ev_oNo, ev_oYes, intO_i, ev_sl, gSl_l, gSl_t, cutD_map, gInt_i, gInt_b, gAbs_i, gSum_l, gSum_t, ev_isi, ev_eand, ev_eor, ev_enot, gIn_il, gIn_it, gNotIn_il, gNotIn_it, gIs_n, gIsNot_n, isNon_n, isNon_t, isNon_l, isNon_i, isNon_b, ev_tup, ev_lst, limT_0, mkL_0, limT_1, mkL_1, limT_2, mkL_2, limT_3, mkL_3, limT_4, mkL_4, limT_5, mkL_5, limT_6, mkL_6, limT_7, mkL_7, limT_8, mkL_8, gAdd_ll, gAdd_tt, gMax2_i, gMin2_i, gIx_p0, gIx_p1, ev_rev, cutD_take, cutD_drop, gSortA_pair, some_or, some_and, bl_or, bl_and, gIx_t0, gIx_l0, gIx_t1, gIx_l1, gIx_t2, gIx_l2, gIx_t3, gIx_l3, gIx_t4, gIx_l4, gIx_t5, gIx_l5]) ?_
        refine (run_set (by simp -implicitDefEqProofs (disch := first | assumption | omega | (simp only [List.length_map, rngN_len, sortI_len]; omega)) only [ev_asL, ev_lc, ev_rg1', ev_call, ev_cons, ev_nil, ev_op, ev_c, ev_bvar, ev_var, List.getElem?_cons_succ, List.getElem?_cons_zero, Option.bind_some, Option.map_some, slB_val, slV_val, slB_own, gLen_l, gLen_t, gLen_iT, List.length_map, rgA_1, rgO_ok, lim_ok, rngN_len, if_true, fltE_map, mapME_map, ev_gNm, ev_tYes, wipe_cons, wipe_nil, List.set_cons_succ, List.set_cons_zero, fltE_yes, fltE_p, fltP_some, fltE_rg, fltRg_p, fltRg_yes, fltRp_some, mapME_rg, mapRg_some, ev_iseq, itemsD_l, itemsD_t, mapME_some, gIx_lm, gIx_tm, Int.toNat_natCast, gAdd_i, gSub_i, map_i, ev_un, ev_asB, ev_asT, ev_not, ev_and, ev_or, ev_eif, ev_fcall, blD_bl, gEq_i, gNe_i, gLt_i, gLe_i, gGt_i, gGe_i, gNeg_i, truD_bl, ev_fn, gTuple_l, gTuple_t, gMod_i, gDiv_i, gMul_l, gMul_r, gMaxA_l', gMinA_l', gMaxA_t', gMinA_t', gSortA_l', sortI_len, gIx_last, truD_lm, truD_tm, ev_m1, gIndex_i, ev_oNo, ev_oYes, intO_i, ev_sl, gSl_l, gSl_t, cutD_map, gInt_i, gInt_b, gAbs_i, gSum_l, gSum_t, ev_isi, ev_eand, ev_eor, ev_enot, gIn_il, gIn_it, gNotIn_il, gNotIn_it, gIs_n, gIsNot_n, isNon_n, isNon_t, isNon_l, isNon_i, isNon_b, ev_tup, ev_lst, limT_0, mkL_0, limT_1, mkL_1, limT_2, mkL_2, limT_3, mkL_3, limT_4, mkL_4, limT_5, mkL_5, limT_6, mkL_6, limT_7, mkL_7, limT_8, mkL_8, gAdd_ll, gAdd_tt, gMax2_i, gMin2_i, gIx_p0, gIx_p1, ev_rev, cutD_take, cutD_drop, gSortA_pair, some_or, some_and, bl_or, bl_and, gIx_t0, gIx_l0, gIx_t1, gIx_l1, gIx_t2, gIx_l2, gIx_t3, gIx_l3, gIx_t4, gIx_l4, gIx_t5, gIx_l5]; first | done | exact rfl)).trans ?_
        rfl
      | some c =>
        refine run_ifk (by simp -implicitDefEqProofs (disch := first | assumption | omega | (simp only [List.length_map, rngN_len, sortI_len]; omega)) only [bestD, ev_asL, ev_lc, ev_rg1', ev_call, ev_cons, ev_nil, ev_op, ev_c, ev_bvar, ev_var, List.getElem?_cons_succ, List.getElem?_cons_zero, Option.bind_some, Option.map_some, slB_val, slV_val, slB_own, gLen_l, gLen_t, gLen_iT, List.length_map, rgA_1, rgO_ok, lim_ok, rngN_len, if_true, fltE_map, mapME_map, ev_gNm, ev_tYes, wipe_cons, wipe_nil, List.set_cons_succ, List.set_cons_zero, fltE_yes, fltE_p, fltP_some, fltE_rg, fltRg_p, fltRg_yes, fltRp_some, mapME_rg, mapRg_some, ev_iseq, itemsD_l, itemsD_t, mapME_some, gIx_lm, gIx_tm, Int.toNat_natCast, gAdd_i, gSub_i, map_i, ev_un, ev_asB, ev_asT, ev_not, ev_and, ev_or, ev_eif, ev_fcall, blD_bl, gEq_i, gNe_i, gLt_i, gLe_i, gGt_i, gGe_i, gNeg_i, truD_bl, ev_fn, gTuple_l, gTuple_t, gMod_i, gDiv_i, gMul_l, gMul_r, gMaxA_l', gMinA_l', gMaxA_t', gMinA_t', gSortA_l', sortI_len, gIx_last, truD_lm, truD_tm, ev_m1, gIndex_i, ev_oNo, ev_oYes, intO_i, ev_sl, gSl_l, gSl_t, cutD_map, gInt_i, gInt_b, gAbs_i, gSum_l, gSum_t, ev_isi, ev_eand, ev_eor, ev_enot, gIn_il, gIn_it, gNotIn_il, gNotIn_it, gIs_n, gIsNot_n, isNon_n, isNon_t, isNon_l, isNon_i, isNon_b, ev_tup, ev_lst, limT_0, mkL_0, limT_1, mkL_1, limT_2, mkL_2, limT_3, mkL_3, limT_4, mkL_4, limT_5, mkL_5, limT_6, mkL_6, limT_7, mkL_7, limT_8, mkL_8, gAdd_ll, gAdd_tt, gMax2_i, gMin2_i, gIx_p0, gIx_p1, ev_rev, cutD_take, cutD_drop, gSortA_pair, some_or, some_and, bl_or, bl_and, gIx_t0, gIx_l0, gIx_t1, gIx_l1, gIx_t2, gIx_l2, gIx_t3, gIx_l3, gIx_t4, gIx_l4, gIx_t5, gIx_l5]; first | done | exact rfl) (fun h => ?_) (fun h => ?_)
        · have h := of_decide_eq_true h
          refine (run_set (by simp -implicitDefEqProofs (disch := first | assumption | omega | (simp only [List.length_map, rngN_len, sortI_len]; omega)) only [ev_asL, ev_lc, ev_rg1', ev_call, ev_cons, ev_nil, ev_op, ev_c, ev_bvar, ev_var, List.getElem?_cons_succ, List.getElem?_cons_zero, Option.bind_some, Option.map_some, slB_val, slV_val, slB_own, gLen_l, gLen_t, gLen_iT, List.length_map, rgA_1, rgO_ok, lim_ok, rngN_len, if_true, fltE_map, mapME_map, ev_gNm, ev_tYes, wipe_cons, wipe_nil, List.set_cons_succ, List.set_cons_zero, fltE_yes, fltE_p, fltP_some, fltE_rg, fltRg_p, fltRg_yes, fltRp_some, mapME_rg, mapRg_some, ev_iseq, itemsD_l, itemsD_t, mapME_some, gIx_lm, gIx_tm, Int.toNat_natCast, gAdd_i, gSub_i, map_i, ev_un, ev_asB, ev_asT, ev_not, ev_and, ev_or, ev_eif, ev_fcall, blD_bl, gEq_i, gNe_i, gLt_i, gLe_i, gGt_i, gGe_i, gNeg_i, truD_bl, ev_fn, gTuple_l, gTuple_t, gMod_i, gDiv_i, gMul_l, gMul_r, gMaxA_l', gMinA_l', gMaxA_t', gMinA_t', gSortA_l', sortI_len, gIx_last, truD_lm, truD_tm, ev_m1, gIndex_i, ev_oNo, ev_oYes, intO_i, ev_sl, gSl_l, gSl_t, cutD_map, gInt_i, gInt_b, gAbs_i, gSum_l, gSum_t, ev_isi, ev_eand, ev_eor, ev_enot, gIn_il, gIn_it, gNotIn_il, gNotIn_it, gIs_n, gIsNot_n, isNon_n, isNon_t, isNon_l, isNon_i, isNon_b, ev_tup, ev_lst, limT_0, mkL_0, limT_1, mkL_1, limT_2, mkL_2, limT_3, mkL_3, limT_4, mkL_4, limT_5, mkL_5, limT_6, mkL_6, limT_7, mkL_7, limT_8, mkL_8, gAdd_ll, gAdd_tt, gMax2_i, gMin2_i, gIx_p0, gIx_p1, ev_rev, cutD_take, cutD_drop, gSortA_pair, some_or, some_and, bl_or, bl_and, gIx_t0, gIx_l0, gIx_t1, gIx_l1, gIx_t2, gIx_l2, gIx_t3, gIx_l3, gIx_t4, gIx_l4, gIx_t5, gIx_l5]; first | done | exact rfl)).trans ?_
          simp only [List.map_cons, List.map_nil, List.replicate, List.cons_append, List.nil_append, List.set_cons_succ, List.set_cons_zero, stepB, if_pos h]
          rfl
        · have h := of_decide_eq_false h
          simp only [List.map_cons, List.map_nil, List.replicate, List.cons_append, List.nil_append, List.set_cons_succ, List.set_cons_zero, stepB, if_neg h]
          rfl
    rw [bestA_axis hn0]
    have hl : (sortI (col vs ps (axisOf vs n ps))).length = ps.length := by rw [sortI_len, col, List.length_map]
    have hc : 0 < (col vs ps (axisOf vs n ps)).length := by simpa [col] using h0
    have hgm : nth (gapL vs n ps) (axisOf vs n ps) = maxI (gapL vs n ps) := by
      unfold axisOf
      exact nth_idxOf (maxI_mem (by rw [gapL_len]; exact hn0))
    refine seq_asg (d := bestD vs n ps (some (axisOf vs n ps))) (by simp -implicitDefEqProofs (disch := first | assumption | omega | (simp only [List.length_map, rngN_len, sortI_len]; omega)) only [ev_asL, ev_lc, ev_rg1', ev_call, ev_cons, ev_nil, ev_op, ev_c, ev_bvar, ev_var, List.getElem?_cons_succ, List.getElem?_cons_zero, Option.bind_some, Option.map_some, slB_val, slV_val, slB_own, gLen_l, gLen_t, gLen_iT, List.length_map, rgA_1, rgO_ok, lim_ok, rngN_len, if_true, fltE_map, mapME_map, ev_gNm, ev_tYes, wipe_cons, wipe_nil, List.set_cons_succ, List.set_cons_zero, fltE_yes, fltE_p, fltP_some, fltE_rg, fltRg_p, fltRg_yes, fltRp_some, mapME_rg, mapRg_some, ev_iseq, itemsD_l, itemsD_t, mapME_some, gIx_lm, gIx_tm, Int.toNat_natCast, gAdd_i, gSub_i, map_i, ev_un, ev_asB, ev_asT, ev_not, ev_and, ev_or, ev_eif, ev_fcall, blD_bl, gEq_i, gNe_i, gLt_i, gLe_i, gGt_i, gGe_i, gNeg_i, truD_bl, ev_fn, gTuple_l, gTuple_t, gMod_i, gDiv_i, gMul_l, gMul_r, gMaxA_l', gMinA_l', gMaxA_t', gMinA_t', gSortA_l', sortI_len, gIx_last, truD_lm, truD_tm, ev_m1, gIndex_i, ev_oNo, ev_oYes, intO_i, ev_sl, gSl_l, gSl_t, cutD_map, gInt_i, gInt_b, gAbs_i, gSum_l, gSum_t, ev_isi, ev_eand, ev_eor, ev_enot, gIn_il, gIn_it, gNotIn_il, gNotIn_it, gIs_n, gIsNot_n, isNon_n, isNon_t, isNon_l, isNon_i, isNon_b, ev_tup, ev_lst, limT_0, mkL_0, limT_1, mkL_1, limT_2, mkL_2, limT_3, mkL_3, limT_4, mkL_4, limT_5, mkL_5, limT_6, mkL_6, limT_7, mkL_7, limT_8, mkL_8, gAdd_ll, gAdd_tt, gMax2_i, gMin2_i, gIx_p0, gIx_p1, ev_rev, cutD_take, cutD_drop, gSortA_pair, some_or, some_and, bl_or, bl_and, gIx_t0, gIx_l0, gIx_t1, gIx_l1, gIx_t2, gIx_l2, gIx_t3, gIx_l3, gIx_t4, gIx_l4, gIx_t5, gIx_l5]; first | done | exact rfl) rfl ?_
    simp only [List.map_cons, List.map_nil, List.replicate, List.cons_append, List.nil_append, List.set_cons_succ, List.set_cons_zero]
    refine seq_ifk (by simp -implicitDefEqProofs (disch := first | assumption | omega | (simp only [List.length_map, rngN_len, sortI_len]; omega)) only [ev_asL, ev_lc, ev_rg1', ev_call, ev_cons, ev_nil, ev_op, ev_c, ev_bvar, ev_var, List.getElem?_cons_succ, List.getElem?_cons_zero, Option.bind_some, Option.map_some, slB_val, slV_val, slB_own, gLen_l, gLen_t, gLen_iT, List.length_map, rgA_1, rgO_ok, lim_ok, rngN_len, if_true, fltE_map, mapME_map, ev_gNm, ev_tYes, wipe_cons, wipe_nil, List.set_cons_succ, List.set_cons_zero, fltE_yes, fltE_p, fltP_some, fltE_rg, fltRg_p, fltRg_yes, fltRp_some, mapME_rg, mapRg_some, ev_iseq, itemsD_l, itemsD_t, mapME_some, gIx_lm, gIx_tm, Int.toNat_natCast, gAdd_i, gSub_i, map_i, ev_un, ev_asB, ev_asT, ev_not, ev_and, ev_or, ev_eif, ev_fcall, blD_bl, gEq_i, gNe_i, gLt_i, gLe_i, gGt_i, gGe_i, gNeg_i, truD_bl, ev_fn, gTuple_l, gTuple_t, gMod_i, gDiv_i, gMul_l, gMul_r, gMaxA_l', gMinA_l', gMaxA_t', gMinA_t', gSortA_l', sortI_len, gIx_last, truD_lm, truD_tm, ev_m1, gIndex_i, ev_oNo, ev_oYes, intO_i, ev_sl, gSl_l, gSl_t, cutD_map, gInt_i, gInt_b, gAbs_i, gSum_l, gSum_t, ev_isi, ev_eand, ev_eor, ev_enot, gIn_il, gIn_it, gNotIn_il, gNotIn_it, gIs_n, gIsNot_n, isNon_n, isNon_t, isNon_l, isNon_i, isNon_b, ev_tup, ev_lst, limT_0, mkL_0, limT_1, mkL_1, limT_2, mkL_2, limT_3, mkL_3, limT_4, mkL_4, limT_5, mkL_5, limT_6, mkL_6, limT_7, mkL_7, limT_8, mkL_8, gAdd_ll, gAdd_tt, gMax2_i, gMin2_i, gIx_p0, gIx_p1, ev_rev, cutD_take, cutD_drop, gSortA_pair, some_or, some_and, bl_or, bl_and, gIx_t0, gIx_l0, gIx_t1, gIx_l1, gIx_t2, gIx_l2, gIx_t3, gIx_l3, gIx_t4, gIx_l4, gIx_t5, gIx_l5, hgm]; first | done | exact rfl) (fun h => ?_) (fun h => ?_)
    · rw [if_pos (by have := or_dec h; omega)]
      refine seq_ret (by simp -implicitDefEqProofs (disch := first | assumption | omega | (simp only [List.length_map, rngN_len, sortI_len]; omega)) only [ev_asL, ev_lc, ev_rg1', ev_call, ev_cons, ev_nil, ev_op, ev_c, ev_bvar, ev_var, List.getElem?_cons_succ, List.getElem?_cons_zero, Option.bind_some, Option.map_some, slB_val, slV_val, slB_own, gLen_l, gLen_t, gLen_iT, List.length_map, rgA_1, rgO_ok, lim_ok, rngN_len, if_true, fltE_map, mapME_map, ev_gNm, ev_tYes, wipe_cons, wipe_nil, List.set_cons_succ, List.set_cons_zero, fltE_yes, fltE_p, fltP_some, fltE_rg, fltRg_p, fltRg_yes, fltRp_some, mapME_rg, mapRg_some, ev_iseq, itemsD_l, itemsD_t, mapME_some, gIx_lm, gIx_tm, Int.toNat_natCast, gAdd_i, gSub_i, map_i, ev_un, ev_asB, ev_asT, ev_not, ev_and, ev_or, ev_eif, ev_fcall, blD_bl, gEq_i, gNe_i, gLt_i, gLe_i, gGt_i, gGe_i, gNeg_i, truD_bl, ev_fn, gTuple_l, gTuple_t, gMod_i, gDiv_i, gMul_l, gMul_r, gMaxA_l', gMinA_l', gMaxA_t', gMinA_t', gSortA_l', sortI_len, gIx_last, truD_lm, truD_tm, ev_m1, gIndex_i, ev_oNo, ev_oYes, intO_i, ev_sl, gSl_l, gSl_t, cutD_map, gInt_i, gInt_b, gAbs_i, gSum_l, gSum_t, ev_isi, ev_eand, ev_eor, ev_enot, gIn_il, gIn_it, gNotIn_il, gNotIn_it, gIs_n, gIsNot_n, isNon_n, isNon_t, isNon_l, isNon_i, isNon_b, ev_tup, ev_lst, limT_0, mkL_0, limT_1, mkL_1, limT_2, mkL_2, limT_3, mkL_3, limT_4, mkL_4, limT_5, mkL_5, limT_6, mkL_6, limT_7, mkL_7, limT_8, mkL_8, gAdd_ll, gAdd_tt, gMax2_i, gMin2_i, gIx_p0, gIx_p1, ev_rev, cutD_take, cutD_drop, gSortA_pair, some_or, some_and, bl_or, bl_and, gIx_t0, gIx_l0, gIx_t1, gIx_l1, gIx_t2, gIx_l2, gIx_t3, gIx_l3, gIx_t4, gIx_l4, gIx_t5, gIx_l5]; first | done | exact rfl)
    have hc2 := or_decF h
    rw [if_neg (by omega), seq_nop]
    have hw : maxI (gapL vs n ps) ≠ 0 := by omega
    obtain ⟨l1, l2⟩ := cut_less (vs := vs) hn0 h0 hw
    have hlt := List.length_pos_of_mem (lt_last_ne hc (by
      have := gap_axis (vs := vs) (ps := ps) hn0
      omega))
    have hcut : cutOf vs n ps = valOf (sortI (col vs ps (axisOf vs n ps))) := rfl
    have ho : ∀ p ∈ ps, gLe (.int (nth (nth vs p) (axisOf vs n ps))) (.int (cutOf vs n ps)) = some (.bl (decide (nth (nth vs p) (axisOf vs n ps) ≤ cutOf vs n ps))) := fun p _ => rfl
    have i1 := ih (lows vs (axisOf vs n ps) (cutOf vs n ps) ps) (by omega) (by omega) fun p h => hp p (List.mem_filter.mp h).1
    have i2 := ih (highs vs (axisOf vs n ps) (cutOf vs n ps) ps) (by omega) (by omega) fun p h => hp p (List.mem_filter.mp h).1
    have hl' : (sortI (col vs ps (axisOf vs n ps))).length = ps.length := hl
    have fin : ∀ (x5 x8 x9 : Sl), sSeq (sSet 7 (asL (fLc [8] (iSeq (bVar 1)) (gNm 8) (asB (eOp gLe (eOp gIx (eOp gIx (bVar 0) (bVar 8)) (bVar 3)) (bVar 6))) (eVar 8))))
        (sRet (eTup (aCons (eVar 3) (aCons (eVar 6) (aCons (eFn (run_l_split f) (aCons (eVar 0) (aCons (eVar 7) aNil))) (aCons (eFn (run_l_split f) (aCons (eVar 0) (aCons (asL (fLc [8] (iSeq (bVar 1)) (gNm 8) (asB (eOp gNotIn (bVar 8) (bVar 7))) (eVar 8))) aNil))) aNil))))))
        [.val (.tup (vs.map intT)), .val (.lst (ps.map D.int)), .val (bestD vs n ps (some (axisOf vs n ps))), .val (.int (axisOf vs n ps)), .val (.lst ((sortI (col vs ps (axisOf vs n ps))).map D.int)), x5, .val (.int (cutOf vs n ps)), .un, x8, x9] = some (.rt (ST.node (axisOf vs n ps) (cutOf vs n ps) (split vs n f (lows vs (axisOf vs n ps) (cutOf vs n ps) ps)) (split vs n f (highs vs (axisOf vs n ps) (cutOf vs n ps) ps))).d) := fun x5 x8 x9 => by
      refine seq_set (d := .lst ((lows vs (axisOf vs n ps) (cutOf vs n ps) ps).map D.int)) (by
        simp -implicitDefEqProofs (disch := first | assumption | omega | (simp only [List.length_map, rngN_len, sortI_len]; omega)) only [ev_asL, ev_lc, ev_rg1', ev_call, ev_cons, ev_nil, ev_op, ev_c, ev_bvar, ev_var, List.getElem?_cons_succ, List.getElem?_cons_zero, Option.bind_some, Option.map_some, slB_val, slV_val, slB_own, gLen_l, gLen_t, gLen_iT, List.length_map, rgA_1, rgO_ok, lim_ok, rngN_len, if_true, fltE_map, mapME_map, ev_gNm, ev_tYes, wipe_cons, wipe_nil, List.set_cons_succ, List.set_cons_zero, fltE_yes, fltE_p, fltP_some, fltE_rg, fltRg_p, fltRg_yes, fltRp_some, mapME_rg, mapRg_some, ev_iseq, itemsD_l, itemsD_t, mapME_some, gIx_lm, gIx_tm, Int.toNat_natCast, gAdd_i, gSub_i, map_i, ev_un, ev_asB, ev_asT, ev_not, ev_and, ev_or, ev_eif, ev_fcall, blD_bl, gEq_i, gNe_i, gLt_i, gLe_i, gGt_i, gGe_i, gNeg_i, truD_bl, ev_fn, gTuple_l, gTuple_t, gMod_i, gDiv_i, gMul_l, gMul_r, gMaxA_l', gMinA_l', gMaxA_t', gMinA_t', gSortA_l', sortI_len, gIx_last, truD_lm, truD_tm, ev_m1, gIndex_i, ev_oNo, ev_oYes, intO_i, ev_sl, gSl_l, gSl_t, cutD_map, gInt_i, gInt_b, gAbs_i, gSum_l, gSum_t, ev_isi, ev_eand, ev_eor, ev_enot, gIn_il, gIn_it, gNotIn_il, gNotIn_it, gIs_n, gIsNot_n, isNon_n, isNon_t, isNon_l, isNon_i, isNon_b, ev_tup, ev_lst, limT_0, mkL_0, limT_1, mkL_1, limT_2, mkL_2, limT_3, mkL_3, limT_4, mkL_4, limT_5, mkL_5, limT_6, mkL_6, limT_7, mkL_7, limT_8, mkL_8, gAdd_ll, gAdd_tt, gMax2_i, gMin2_i, gIx_p0, gIx_p1, ev_rev, cutD_take, cutD_drop, gSortA_pair, some_or, some_and, bl_or, bl_and, gIx_t0, gIx_l0, gIx_t1, gIx_l1, gIx_t2, gIx_l2, gIx_t3, gIx_l3, gIx_t4, gIx_l4, gIx_t5, gIx_l5, hp', hq]
        first | done | exact rfl) ?_
      simp only [List.map_cons, List.map_nil, List.replicate, List.cons_append, List.nil_append, List.set_cons_succ, List.set_cons_zero]
      refine run_ret ?_
      simp -implicitDefEqProofs (disch := first | assumption | omega | (simp only [List.length_map, rngN_len, sortI_len]; omega)) only [ev_asL, ev_lc, ev_rg1', ev_call, ev_cons, ev_nil, ev_op, ev_c, ev_bvar, ev_var, List.getElem?_cons_succ, List.getElem?_cons_zero, Option.bind_some, Option.map_some, slB_val, slV_val, slB_own, gLen_l, gLen_t, gLen_iT, List.length_map, rgA_1, rgO_ok, lim_ok, rngN_len, if_true, fltE_map, mapME_map, ev_gNm, ev_tYes, wipe_cons, wipe_nil, List.set_cons_succ, List.set_cons_zero, fltE_yes, fltE_p, fltP_some, fltE_rg, fltRg_p, fltRg_yes, fltRp_some, mapME_rg, mapRg_some, ev_iseq, itemsD_l, itemsD_t, mapME_some, gIx_lm, gIx_tm, Int.toNat_natCast, gAdd_i, gSub_i, map_i, ev_un, ev_asB, ev_asT, ev_not, ev_and, ev_or, ev_eif, ev_fcall, blD_bl, gEq_i, gNe_i, gLt_i, gLe_i, gGt_i, gGe_i, gNeg_i, truD_bl, ev_fn, gTuple_l, gTuple_t, gMod_i, gDiv_i, gMul_l, gMul_r, gMaxA_l', gMinA_l', gMaxA_t', gMinA_t', gSortA_l', sortI_len, gIx_last, truD_lm, truD_tm, ev_m1, gIndex_i, ev_oNo, ev_oYes, intO_i, ev_sl, gSl_l, gSl_t, cutD_map, gInt_i, gInt_b, gAbs_i, gSum_l, gSum_t, ev_isi, ev_eand, ev_eor, ev_enot, gIn_il, gIn_it, gNotIn_il, gNotIn_it, gIs_n, gIsNot_n, isNon_n, isNon_t, isNon_l, isNon_i, isNon_b, ev_tup, ev_lst, limT_0, mkL_0, limT_1, mkL_1, limT_2, mkL_2, limT_3, mkL_3, limT_4, mkL_4, limT_5, mkL_5, limT_6, mkL_6, limT_7, mkL_7, limT_8, mkL_8, gAdd_ll, gAdd_tt, gMax2_i, gMin2_i, gIx_p0, gIx_p1, ev_rev, cutD_take, cutD_drop, gSortA_pair, some_or, some_and, bl_or, bl_and, gIx_t0, gIx_l0, gIx_t1, gIx_l1, gIx_t2, gIx_l2, gIx_t3, gIx_l3, gIx_t4, gIx_l4, gIx_t5, gIx_l5, i1, i2, not_low]
      first | done | exact rfl
    have hv2 : valOf (sortI (col vs ps (axisOf vs n ps))) = if nth (sortI (col vs ps (axisOf vs n ps))) (((ps.length : Int) + 1) / 2 - 1) = nth (sortI (col vs ps (axisOf vs n ps))) ((ps.length : Int) - 1) then maxI ((sortI (col vs ps (axisOf vs n ps))).filter fun x => decide (x < nth (sortI (col vs ps (axisOf vs n ps))) ((ps.length : Int) - 1))) else nth (sortI (col vs ps (axisOf vs n ps))) (((ps.length : Int) + 1) / 2 - 1) := by
      unfold valOf
      rw [hl]
    rw [hl] at hlt
    have hcl : (col vs ps (axisOf vs n ps)).length = ps.length := by rw [col, List.length_map]
    refine seq_set (by simp -implicitDefEqProofs (disch := first | assumption | omega | (simp only [List.length_map, rngN_len, sortI_len]; omega)) only [ev_asL, ev_lc, ev_rg1', ev_call, ev_cons, ev_nil, ev_op, ev_c, ev_bvar, ev_var, List.getElem?_cons_succ, List.getElem?_cons_zero, Option.bind_some, Option.map_some, slB_val, slV_val, slB_own, gLen_l, gLen_t, gLen_iT, List.length_map, rgA_1, rgO_ok, lim_ok, rngN_len, if_true, fltE_map, mapME_map, ev_gNm, ev_tYes, wipe_cons, wipe_nil, List.set_cons_succ, List.set_cons_zero, fltE_yes, fltE_p, fltP_some, fltE_rg, fltRg_p, fltRg_yes, fltRp_some, mapME_rg, mapRg_some, ev_iseq, itemsD_l, itemsD_t, mapME_some, gIx_lm, gIx_tm, Int.toNat_natCast, gAdd_i, gSub_i, map_i, ev_un, ev_asB, ev_asT, ev_not, ev_and, ev_or, ev_eif, ev_fcall, blD_bl, gEq_i, gNe_i, gLt_i, gLe_i, gGt_i, gGe_i, gNeg_i, truD_bl, ev_fn, gTuple_l, gTuple_t, gMod_i, gDiv_i, gMul_l, gMul_r, gMaxA_l', gMinA_l', gMaxA_t', gMinA_t', gSortA_l', sortI_len, gIx_last, truD_lm, truD_tm, ev_m1, gIndex_i, ev_oNo, ev_oYes, intO_i, ev_sl, gSl_l, gSl_t, cutD_map, gInt_i, gInt_b, gAbs_i, gSum_l, gSum_t, ev_isi, ev_eand, ev_eor, ev_enot, gIn_il, gIn_it, gNotIn_il, gNotIn_it, gIs_n, gIsNot_n, isNon_n, isNon_t, isNon_l, isNon_i, isNon_b, ev_tup, ev_lst, limT_0, mkL_0, limT_1, mkL_1, limT_2, mkL_2, limT_3, mkL_3, limT_4, mkL_4, limT_5, mkL_5, limT_6, mkL_6, limT_7, mkL_7, limT_8, mkL_8, gAdd_ll, gAdd_tt, gMax2_i, gMin2_i, gIx_p0, gIx_p1, ev_rev, cutD_take, cutD_drop, gSortA_pair, some_or, some_and, bl_or, bl_and, gIx_t0, gIx_l0, gIx_t1, gIx_l1, gIx_t2, gIx_l2, gIx_t3, gIx_l3, gIx_t4, gIx_l4, gIx_t5, gIx_l5, hcl]; first | done | exact rfl) ?_
    simp only [List.map_cons, List.map_nil, List.replicate, List.cons_append, List.nil_append, List.set_cons_succ, List.set_cons_zero]
    refine seq_ifk (by simp -implicitDefEqProofs (disch := first | assumption | omega | (simp only [List.length_map, rngN_len, sortI_len]; omega)) only [ev_asL, ev_lc, ev_rg1', ev_call, ev_cons, ev_nil, ev_op, ev_c, ev_bvar, ev_var, List.getElem?_cons_succ, List.getElem?_cons_zero, Option.bind_some, Option.map_some, slB_val, slV_val, slB_own, gLen_l, gLen_t, gLen_iT, List.length_map, rgA_1, rgO_ok, lim_ok, rngN_len, if_true, fltE_map, mapME_map, ev_gNm, ev_tYes, wipe_cons, wipe_nil, List.set_cons_succ, List.set_cons_zero, fltE_yes, fltE_p, fltP_some, fltE_rg, fltRg_p, fltRg_yes, fltRp_some, mapME_rg, mapRg_some, ev_iseq, itemsD_l, itemsD_t, mapME_some, gIx_lm, gIx_tm, Int.toNat_natCast, gAdd_i, gSub_i, map_i, ev_un, ev_asB, ev_asT, ev_not, ev_and, ev_or, ev_eif, ev_fcall, blD_bl, gEq_i, gNe_i, gLt_i, gLe_i, gGt_i, gGe_i, gNeg_i, truD_bl, ev_fn, gTuple_l, gTuple_t, gMod_i, gDiv_i, gMul_l, gMul_r, gMaxA_l', gMinA_l', gMaxA_t', gMinA_t', gSortA_l', sortI_len, gIx_last, truD_lm, truD_tm, ev_m1, gIndex_i, ev_oNo, ev_oYes, intO_i, ev_sl, gSl_l, gSl_t, cutD_map, gInt_i, gInt_b, gAbs_i, gSum_l, gSum_t, ev_isi, ev_eand, ev_eor, ev_enot, gIn_il, gIn_it, gNotIn_il, gNotIn_it, gIs_n, gIsNot_n, isNon_n, isNon_t, isNon_l, isNon_i, isNon_b, ev_tup, ev_lst, limT_0, mkL_0, limT_1, mkL_1, limT_2, mkL_2, limT_3, mkL_3, limT_4, mkL_4, limT_5, mkL_5, limT_6, mkL_6, limT_7, mkL_7, limT_8, mkL_8, gAdd_ll, gAdd_tt, gMax2_i, gMin2_i, gIx_p0, gIx_p1, ev_rev, cutD_take, cutD_drop, gSortA_pair, some_or, some_and, bl_or, bl_and, gIx_t0, gIx_l0, gIx_t1, gIx_l1, gIx_t2, gIx_l2, gIx_t3, gIx_l3, gIx_t4, gIx_l4, gIx_t5, gIx_l5, hcl]; first | done | exact rfl) (fun h => ?_) (fun h => ?_)
    · have h := of_decide_eq_true h
      refine seq_set (d := .int (cutOf vs n ps)) ?_ ?_
      · rw [hcut, hv2, if_pos h, h]
        simp -implicitDefEqProofs (disch := first | assumption | omega | (simp only [List.length_map, rngN_len, sortI_len]; omega)) only [ev_asL, ev_lc, ev_rg1', ev_call, ev_cons, ev_nil, ev_op, ev_c, ev_bvar, ev_var, List.getElem?_cons_succ, List.getElem?_cons_zero, Option.bind_some, Option.map_some, slB_val, slV_val, slB_own, gLen_l, gLen_t, gLen_iT, List.length_map, rgA_1, rgO_ok, lim_ok, rngN_len, if_true, fltE_map, mapME_map, ev_gNm, ev_tYes, wipe_cons, wipe_nil, List.set_cons_succ, List.set_cons_zero, fltE_yes, fltE_p, fltP_some, fltE_rg, fltRg_p, fltRg_yes, fltRp_some, mapME_rg, mapRg_some, ev_iseq, itemsD_l, itemsD_t, mapME_some, gIx_lm, gIx_tm, Int.toNat_natCast, gAdd_i, gSub_i, map_i, ev_un, ev_asB, ev_asT, ev_not, ev_and, ev_or, ev_eif, ev_fcall, blD_bl, gEq_i, gNe_i, gLt_i, gLe_i, gGt_i, gGe_i, gNeg_i, truD_bl, ev_fn, gTuple_l, gTuple_t, gMod_i, gDiv_i, gMul_l, gMul_r, gMaxA_l', gMinA_l', gMaxA_t', gMinA_t', gSortA_l', sortI_len, gIx_last, truD_lm, truD_tm, ev_m1, gIndex_i, ev_oNo, ev_oYes, intO_i, ev_sl, gSl_l, gSl_t, cutD_map, gInt_i, gInt_b, gAbs_i, gSum_l, gSum_t, ev_isi, ev_eand, ev_eor, ev_enot, gIn_il, gIn_it, gNotIn_il, gNotIn_it, gIs_n, gIsNot_n, isNon_n, isNon_t, isNon_l, isNon_i, isNon_b, ev_tup, ev_lst, limT_0, mkL_0, limT_1, mkL_1, limT_2, mkL_2, limT_3, mkL_3, limT_4, mkL_4, limT_5, mkL_5, limT_6, mkL_6, limT_7, mkL_7, limT_8, mkL_8, gAdd_ll, gAdd_tt, gMax2_i, gMin2_i, gIx_p0, gIx_p1, ev_rev, cutD_take, cutD_drop, gSortA_pair, some_or, some_and, bl_or, bl_and, gIx_t0, gIx_l0, gIx_t1, gIx_l1, gIx_t2, gIx_l2, gIx_t3, gIx_l3, gIx_t4, gIx_l4, gIx_t5, gIx_l5, hcl]
        first | done | exact rfl
      · simp only [List.map_cons, List.map_nil, List.replicate, List.cons_append, List.nil_append, List.set_cons_succ, List.set_cons_zero]
        exact fin _ _ _
    · have h := of_decide_eq_false h
      rw [seq_nop]
      rw [hv2, if_neg h] at hcut
      rw [← hcut]
      exact fin _ _ _
end K06

set_option Elab.async false
set_option linter.all false
set_option maxRecDepth 100000
set_option maxHeartbeats 4000000
namespace K06
open PySem L2 PD
def ST.isNode : ST → Bool
  | .node _ _ _ _ => true
  | _ => false
def ST.depth : ST → Int
  | .node _ _ l h => 1 + max l.depth h.depth
  | _ => 0
theorem nd_not_int (t : ST) : isiD "int" t.d = false ∧ isiD "bool" t.d = false ∧ notDic t.d = true := by
  cases t <;> (refine ⟨?_, ?_, rfl⟩ <;> simp [ST.d, isiD, tyD, intT])
theorem gEq_len {n : Nat} : gEq (.int n) (.int 4) = some (.bl (decide (n = 4))) := by
  rw [gEq_i]
  congr 2
  by_cases h : n = 4
  · simp [h]
  · have : ¬ ((n : Int) = 4) := by omega
    simp [h, this]
theorem gNe_len {n : Nat} : gNe (.int n) (.int 4) = some (.bl (!decide (n = 4))) := by
  rw [gNe_i]
  congr 3
  by_cases h : n = 4
  · simp [h]
  · have : ¬ ((n : Int) = 4) := by omega
    simp [h, this]
theorem e_is_int : K06.run_l_is_int = PD.run_l_is_int := rfl
theorem run_issp (t : ST) : run_is_split [t.d] = some (.bl t.isNode) := by
  refine runC_rt rfl (run_ret ?_)
  cases t with
  | non => rfl
  | leaf ps =>
    simp only [List.map_cons, List.map_nil, List.replicate, List.cons_append, List.nil_append, List.set_cons_succ, List.set_cons_zero]
    by_cases h : ps.length = 4
    · have g := gIx_iT (xs := ps) (i := 3) (by omega) (by omega)
      simp -implicitDefEqProofs (disch := first | assumption | omega | (simp only [List.length_map, rngN_len, sortI_len]; omega)) only [ev_asL, ev_lc, ev_rg1', ev_call, ev_cons, ev_nil, ev_op, ev_c, ev_bvar, ev_var, List.getElem?_cons_succ, List.getElem?_cons_zero, Option.bind_some, Option.map_some, slB_val, slV_val, slB_own, gLen_l, gLen_t, gLen_iT, List.length_map, rgA_1, rgO_ok, lim_ok, rngN_len, if_true, fltE_map, mapME_map, ev_gNm, ev_tYes, wipe_cons, wipe_nil, List.set_cons_succ, List.set_cons_zero, fltE_yes, fltE_p, fltP_some, fltE_rg, fltRg_p, fltRg_yes, fltRp_some, mapME_rg, mapRg_some, ev_iseq, itemsD_l, itemsD_t, mapME_some, gIx_lm, gIx_tm, Int.toNat_natCast, gAdd_i, gSub_i, map_i, ev_un, ev_asB, ev_asT, ev_not, ev_and, ev_or, ev_eif, ev_fcall, blD_bl, gEq_i, gNe_i, gLt_i, gLe_i, gGt_i, gGe_i, gNeg_i, truD_bl, ev_fn, gTuple_l, gTuple_t, gMod_i, gDiv_i, gMul_l, gMul_r, gMaxA_l', gMinA_l', gMaxA_t', gMinA_t', gSortA_l', sortI_len, gIx_last, truD_lm, truD_tm, ev_m1, gIndex_i, ev_oNo, ev_oYes, intO_i, ev_sl, gSl_l, gSl_t, cutD_map, gInt_i, gInt_b, gAbs_i, gSum_l, gSum_t, ev_isi, ev_eand, ev_eor, ev_enot, gIn_il, gIn_it, gNotIn_il, gNotIn_it, gIs_n, gIsNot_n, isNon_n, isNon_t, isNon_l, isNon_i, isNon_b, ev_tup, ev_lst, limT_0, mkL_0, limT_1, mkL_1, limT_2, mkL_2, limT_3, mkL_3, limT_4, mkL_4, limT_5, mkL_5, limT_6, mkL_6, limT_7, mkL_7, limT_8, mkL_8, gAdd_ll, gAdd_tt, gMax2_i, gMin2_i, gIx_p0, gIx_p1, ev_rev, cutD_take, cutD_drop, gSortA_pair, some_or, some_and, bl_or, bl_and, gIx_t0, gIx_l0, gIx_t1, gIx_l1, gIx_t2, gIx_l2, gIx_t3, gIx_l3, gIx_t4, gIx_l4, gIx_t5, gIx_l5, ST.d, gEq_len, h, g, isiO_int, isi_int_int, intT]
      first | done | exact rfl
    · have h' : ¬ ((ps.length : Int) = 4) := by omega
      simp -implicitDefEqProofs (disch := first | assumption | omega | (simp only [List.length_map, rngN_len, sortI_len]; omega)) only [ev_asL, ev_lc, ev_rg1', ev_call, ev_cons, ev_nil, ev_op, ev_c, ev_bvar, ev_var, List.getElem?_cons_succ, List.getElem?_cons_zero, Option.bind_some, Option.map_some, slB_val, slV_val, slB_own, gLen_l, gLen_t, gLen_iT, List.length_map, rgA_1, rgO_ok, lim_ok, rngN_len, if_true, fltE_map, mapME_map, ev_gNm, ev_tYes, wipe_cons, wipe_nil, List.set_cons_succ, List.set_cons_zero, fltE_yes, fltE_p, fltP_some, fltE_rg, fltRg_p, fltRg_yes, fltRp_some, mapME_rg, mapRg_some, ev_iseq, itemsD_l, itemsD_t, mapME_some, gIx_lm, gIx_tm, Int.toNat_natCast, gAdd_i, gSub_i, map_i, ev_un, ev_asB, ev_asT, ev_not, ev_and, ev_or, ev_eif, ev_fcall, blD_bl, gEq_i, gNe_i, gLt_i, gLe_i, gGt_i, gGe_i, gNeg_i, truD_bl, ev_fn, gTuple_l, gTuple_t, gMod_i, gDiv_i, gMul_l, gMul_r, gMaxA_l', gMinA_l', gMaxA_t', gMinA_t', gSortA_l', sortI_len, gIx_last, truD_lm, truD_tm, ev_m1, gIndex_i, ev_oNo, ev_oYes, intO_i, ev_sl, gSl_l, gSl_t, cutD_map, gInt_i, gInt_b, gAbs_i, gSum_l, gSum_t, ev_isi, ev_eand, ev_eor, ev_enot, gIn_il, gIn_it, gNotIn_il, gNotIn_it, gIs_n, gIsNot_n, isNon_n, isNon_t, isNon_l, isNon_i, isNon_b, ev_tup, ev_lst, limT_0, mkL_0, limT_1, mkL_1, limT_2, mkL_2, limT_3, mkL_3, limT_4, mkL_4, limT_5, mkL_5, limT_6, mkL_6, limT_7, mkL_7, limT_8, mkL_8, gAdd_ll, gAdd_tt, gMax2_i, gMin2_i, gIx_p0, gIx_p1, ev_rev, cutD_take, cutD_drop, gSortA_pair, some_or, some_and, bl_or, bl_and, gIx_t0, gIx_l0, gIx_t1, gIx_l1, gIx_t2, gIx_l2, gIx_t3, gIx_l3, gIx_t4, gIx_l4, gIx_t5, gIx_l5, ST.d, h', intT, decide_false]
      rfl
  | node a v l h =>
    obtain ⟨n1, n2, n3⟩ := nd_not_int h
    simp only [List.map_cons, List.map_nil, List.replicate, List.cons_append, List.nil_append, List.set_cons_succ, List.set_cons_zero]
    simp -implicitDefEqProofs (disch := first | assumption | omega | (simp only [List.length_map, rngN_len, sortI_len]; omega)) only [ev_asL, ev_lc, ev_rg1', ev_call, ev_cons, ev_nil, ev_op, ev_c, ev_bvar, ev_var, List.getElem?_cons_succ, List.getElem?_cons_zero, Option.bind_some, Option.map_some, slB_val, slV_val, slB_own, gLen_l, gLen_t, gLen_iT, List.length_map, rgA_1, rgO_ok, lim_ok, rngN_len, if_true, fltE_map, mapME_map, ev_gNm, ev_tYes, wipe_cons, wipe_nil, List.set_cons_succ, List.set_cons_zero, fltE_yes, fltE_p, fltP_some, fltE_rg, fltRg_p, fltRg_yes, fltRp_some, mapME_rg, mapRg_some, ev_iseq, itemsD_l, itemsD_t, mapME_some, gIx_lm, gIx_tm, Int.toNat_natCast, gAdd_i, gSub_i, map_i, ev_un, ev_asB, ev_asT, ev_not, ev_and, ev_or, ev_eif, ev_fcall, blD_bl, gEq_i, gNe_i, gLt_i, gLe_i, gGt_i, gGe_i, gNeg_i, truD_bl, ev_fn, gTuple_l, gTuple_t, gMod_i, gDiv_i, gMul_l, gMul_r, gMaxA_l', gMinA_l', gMaxA_t', gMinA_t', gSortA_l', sortI_len, gIx_last, truD_lm, truD_tm, ev_m1, gIndex_i, ev_oNo, ev_oYes, intO_i, ev_sl, gSl_l, gSl_t, cutD_map, gInt_i, gInt_b, gAbs_i, gSum_l, gSum_t, ev_isi, ev_eand, ev_eor, ev_enot, gIn_il, gIn_it, gNotIn_il, gNotIn_it, gIs_n, gIsNot_n, isNon_n, isNon_t, isNon_l, isNon_i, isNon_b, ev_tup, ev_lst, limT_0, mkL_0, limT_1, mkL_1, limT_2, mkL_2, limT_3, mkL_3, limT_4, mkL_4, limT_5, mkL_5, limT_6, mkL_6, limT_7, mkL_7, limT_8, mkL_8, gAdd_ll, gAdd_tt, gMax2_i, gMin2_i, gIx_p0, gIx_p1, ev_rev, cutD_take, cutD_drop, gSortA_pair, some_or, some_and, bl_or, bl_and, gIx_t0, gIx_l0, gIx_t1, gIx_l1, gIx_t2, gIx_l2, gIx_t3, gIx_l3, gIx_t4, gIx_l4, gIx_t5, gIx_l5, ST.d, isiO_of n3, n1]
    rfl
theorem run_lleaf (t : ST) : run_l_leaf [t.d] = some (.bl (!t.isNode)) := by
  refine runC_rt rfl (run_ret ?_)
  cases t with
  | non => rfl
  | leaf ps =>
    simp only [List.map_cons, List.map_nil, List.replicate, List.cons_append, List.nil_append, List.set_cons_succ, List.set_cons_zero]
    by_cases h : ps.length = 4
    · have g := gIx_iT (xs := ps) (i := 3) (by omega) (by omega)
      have r := run_is_int (.int (nth ps 3)) rfl
      rw [← e_is_int] at r
      simp -implicitDefEqProofs (disch := first | assumption | omega | (simp only [List.length_map, rngN_len, sortI_len]; omega)) only [ev_asL, ev_lc, ev_rg1', ev_call, ev_cons, ev_nil, ev_op, ev_c, ev_bvar, ev_var, List.getElem?_cons_succ, List.getElem?_cons_zero, Option.bind_some, Option.map_some, slB_val, slV_val, slB_own, gLen_l, gLen_t, gLen_iT, List.length_map, rgA_1, rgO_ok, lim_ok, rngN_len, if_true, fltE_map, mapME_map, ev_gNm, ev_tYes, wipe_cons, wipe_nil, List.set_cons_succ, List.set_cons_zero, fltE_yes, fltE_p, fltP_some, fltE_rg, fltRg_p, fltRg_yes, fltRp_some, mapME_rg, mapRg_some, ev_iseq, itemsD_l, itemsD_t, mapME_some, gIx_lm, gIx_tm, Int.toNat_natCast, gAdd_i, gSub_i, map_i, ev_un, ev_asB, ev_asT, ev_not, ev_and, ev_or, ev_eif, ev_fcall, blD_bl, gEq_i, gNe_i, gLt_i, gLe_i, gGt_i, gGe_i, gNeg_i, truD_bl, ev_fn, gTuple_l, gTuple_t, gMod_i, gDiv_i, gMul_l, gMul_r, gMaxA_l', gMinA_l', gMaxA_t', gMinA_t', gSortA_l', sortI_len, gIx_last, truD_lm, truD_tm, ev_m1, gIndex_i, ev_oNo, ev_oYes, intO_i, ev_sl, gSl_l, gSl_t, cutD_map, gInt_i, gInt_b, gAbs_i, gSum_l, gSum_t, ev_isi, ev_eand, ev_eor, ev_enot, gIn_il, gIn_it, gNotIn_il, gNotIn_it, gIs_n, gIsNot_n, isNon_n, isNon_t, isNon_l, isNon_i, isNon_b, ev_tup, ev_lst, limT_0, mkL_0, limT_1, mkL_1, limT_2, mkL_2, limT_3, mkL_3, limT_4, mkL_4, limT_5, mkL_5, limT_6, mkL_6, limT_7, mkL_7, limT_8, mkL_8, gAdd_ll, gAdd_tt, gMax2_i, gMin2_i, gIx_p0, gIx_p1, ev_rev, cutD_take, cutD_drop, gSortA_pair, some_or, some_and, bl_or, bl_and, gIx_t0, gIx_l0, gIx_t1, gIx_l1, gIx_t2, gIx_l2, gIx_t3, gIx_l3, gIx_t4, gIx_l4, gIx_t5, gIx_l5, ST.d, h, g, r, isi_int_int, isi_bool_int, intT]
      rfl
    · have h' : ¬ ((ps.length : Int) = 4) := by omega
      simp -implicitDefEqProofs (disch := first | assumption | omega | (simp only [List.length_map, rngN_len, sortI_len]; omega)) only [ev_asL, ev_lc, ev_rg1', ev_call, ev_cons, ev_nil, ev_op, ev_c, ev_bvar, ev_var, List.getElem?_cons_succ, List.getElem?_cons_zero, Option.bind_some, Option.map_some, slB_val, slV_val, slB_own, gLen_l, gLen_t, gLen_iT, List.length_map, rgA_1, rgO_ok, lim_ok, rngN_len, if_true, fltE_map, mapME_map, ev_gNm, ev_tYes, wipe_cons, wipe_nil, List.set_cons_succ, List.set_cons_zero, fltE_yes, fltE_p, fltP_some, fltE_rg, fltRg_p, fltRg_yes, fltRp_some, mapME_rg, mapRg_some, ev_iseq, itemsD_l, itemsD_t, mapME_some, gIx_lm, gIx_tm, Int.toNat_natCast, gAdd_i, gSub_i, map_i, ev_un, ev_asB, ev_asT, ev_not, ev_and, ev_or, ev_eif, ev_fcall, blD_bl, gEq_i, gNe_i, gLt_i, gLe_i, gGt_i, gGe_i, gNeg_i, truD_bl, ev_fn, gTuple_l, gTuple_t, gMod_i, gDiv_i, gMul_l, gMul_r, gMaxA_l', gMinA_l', gMaxA_t', gMinA_t', gSortA_l', sortI_len, gIx_last, truD_lm, truD_tm, ev_m1, gIndex_i, ev_oNo, ev_oYes, intO_i, ev_sl, gSl_l, gSl_t, cutD_map, gInt_i, gInt_b, gAbs_i, gSum_l, gSum_t, ev_isi, ev_eand, ev_eor, ev_enot, gIn_il, gIn_it, gNotIn_il, gNotIn_it, gIs_n, gIsNot_n, isNon_n, isNon_t, isNon_l, isNon_i, isNon_b, ev_tup, ev_lst, limT_0, mkL_0, limT_1, mkL_1, limT_2, mkL_2, limT_3, mkL_3, limT_4, mkL_4, limT_5, mkL_5, limT_6, mkL_6, limT_7, mkL_7, limT_8, mkL_8, gAdd_ll, gAdd_tt, gMax2_i, gMin2_i, gIx_p0, gIx_p1, ev_rev, cutD_take, cutD_drop, gSortA_pair, some_or, some_and, bl_or, bl_and, gIx_t0, gIx_l0, gIx_t1, gIx_l1, gIx_t2, gIx_l2, gIx_t3, gIx_l3, gIx_t4, gIx_l4, gIx_t5, gIx_l5, ST.d, h', intT, decide_false]
      rfl
  | node a v l h =>
    obtain ⟨n1, n2, n3⟩ := nd_not_int h
    have r := run_is_int h.d n3
    rw [← e_is_int, n1, n2] at r
    simp only [List.map_cons, List.map_nil, List.replicate, List.cons_append, List.nil_append, List.set_cons_succ, List.set_cons_zero]
    simp -implicitDefEqProofs (disch := first | assumption | omega | (simp only [List.length_map, rngN_len, sortI_len]; omega)) only [ev_asL, ev_lc, ev_rg1', ev_call, ev_cons, ev_nil, ev_op, ev_c, ev_bvar, ev_var, List.getElem?_cons_succ, List.getElem?_cons_zero, Option.bind_some, Option.map_some, slB_val, slV_val, slB_own, gLen_l, gLen_t, gLen_iT, List.length_map, rgA_1, rgO_ok, lim_ok, rngN_len, if_true, fltE_map, mapME_map, ev_gNm, ev_tYes, wipe_cons, wipe_nil, List.set_cons_succ, List.set_cons_zero, fltE_yes, fltE_p, fltP_some, fltE_rg, fltRg_p, fltRg_yes, fltRp_some, mapME_rg, mapRg_some, ev_iseq, itemsD_l, itemsD_t, mapME_some, gIx_lm, gIx_tm, Int.toNat_natCast, gAdd_i, gSub_i, map_i, ev_un, ev_asB, ev_asT, ev_not, ev_and, ev_or, ev_eif, ev_fcall, blD_bl, gEq_i, gNe_i, gLt_i, gLe_i, gGt_i, gGe_i, gNeg_i, truD_bl, ev_fn, gTuple_l, gTuple_t, gMod_i, gDiv_i, gMul_l, gMul_r, gMaxA_l', gMinA_l', gMaxA_t', gMinA_t', gSortA_l', sortI_len, gIx_last, truD_lm, truD_tm, ev_m1, gIndex_i, ev_oNo, ev_oYes, intO_i, ev_sl, gSl_l, gSl_t, cutD_map, gInt_i, gInt_b, gAbs_i, gSum_l, gSum_t, ev_isi, ev_eand, ev_eor, ev_enot, gIn_il, gIn_it, gNotIn_il, gNotIn_it, gIs_n, gIsNot_n, isNon_n, isNon_t, isNon_l, isNon_i, isNon_b, ev_tup, ev_lst, limT_0, mkL_0, limT_1, mkL_1, limT_2, mkL_2, limT_3, mkL_3, limT_4, mkL_4, limT_5, mkL_5, limT_6, mkL_6, limT_7, mkL_7, limT_8, mkL_8, gAdd_ll, gAdd_tt, gMax2_i, gMin2_i, gIx_p0, gIx_p1, ev_rev, cutD_take, cutD_drop, gSortA_pair, some_or, some_and, bl_or, bl_and, gIx_t0, gIx_l0, gIx_t1, gIx_l1, gIx_t2, gIx_l2, gIx_t3, gIx_l3, gIx_t4, gIx_l4, gIx_t5, gIx_l5, ST.d, r]
    rfl
end K06

set_option Elab.async false
set_option linter.all false
set_option maxRecDepth 100000
set_option maxHeartbeats 4000000
namespace K06
open PySem L2 PD
def ST.ht : ST → Nat
  | .node _ _ l h => 1 + max l.ht h.ht
  | _ => 1
theorem split_ht {vs : List (List Int)} {n : Nat} (hn : 0 < n) : ∀ (f : Nat) (ps : List Int), ps.length < f → (split vs n f ps).ht ≤ ps.length + 1
  | 0, ps, h => absurd h (by omega)
  | f + 1, ps, h => by
    unfold split
    split
    · show 1 ≤ _
      omega
    · split
      · show 1 ≤ _
        omega
      · rename_i h0 hc
        obtain ⟨l1, l2⟩ := cut_less (vs := vs) hn (show 0 < ps.length by omega) (show maxI (gapL vs n ps) ≠ 0 by omega)
        have i1 := split_ht (vs := vs) hn f (lows vs (axisOf vs n ps) (cutOf vs n ps) ps) (by omega)
        have i2 := split_ht (vs := vs) hn f (highs vs (axisOf vs n ps) (cutOf vs n ps) ps) (by omega)
        show 1 + max (ST.ht _) (ST.ht _) ≤ _
        omega
theorem run_depth : ∀ (f : Nat) (t : ST), t.ht ≤ f → run_split_depth f [t.d] = some (.int t.depth)
  | 0, t, h => by
    have : 1 ≤ t.ht := by cases t <;> simp [ST.ht]
    omega
  | f + 1, t, hf => by
    show runC 1 0 (b_split_depth (run_split_depth f)) _ = _
    have hs := run_issp t
    refine runC_rt rfl ?_
    simp only [List.map_cons, List.map_nil, List.replicate, List.cons_append, List.nil_append, List.set_cons_succ, List.set_cons_zero]
    cases t with
    | node a v l h =>
      have hf : 1 + max l.ht h.ht ≤ f + 1 := hf
      have i1 := run_depth f l (by omega)
      have i2 := run_depth f h (by omega)
      refine seq_if0 (by simp -implicitDefEqProofs (disch := first | assumption | omega | (simp only [List.length_map, rngN_len, sortI_len]; omega)) only [ev_asL, ev_lc, ev_rg1', ev_call, ev_cons, ev_nil, ev_op, ev_c, ev_bvar, ev_var, List.getElem?_cons_succ, List.getElem?_cons_zero, Option.bind_some, Option.map_some, slB_val, slV_val, slB_own, gLen_l, gLen_t, gLen_iT, List.length_map, rgA_1, rgO_ok, lim_ok, rngN_len, if_true, fltE_map, mapME_map, ev_gNm, ev_tYes, wipe_cons, wipe_nil, List.set_cons_succ, List.set_cons_zero, fltE_yes, fltE_p, fltP_some, fltE_rg, fltRg_p, fltRg_yes, fltRp_some, mapME_rg, mapRg_some, ev_iseq, itemsD_l, itemsD_t, mapME_some, gIx_lm, gIx_tm, Int.toNat_natCast, gAdd_i, gSub_i, map_i, ev_un, ev_asB, ev_asT, ev_not, ev_and, ev_or, ev_eif, ev_fcall, blD_bl, gEq_i, gNe_i, gLt_i, gLe_i, gGt_i, gGe_i, gNeg_i, truD_bl, ev_fn, gTuple_l, gTuple_t, gMod_i, gDiv_i, gMul_l, gMul_r, gMaxA_l', gMinA_l', gMaxA_t', gMinA_t', gSortA_l', sortI_len, gIx_last, truD_lm, truD_tm, ev_m1, gIndex_i, ev_oNo, ev_oYes, intO_i, ev_sl, gSl_l, gSl_t, cutD_map, gInt_i, gInt_b, gAbs_i, gSum_l, gSum_t, ev_isi, ev_eand, ev_eor, ev_enot, gIn_il, gIn_it, gNotIn_il, gNotIn_it, gIs_n, gIsNot_n, isNon_n, isNon_t, isNon_l, isNon_i, isNon_b, ev_tup, ev_lst, limT_0, mkL_0, limT_1, mkL_1, limT_2, mkL_2, limT_3, mkL_3, limT_4, mkL_4, limT_5, mkL_5, limT_6, mkL_6, limT_7, mkL_7, limT_8, mkL_8, gAdd_ll, gAdd_tt, gMax2_i, gMin2_i, gIx_p0, gIx_p1, ev_rev, cutD_take, cutD_drop, gSortA_pair, some_or, some_and, bl_or, bl_and, gIx_t0, gIx_l0, gIx_t1, gIx_l1, gIx_t2, gIx_l2, gIx_t3, gIx_l3, gIx_t4, gIx_l4, gIx_t5, gIx_l5, hs, ST.isNode, Bool.not_true]; first | done | exact rfl) (run_ret ?_)
      simp -implicitDefEqProofs (disch := first | assumption | omega | (simp only [List.length_map, rngN_len, sortI_len]; omega)) only [ev_asL, ev_lc, ev_rg1', ev_call, ev_cons, ev_nil, ev_op, ev_c, ev_bvar, ev_var, List.getElem?_cons_succ, List.getElem?_cons_zero, Option.bind_some, Option.map_some, slB_val, slV_val, slB_own, gLen_l, gLen_t, gLen_iT, List.length_map, rgA_1, rgO_ok, lim_ok, rngN_len, if_true, fltE_map, mapME_map, ev_gNm, ev_tYes, wipe_cons, wipe_nil, List.set_cons_succ, List.set_cons_zero, fltE_yes, fltE_p, fltP_some, fltE_rg, fltRg_p, fltRg_yes, fltRp_some, mapME_rg, mapRg_some, ev_iseq, itemsD_l, itemsD_t, mapME_some, gIx_lm, gIx_tm, Int.toNat_natCast, gAdd_i, gSub_i, map_i, ev_un, ev_asB, ev_asT, ev_not, ev_and, ev_or, ev_eif, ev_fcall, blD_bl, gEq_i, gNe_i, gLt_i, gLe_i, gGt_i, gGe_i, gNeg_i, truD_bl, ev_fn, gTuple_l, gTuple_t, gMod_i, gDiv_i, gMul_l, gMul_r, gMaxA_l', gMinA_l', gMaxA_t', gMinA_t', gSortA_l', sortI_len, gIx_last, truD_lm, truD_tm, ev_m1, gIndex_i, ev_oNo, ev_oYes, intO_i, ev_sl, gSl_l, gSl_t, cutD_map, gInt_i, gInt_b, gAbs_i, gSum_l, gSum_t, ev_isi, ev_eand, ev_eor, ev_enot, gIn_il, gIn_it, gNotIn_il, gNotIn_it, gIs_n, gIsNot_n, isNon_n, isNon_t, isNon_l, isNon_i, isNon_b, ev_tup, ev_lst, limT_0, mkL_0, limT_1, mkL_1, limT_2, mkL_2, limT_3, mkL_3, limT_4, mkL_4, limT_5, mkL_5, limT_6, mkL_6, limT_7, mkL_7, limT_8, mkL_8, gAdd_ll, gAdd_tt, gMax2_i, gMin2_i, gIx_p0, gIx_p1, ev_rev, cutD_take, cutD_drop, gSortA_pair, some_or, some_and, bl_or, bl_and, gIx_t0, gIx_l0, gIx_t1, gIx_l1, gIx_t2, gIx_l2, gIx_t3, gIx_l3, gIx_t4, gIx_l4, gIx_t5, gIx_l5, ST.d, i1, i2]
      rfl
    | non => exact seq_if1r (by simp -implicitDefEqProofs (disch := first | assumption | omega | (simp only [List.length_map, rngN_len, sortI_len]; omega)) only [ev_asL, ev_lc, ev_rg1', ev_call, ev_cons, ev_nil, ev_op, ev_c, ev_bvar, ev_var, List.getElem?_cons_succ, List.getElem?_cons_zero, Option.bind_some, Option.map_some, slB_val, slV_val, slB_own, gLen_l, gLen_t, gLen_iT, List.length_map, rgA_1, rgO_ok, lim_ok, rngN_len, if_true, fltE_map, mapME_map, ev_gNm, ev_tYes, wipe_cons, wipe_nil, List.set_cons_succ, List.set_cons_zero, fltE_yes, fltE_p, fltP_some, fltE_rg, fltRg_p, fltRg_yes, fltRp_some, mapME_rg, mapRg_some, ev_iseq, itemsD_l, itemsD_t, mapME_some, gIx_lm, gIx_tm, Int.toNat_natCast, gAdd_i, gSub_i, map_i, ev_un, ev_asB, ev_asT, ev_not, ev_and, ev_or, ev_eif, ev_fcall, blD_bl, gEq_i, gNe_i, gLt_i, gLe_i, gGt_i, gGe_i, gNeg_i, truD_bl, ev_fn, gTuple_l, gTuple_t, gMod_i, gDiv_i, gMul_l, gMul_r, gMaxA_l', gMinA_l', gMaxA_t', gMinA_t', gSortA_l', sortI_len, gIx_last, truD_lm, truD_tm, ev_m1, gIndex_i, ev_oNo, ev_oYes, intO_i, ev_sl, gSl_l, gSl_t, cutD_map, gInt_i, gInt_b, gAbs_i, gSum_l, gSum_t, ev_isi, ev_eand, ev_eor, ev_enot, gIn_il, gIn_it, gNotIn_il, gNotIn_it, gIs_n, gIsNot_n, isNon_n, isNon_t, isNon_l, isNon_i, isNon_b, ev_tup, ev_lst, limT_0, mkL_0, limT_1, mkL_1, limT_2, mkL_2, limT_3, mkL_3, limT_4, mkL_4, limT_5, mkL_5, limT_6, mkL_6, limT_7, mkL_7, limT_8, mkL_8, gAdd_ll, gAdd_tt, gMax2_i, gMin2_i, gIx_p0, gIx_p1, ev_rev, cutD_take, cutD_drop, gSortA_pair, some_or, some_and, bl_or, bl_and, gIx_t0, gIx_l0, gIx_t1, gIx_l1, gIx_t2, gIx_l2, gIx_t3, gIx_l3, gIx_t4, gIx_l4, gIx_t5, gIx_l5, hs, ST.isNode, Bool.not_false]; first | done | exact rfl) rfl
    | leaf ps => exact seq_if1r (by simp -implicitDefEqProofs (disch := first | assumption | omega | (simp only [List.length_map, rngN_len, sortI_len]; omega)) only [ev_asL, ev_lc, ev_rg1', ev_call, ev_cons, ev_nil, ev_op, ev_c, ev_bvar, ev_var, List.getElem?_cons_succ, List.getElem?_cons_zero, Option.bind_some, Option.map_some, slB_val, slV_val, slB_own, gLen_l, gLen_t, gLen_iT, List.length_map, rgA_1, rgO_ok, lim_ok, rngN_len, if_true, fltE_map, mapME_map, ev_gNm, ev_tYes, wipe_cons, wipe_nil, List.set_cons_succ, List.set_cons_zero, fltE_yes, fltE_p, fltP_some, fltE_rg, fltRg_p, fltRg_yes, fltRp_some, mapME_rg, mapRg_some, ev_iseq, itemsD_l, itemsD_t, mapME_some, gIx_lm, gIx_tm, Int.toNat_natCast, gAdd_i, gSub_i, map_i, ev_un, ev_asB, ev_asT, ev_not, ev_and, ev_or, ev_eif, ev_fcall, blD_bl, gEq_i, gNe_i, gLt_i, gLe_i, gGt_i, gGe_i, gNeg_i, truD_bl, ev_fn, gTuple_l, gTuple_t, gMod_i, gDiv_i, gMul_l, gMul_r, gMaxA_l', gMinA_l', gMaxA_t', gMinA_t', gSortA_l', sortI_len, gIx_last, truD_lm, truD_tm, ev_m1, gIndex_i, ev_oNo, ev_oYes, intO_i, ev_sl, gSl_l, gSl_t, cutD_map, gInt_i, gInt_b, gAbs_i, gSum_l, gSum_t, ev_isi, ev_eand, ev_eor, ev_enot, gIn_il, gIn_it, gNotIn_il, gNotIn_it, gIs_n, gIsNot_n, isNon_n, isNon_t, isNon_l, isNon_i, isNon_b, ev_tup, ev_lst, limT_0, mkL_0, limT_1, mkL_1, limT_2, mkL_2, limT_3, mkL_3, limT_4, mkL_4, limT_5, mkL_5, limT_6, mkL_6, limT_7, mkL_7, limT_8, mkL_8, gAdd_ll, gAdd_tt, gMax2_i, gMin2_i, gIx_p0, gIx_p1, ev_rev, cutD_take, cutD_drop, gSortA_pair, some_or, some_and, bl_or, bl_and, gIx_t0, gIx_l0, gIx_t1, gIx_l1, gIx_t2, gIx_l2, gIx_t3, gIx_l3, gIx_t4, gIx_l4, gIx_t5, gIx_l5, hs, ST.isNode, Bool.not_false]; first | done | exact rfl) rfl
theorem run_ldepth : ∀ (f : Nat) (t : ST), t.ht ≤ f → run_l_depth f [t.d] = some (.int t.depth)
  | 0, t, h => by
    have : 1 ≤ t.ht := by cases t <;> simp [ST.ht]
    omega
  | f + 1, t, hf => by
    show runC 1 0 (b_l_depth (run_l_depth f)) _ = _
    have hs := run_lleaf t
    refine runC_rt rfl ?_
    simp only [List.map_cons, List.map_nil, List.replicate, List.cons_append, List.nil_append, List.set_cons_succ, List.set_cons_zero]
    cases t with
    | node a v l h =>
      have hf : 1 + max l.ht h.ht ≤ f + 1 := hf
      have i1 := run_ldepth f l (by omega)
      have i2 := run_ldepth f h (by omega)
      refine seq_if0 (by simp -implicitDefEqProofs (disch := first | assumption | omega | (simp only [List.length_map, rngN_len, sortI_len]; omega)) only [ev_asL, ev_lc, ev_rg1', ev_call, ev_cons, ev_nil, ev_op, ev_c, ev_bvar, ev_var, List.getElem?_cons_succ, List.getElem?_cons_zero, Option.bind_some, Option.map_some, slB_val, slV_val, slB_own, gLen_l, gLen_t, gLen_iT, List.length_map, rgA_1, rgO_ok, lim_ok, rngN_len, if_true, fltE_map, mapME_map, ev_gNm, ev_tYes, wipe_cons, wipe_nil, List.set_cons_succ, List.set_cons_zero, fltE_yes, fltE_p, fltP_some, fltE_rg, fltRg_p, fltRg_yes, fltRp_some, mapME_rg, mapRg_some, ev_iseq, itemsD_l, itemsD_t, mapME_some, gIx_lm, gIx_tm, Int.toNat_natCast, gAdd_i, gSub_i, map_i, ev_un, ev_asB, ev_asT, ev_not, ev_and, ev_or, ev_eif, ev_fcall, blD_bl, gEq_i, gNe_i, gLt_i, gLe_i, gGt_i, gGe_i, gNeg_i, truD_bl, ev_fn, gTuple_l, gTuple_t, gMod_i, gDiv_i, gMul_l, gMul_r, gMaxA_l', gMinA_l', gMaxA_t', gMinA_t', gSortA_l', sortI_len, gIx_last, truD_lm, truD_tm, ev_m1, gIndex_i, ev_oNo, ev_oYes, intO_i, ev_sl, gSl_l, gSl_t, cutD_map, gInt_i, gInt_b, gAbs_i, gSum_l, gSum_t, ev_isi, ev_eand, ev_eor, ev_enot, gIn_il, gIn_it, gNotIn_il, gNotIn_it, gIs_n, gIsNot_n, isNon_n, isNon_t, isNon_l, isNon_i, isNon_b, ev_tup, ev_lst, limT_0, mkL_0, limT_1, mkL_1, limT_2, mkL_2, limT_3, mkL_3, limT_4, mkL_4, limT_5, mkL_5, limT_6, mkL_6, limT_7, mkL_7, limT_8, mkL_8, gAdd_ll, gAdd_tt, gMax2_i, gMin2_i, gIx_p0, gIx_p1, ev_rev, cutD_take, cutD_drop, gSortA_pair, some_or, some_and, bl_or, bl_and, gIx_t0, gIx_l0, gIx_t1, gIx_l1, gIx_t2, gIx_l2, gIx_t3, gIx_l3, gIx_t4, gIx_l4, gIx_t5, gIx_l5, hs, ST.isNode, Bool.not_true]; first | done | exact rfl) (run_ret ?_)
      simp -implicitDefEqProofs (disch := first | assumption | omega | (simp only [List.length_map, rngN_len, sortI_len]; omega)) only [ev_asL, ev_lc, ev_rg1', ev_call, ev_cons, ev_nil, ev_op, ev_c, ev_bvar, ev_var, List.getElem?_cons_succ, List.getElem?_cons_zero, Option.bind_some, Option.map_some, slB_val, slV_val, slB_own, gLen_l, gLen_t, gLen_iT, List.length_map, rgA_1, rgO_ok, lim_ok, rngN_len, if_true, fltE_map, mapME_map, ev_gNm, ev_tYes, wipe_cons, wipe_nil, List.set_cons_succ, List.set_cons_zero, fltE_yes, fltE_p, fltP_some, fltE_rg, fltRg_p, fltRg_yes, fltRp_some, mapME_rg, mapRg_some, ev_iseq, itemsD_l, itemsD_t, mapME_some, gIx_lm, gIx_tm, Int.toNat_natCast, gAdd_i, gSub_i, map_i, ev_un, ev_asB, ev_asT, ev_not, ev_and, ev_or, ev_eif, ev_fcall, blD_bl, gEq_i, gNe_i, gLt_i, gLe_i, gGt_i, gGe_i, gNeg_i, truD_bl, ev_fn, gTuple_l, gTuple_t, gMod_i, gDiv_i, gMul_l, gMul_r, gMaxA_l', gMinA_l', gMaxA_t', gMinA_t', gSortA_l', sortI_len, gIx_last, truD_lm, truD_tm, ev_m1, gIndex_i, ev_oNo, ev_oYes, intO_i, ev_sl, gSl_l, gSl_t, cutD_map, gInt_i, gInt_b, gAbs_i, gSum_l, gSum_t, ev_isi, ev_eand, ev_eor, ev_enot, gIn_il, gIn_it, gNotIn_il, gNotIn_it, gIs_n, gIsNot_n, isNon_n, isNon_t, isNon_l, isNon_i, isNon_b, ev_tup, ev_lst, limT_0, mkL_0, limT_1, mkL_1, limT_2, mkL_2, limT_3, mkL_3, limT_4, mkL_4, limT_5, mkL_5, limT_6, mkL_6, limT_7, mkL_7, limT_8, mkL_8, gAdd_ll, gAdd_tt, gMax2_i, gMin2_i, gIx_p0, gIx_p1, ev_rev, cutD_take, cutD_drop, gSortA_pair, some_or, some_and, bl_or, bl_and, gIx_t0, gIx_l0, gIx_t1, gIx_l1, gIx_t2, gIx_l2, gIx_t3, gIx_l3, gIx_t4, gIx_l4, gIx_t5, gIx_l5, ST.d, i1, i2]
      rfl
    | non => exact seq_if1r (by simp -implicitDefEqProofs (disch := first | assumption | omega | (simp only [List.length_map, rngN_len, sortI_len]; omega)) only [ev_asL, ev_lc, ev_rg1', ev_call, ev_cons, ev_nil, ev_op, ev_c, ev_bvar, ev_var, List.getElem?_cons_succ, List.getElem?_cons_zero, Option.bind_some, Option.map_some, slB_val, slV_val, slB_own, gLen_l, gLen_t, gLen_iT, List.length_map, rgA_1, rgO_ok, lim_ok, rngN_len, if_true, fltE_map, mapME_map, ev_gNm, ev_tYes, wipe_cons, wipe_nil, List.set_cons_succ, List.set_cons_zero, fltE_yes, fltE_p, fltP_some, fltE_rg, fltRg_p, fltRg_yes, fltRp_some, mapME_rg, mapRg_some, ev_iseq, itemsD_l, itemsD_t, mapME_some, gIx_lm, gIx_tm, Int.toNat_natCast, gAdd_i, gSub_i, map_i, ev_un, ev_asB, ev_asT, ev_not, ev_and, ev_or, ev_eif, ev_fcall, blD_bl, gEq_i, gNe_i, gLt_i, gLe_i, gGt_i, gGe_i, gNeg_i, truD_bl, ev_fn, gTuple_l, gTuple_t, gMod_i, gDiv_i, gMul_l, gMul_r, gMaxA_l', gMinA_l', gMaxA_t', gMinA_t', gSortA_l', sortI_len, gIx_last, truD_lm, truD_tm, ev_m1, gIndex_i, ev_oNo, ev_oYes, intO_i, ev_sl, gSl_l, gSl_t, cutD_map, gInt_i, gInt_b, gAbs_i, gSum_l, gSum_t, ev_isi, ev_eand, ev_eor, ev_enot, gIn_il, gIn_it, gNotIn_il, gNotIn_it, gIs_n, gIsNot_n, isNon_n, isNon_t, isNon_l, isNon_i, isNon_b, ev_tup, ev_lst, limT_0, mkL_0, limT_1, mkL_1, limT_2, mkL_2, limT_3, mkL_3, limT_4, mkL_4, limT_5, mkL_5, limT_6, mkL_6, limT_7, mkL_7, limT_8, mkL_8, gAdd_ll, gAdd_tt, gMax2_i, gMin2_i, gIx_p0, gIx_p1, ev_rev, cutD_take, cutD_drop, gSortA_pair, some_or, some_and, bl_or, bl_and, gIx_t0, gIx_l0, gIx_t1, gIx_l1, gIx_t2, gIx_l2, gIx_t3, gIx_l3, gIx_t4, gIx_l4, gIx_t5, gIx_l5, hs, ST.isNode, Bool.not_false]; first | done | exact rfl) rfl
    | leaf ps => exact seq_if1r (by simp -implicitDefEqProofs (disch := first | assumption | omega | (simp only [List.length_map, rngN_len, sortI_len]; omega)) only [ev_asL, ev_lc, ev_rg1', ev_call, ev_cons, ev_nil, ev_op, ev_c, ev_bvar, ev_var, List.getElem?_cons_succ, List.getElem?_cons_zero, Option.bind_some, Option.map_some, slB_val, slV_val, slB_own, gLen_l, gLen_t, gLen_iT, List.length_map, rgA_1, rgO_ok, lim_ok, rngN_len, if_true, fltE_map, mapME_map, ev_gNm, ev_tYes, wipe_cons, wipe_nil, List.set_cons_succ, List.set_cons_zero, fltE_yes, fltE_p, fltP_some, fltE_rg, fltRg_p, fltRg_yes, fltRp_some, mapME_rg, mapRg_some, ev_iseq, itemsD_l, itemsD_t, mapME_some, gIx_lm, gIx_tm, Int.toNat_natCast, gAdd_i, gSub_i, map_i, ev_un, ev_asB, ev_asT, ev_not, ev_and, ev_or, ev_eif, ev_fcall, blD_bl, gEq_i, gNe_i, gLt_i, gLe_i, gGt_i, gGe_i, gNeg_i, truD_bl, ev_fn, gTuple_l, gTuple_t, gMod_i, gDiv_i, gMul_l, gMul_r, gMaxA_l', gMinA_l', gMaxA_t', gMinA_t', gSortA_l', sortI_len, gIx_last, truD_lm, truD_tm, ev_m1, gIndex_i, ev_oNo, ev_oYes, intO_i, ev_sl, gSl_l, gSl_t, cutD_map, gInt_i, gInt_b, gAbs_i, gSum_l, gSum_t, ev_isi, ev_eand, ev_eor, ev_enot, gIn_il, gIn_it, gNotIn_il, gNotIn_it, gIs_n, gIsNot_n, isNon_n, isNon_t, isNon_l, isNon_i, isNon_b, ev_tup, ev_lst, limT_0, mkL_0, limT_1, mkL_1, limT_2, mkL_2, limT_3, mkL_3, limT_4, mkL_4, limT_5, mkL_5, limT_6, mkL_6, limT_7, mkL_7, limT_8, mkL_8, gAdd_ll, gAdd_tt, gMax2_i, gMin2_i, gIx_p0, gIx_p1, ev_rev, cutD_take, cutD_drop, gSortA_pair, some_or, some_and, bl_or, bl_and, gIx_t0, gIx_l0, gIx_t1, gIx_l1, gIx_t2, gIx_l2, gIx_t3, gIx_l3, gIx_t4, gIx_l4, gIx_t5, gIx_l5, hs, ST.isNode, Bool.not_false]; first | done | exact rfl) rfl
/-! going down -/
def pairs (dist : Int → Int) (ps : List Int) : List (Int × Int) := ps.map fun p => (dist p, p)
def down (vec : List Int) (dist gapf : Int → Int) (k : Nat) : ST → List (Int × Int) → List (Int × Int) × Int
  | .non, fd => (fd, 0)
  | .leaf ps, fd => (topk k (fd ++ pairs dist ps), ps.length)
  | .node a v l h, fd =>
    if nth vec a ≤ v then
      let r := down vec dist gapf k l fd
      if r.1.length = k ∧ (nth r.1 ((k : Int) - 1)).1 < gapf (nth vec a - (v + 1)) then r else
      let s := down vec dist gapf k h r.1
      (s.1, r.2 + s.2)
    else
      let r := down vec dist gapf k h fd
      if r.1.length = k ∧ (nth r.1 ((k : Int) - 1)).1 < gapf (nth vec a - v) then r else
      let s := down vec dist gapf k l r.1
      (s.1, r.2 + s.2)
theorem down_len {vec : List Int} {dist gapf : Int → Int} {k : Nat} : ∀ (t : ST) (fd : List (Int × Int)), fd.length ≤ k → (down vec dist gapf k t fd).1.length ≤ k
  | .non, fd, h => h
  | .leaf ps, fd, h => topk_len
  | .node a v l h, fd, hk => by
    unfold down
    split
    · have i1 := down_len (vec := vec) (dist := dist) (gapf := gapf) l fd hk
      dsimp only
      split
      · exact i1
      · exact down_len h _ i1
    · have i1 := down_len (vec := vec) (dist := dist) (gapf := gapf) h fd hk
      dsimp only
      split
      · exact i1
      · exact down_len l _ i1
/-- what a tree must be, for the run -/
def ST.ok (n m : Nat) : ST → Prop
  | .non => True
  | .leaf ps => ps.length ≤ 1000 ∧ ∀ p ∈ ps, 0 ≤ p ∧ p < (m : Int)
  | .node a v l h => 0 ≤ a ∧ a < (n : Int) ∧ (-1000 ≤ v ∧ v ≤ 1000) ∧ l.ok n m ∧ h.ok n m
def resD (r : List (Int × Int) × Int) : D := .tup [.lst (r.1.map pairD), .int r.2]
theorem run_with (fd ps : List (Int × Int)) (k : Nat) (hk : fd.length + ps.length ≤ 16777216) : run_with_pairs [.lst (fd.map pairD), .lst (ps.map pairD), .int k] = some (.lst ((topk k (fd ++ ps)).map pairD)) := by
  refine runC_rt rfl (run_ret ?_)
  simp only [List.map_cons, List.map_nil, List.replicate, List.cons_append, List.nil_append, List.set_cons_succ, List.set_cons_zero]
  simp -implicitDefEqProofs (disch := first | assumption | omega | (simp only [List.length_map, rngN_len, sortI_len]; omega)) only [ev_asL, ev_lc, ev_rg1', ev_call, ev_cons, ev_nil, ev_op, ev_c, ev_bvar, ev_var, List.getElem?_cons_succ, List.getElem?_cons_zero, Option.bind_some, Option.map_some, slB_val, slV_val, slB_own, gLen_l, gLen_t, gLen_iT, List.length_map, rgA_1, rgO_ok, lim_ok, rngN_len, if_true, fltE_map, mapME_map, ev_gNm, ev_tYes, wipe_cons, wipe_nil, List.set_cons_succ, List.set_cons_zero, fltE_yes, fltE_p, fltP_some, fltE_rg, fltRg_p, fltRg_yes, fltRp_some, mapME_rg, mapRg_some, ev_iseq, itemsD_l, itemsD_t, mapME_some, gIx_lm, gIx_tm, Int.toNat_natCast, gAdd_i, gSub_i, map_i, ev_un, ev_asB, ev_asT, ev_not, ev_and, ev_or, ev_eif, ev_fcall, blD_bl, gEq_i, gNe_i, gLt_i, gLe_i, gGt_i, gGe_i, gNeg_i, truD_bl, ev_fn, gTuple_l, gTuple_t, gMod_i, gDiv_i, gMul_l, gMul_r, gMaxA_l', gMinA_l', gMaxA_t', gMinA_t', gSortA_l', sortI_len, gIx_last, truD_lm, truD_tm, ev_m1, gIndex_i, ev_oNo, ev_oYes, intO_i, ev_sl, gSl_l, gSl_t, cutD_map, gInt_i, gInt_b, gAbs_i, gSum_l, gSum_t, ev_isi, ev_eand, ev_eor, ev_enot, gIn_il, gIn_it, gNotIn_il, gNotIn_it, gIs_n, gIsNot_n, isNon_n, isNon_t, isNon_l, isNon_i, isNon_b, ev_tup, ev_lst, limT_0, mkL_0, limT_1, mkL_1, limT_2, mkL_2, limT_3, mkL_3, limT_4, mkL_4, limT_5, mkL_5, limT_6, mkL_6, limT_7, mkL_7, limT_8, mkL_8, gAdd_ll, gAdd_tt, gMax2_i, gMin2_i, gIx_p0, gIx_p1, ev_rev, cutD_take, cutD_drop, gSortA_pair, some_or, some_and, bl_or, bl_and, gIx_t0, gIx_l0, gIx_t1, gIx_l1, gIx_t2, gIx_l2, gIx_t3, gIx_l3, gIx_t4, gIx_l4, gIx_t5, gIx_l5, ← List.map_take]
  rfl
end K06

set_option Elab.async false
set_option linter.all false
set_option maxRecDepth 100000
set_option maxHeartbeats 4000000
namespace K06
open PySem L2 PD
def isAir (W : Way) : Bool := decide (W.nm = "air")
def gapW (W : Way) (x : Int) : Int := if isAir W = true then x * x else absI x
theorem run_gap (W : Way) (x : Int) (h : -1000000 ≤ x ∧ x ≤ 1000000) : run_axis_gap [W.d, .int x] = some (.int (gapW W x)) := by
  refine runC_rt rfl (run_ret ?_)
  simp only [List.map_cons, List.map_nil, List.replicate, List.cons_append, List.nil_append, List.set_cons_succ, List.set_cons_zero]
  have t := way_is W "air" (by decide)
  simp -implicitDefEqProofs (disch := first | assumption | omega | (simp only [List.length_map, rngN_len, sortI_len]; omega)) only [ev_asL, ev_lc, ev_rg1', ev_call, ev_cons, ev_nil, ev_op, ev_c, ev_bvar, ev_var, List.getElem?_cons_succ, List.getElem?_cons_zero, Option.bind_some, Option.map_some, slB_val, slV_val, slB_own, gLen_l, gLen_t, gLen_iT, List.length_map, rgA_1, rgO_ok, lim_ok, rngN_len, if_true, fltE_map, mapME_map, ev_gNm, ev_tYes, wipe_cons, wipe_nil, List.set_cons_succ, List.set_cons_zero, fltE_yes, fltE_p, fltP_some, fltE_rg, fltRg_p, fltRg_yes, fltRp_some, mapME_rg, mapRg_some, ev_iseq, itemsD_l, itemsD_t, mapME_some, gIx_lm, gIx_tm, Int.toNat_natCast, gAdd_i, gSub_i, map_i, ev_un, ev_asB, ev_asT, ev_not, ev_and, ev_or, ev_eif, ev_fcall, blD_bl, gEq_i, gNe_i, gLt_i, gLe_i, gGt_i, gGe_i, gNeg_i, truD_bl, ev_fn, gTuple_l, gTuple_t, gMod_i, gDiv_i, gMul_l, gMul_r, gMaxA_l', gMinA_l', gMaxA_t', gMinA_t', gSortA_l', sortI_len, gIx_last, truD_lm, truD_tm, ev_m1, gIndex_i, ev_oNo, ev_oYes, intO_i, ev_sl, gSl_l, gSl_t, cutD_map, gInt_i, gInt_b, gAbs_i, gSum_l, gSum_t, ev_isi, ev_eand, ev_eor, ev_enot, gIn_il, gIn_it, gNotIn_il, gNotIn_it, gIs_n, gIsNot_n, isNon_n, isNon_t, isNon_l, isNon_i, isNon_b, ev_tup, ev_lst, limT_0, mkL_0, limT_1, mkL_1, limT_2, mkL_2, limT_3, mkL_3, limT_4, mkL_4, limT_5, mkL_5, limT_6, mkL_6, limT_7, mkL_7, limT_8, mkL_8, gAdd_ll, gAdd_tt, gMax2_i, gMin2_i, gIx_p0, gIx_p1, ev_rev, cutD_take, cutD_drop, gSortA_pair, some_or, some_and, bl_or, bl_and, gIx_t0, gIx_l0, gIx_t1, gIx_l1, gIx_t2, gIx_l2, gIx_t3, gIx_l3, gIx_t4, gIx_l4, gIx_t5, gIx_l5, t]
  unfold gapW isAir absI
  by_cases hc : W.nm = "air" <;> simp [hc]
theorem gAbsI {x : Int} : gAbs [.int x] = some (.int (absI x)) := gAbs_i
structure Wd (n : Nat) (vs : List (List Int)) (vec : List Int) (W : Way) (dist : Int → Int) : Prop where
  n0 : 0 < n
  ln : vec.length = n
  sm : ∀ x ∈ vec, -1000 ≤ x ∧ x ≤ 1000
  fr : ∀ p, 0 ≤ p → p < (vs.length : Int) → run_far [W.d, intT vec, intT (nth vs p)] = some (.int (dist p))
  lf : ∀ p, 0 ≤ p → p < (vs.length : Int) → run_l_far [W.d, intT vec, intT (nth vs p)] = some (.int (dist p))
def tailG (rec : List D → Option D) : Cmd :=
    (sSeq (sIf (tAndF (asB (eOp gGe (eCall gLen (aCons (bVar 5) aNil)) (bVar 4))) (tOrF (asB (eOp gEq (bVar 4) (eC (.int 0)))) (asB (eOp gGt (bVar 13) (eOp gIx (eOp gIx (bVar 5) (eUn gNeg (eC (.int 1)))) (eC (.int 0)))))))
    (sRet (eTup (aCons (eVar 5) (aCons (eVar 12) aNil))))
    sNop)
    (sSeq (sAsg (gTp (gsCons (gNm 5) (gsCons (gNm 14) gsNil))) (eFn rec (aCons (eVar 0) (aCons (eOp gIx (eOp gIx (bVar 11) (eC (.int 1))) (eC (.int 0))) (aCons (eVar 2) (aCons (eVar 3) (aCons (eVar 4) (aCons (eVar 5) aNil))))))))
    (sRet (eTup (aCons (eVar 5) (aCons (eOp gAdd (bVar 12) (bVar 14)) aNil))))))
theorem tailG_ok (rec : List D → Option D) (k : Nat) (hk0 : 0 < k) (r s : List (Int × Int) × Int) (g : Int) (cl ve wy od sd c : D) (x1 x6 x7 x8 x9 x10 x14 x15 : Sl) (hl : r.1.length ≤ k) (hr : rec [cl, od, ve, wy, .int k, .lst (r.1.map pairD)] = some (resD s)) :
    tailG rec [.val cl, x1, .val ve, .val wy, .val (.int k), .val (.lst (r.1.map pairD)), x6, x7, x8, x9, x10, .val (.lst [sd, .tup [od, c]]), .val (.int r.2), .val (.int g), x14, x15] = some (.rt (resD (if r.1.length = k ∧ (nth r.1 ((k : Int) - 1)).1 < g then r else (s.1, r.2 + s.2)))) := by
  have key : ∀ b : Bool, (tAndF (asB (eOp gGe (eCall gLen (aCons (bVar 5) aNil)) (bVar 4))) (tOrF (asB (eOp gEq (bVar 4) (eC (.int 0)))) (asB (eOp gGt (bVar 13) (eOp gIx (eOp gIx (bVar 5) (eUn gNeg (eC (.int 1)))) (eC (.int 0))))))) [.val cl, x1, .val ve, .val wy, .val (.int k), .val (.lst (r.1.map pairD)), x6, x7, x8, x9, x10, .val (.lst [sd, .tup [od, c]]), .val (.int r.2), .val (.int g), x14, x15] = some b → b = decide (r.1.length = k ∧ (nth r.1 ((k : Int) - 1)).1 < g) →
      tailG rec [.val cl, x1, .val ve, .val wy, .val (.int k), .val (.lst (r.1.map pairD)), x6, x7, x8, x9, x10, .val (.lst [sd, .tup [od, c]]), .val (.int r.2), .val (.int g), x14, x15] = some (.rt (resD (if r.1.length = k ∧ (nth r.1 ((k : Int) - 1)).1 < g then r else (s.1, r.2 + s.2)))) := fun b h hb => by
    subst hb
    refine seq_ifk h (fun h => ?_) (fun h => ?_)
    · rw [if_pos (of_decide_eq_true h)]
      refine seq_ret ?_
      simp -implicitDefEqProofs (disch := first | assumption | omega | (simp only [List.length_map, rngN_len, sortI_len]; omega)) only [ev_asL, ev_lc, ev_rg1', ev_call, ev_cons, ev_nil, ev_op, ev_c, ev_bvar, ev_var, List.getElem?_cons_succ, List.getElem?_cons_zero, Option.bind_some, Option.map_some, slB_val, slV_val, slB_own, gLen_l, gLen_t, gLen_iT, List.length_map, rgA_1, rgO_ok, lim_ok, rngN_len, if_true, fltE_map, mapME_map, ev_gNm, ev_tYes, wipe_cons, wipe_nil, List.set_cons_succ, List.set_cons_zero, fltE_yes, fltE_p, fltP_some, fltE_rg, fltRg_p, fltRg_yes, fltRp_some, mapME_rg, mapRg_some, ev_iseq, itemsD_l, itemsD_t, mapME_some, gIx_lm, gIx_tm, Int.toNat_natCast, gAdd_i, gSub_i, map_i, ev_un, ev_asB, ev_asT, ev_not, ev_and, ev_or, ev_eif, ev_fcall, blD_bl, gEq_i, gNe_i, gLt_i, gLe_i, gGt_i, gGe_i, gNeg_i, truD_bl, ev_fn, gTuple_l, gTuple_t, gMod_i, gDiv_i, gMul_l, gMul_r, gMaxA_l', gMinA_l', gMaxA_t', gMinA_t', gSortA_l', sortI_len, gIx_last, truD_lm, truD_tm, ev_m1, gIndex_i, ev_oNo, ev_oYes, intO_i, ev_sl, gSl_l, gSl_t, cutD_map, gInt_i, gInt_b, gAbs_i, gSum_l, gSum_t, ev_isi, ev_eand, ev_eor, ev_enot, gIn_il, gIn_it, gNotIn_il, gNotIn_it, gIs_n, gIsNot_n, isNon_n, isNon_t, isNon_l, isNon_i, isNon_b, ev_tup, ev_lst, limT_0, mkL_0, limT_1, mkL_1, limT_2, mkL_2, limT_3, mkL_3, limT_4, mkL_4, limT_5, mkL_5, limT_6, mkL_6, limT_7, mkL_7, limT_8, mkL_8, gAdd_ll, gAdd_tt, gMax2_i, gMin2_i, gIx_p0, gIx_p1, ev_rev, cutD_take, cutD_drop, gSortA_pair, some_or, some_and, bl_or, bl_and, gIx_t0, gIx_l0, gIx_t1, gIx_l1, gIx_t2, gIx_l2, gIx_t3, gIx_l3, gIx_t4, gIx_l4, gIx_t5, gIx_l5]
      first | done | exact rfl
    · rw [if_neg (of_decide_eq_false h), seq_nop]
      refine seq_asg (d := resD s) (by
        simp -implicitDefEqProofs (disch := first | assumption | omega | (simp only [List.length_map, rngN_len, sortI_len]; omega)) only [ev_asL, ev_lc, ev_rg1', ev_call, ev_cons, ev_nil, ev_op, ev_c, ev_bvar, ev_var, List.getElem?_cons_succ, List.getElem?_cons_zero, Option.bind_some, Option.map_some, slB_val, slV_val, slB_own, gLen_l, gLen_t, gLen_iT, List.length_map, rgA_1, rgO_ok, lim_ok, rngN_len, if_true, fltE_map, mapME_map, ev_gNm, ev_tYes, wipe_cons, wipe_nil, List.set_cons_succ, List.set_cons_zero, fltE_yes, fltE_p, fltP_some, fltE_rg, fltRg_p, fltRg_yes, fltRp_some, mapME_rg, mapRg_some, ev_iseq, itemsD_l, itemsD_t, mapME_some, gIx_lm, gIx_tm, Int.toNat_natCast, gAdd_i, gSub_i, map_i, ev_un, ev_asB, ev_asT, ev_not, ev_and, ev_or, ev_eif, ev_fcall, blD_bl, gEq_i, gNe_i, gLt_i, gLe_i, gGt_i, gGe_i, gNeg_i, truD_bl, ev_fn, gTuple_l, gTuple_t, gMod_i, gDiv_i, gMul_l, gMul_r, gMaxA_l', gMinA_l', gMaxA_t', gMinA_t', gSortA_l', sortI_len, gIx_last, truD_lm, truD_tm, ev_m1, gIndex_i, ev_oNo, ev_oYes, intO_i, ev_sl, gSl_l, gSl_t, cutD_map, gInt_i, gInt_b, gAbs_i, gSum_l, gSum_t, ev_isi, ev_eand, ev_eor, ev_enot, gIn_il, gIn_it, gNotIn_il, gNotIn_it, gIs_n, gIsNot_n, isNon_n, isNon_t, isNon_l, isNon_i, isNon_b, ev_tup, ev_lst, limT_0, mkL_0, limT_1, mkL_1, limT_2, mkL_2, limT_3, mkL_3, limT_4, mkL_4, limT_5, mkL_5, limT_6, mkL_6, limT_7, mkL_7, limT_8, mkL_8, gAdd_ll, gAdd_tt, gMax2_i, gMin2_i, gIx_p0, gIx_p1, ev_rev, cutD_take, cutD_drop, gSortA_pair, some_or, some_and, bl_or, bl_and, gIx_t0, gIx_l0, gIx_t1, gIx_l1, gIx_t2, gIx_l2, gIx_t3, gIx_l3, gIx_t4, gIx_l4, gIx_t5, gIx_l5, hr]
        first | done | exact rfl) rfl ?_
      simp only [List.map_cons, List.map_nil, List.replicate, List.cons_append, List.nil_append, List.set_cons_succ, List.set_cons_zero]
      refine run_ret ?_
      simp -implicitDefEqProofs (disch := first | assumption | omega | (simp only [List.length_map, rngN_len, sortI_len]; omega)) only [ev_asL, ev_lc, ev_rg1', ev_call, ev_cons, ev_nil, ev_op, ev_c, ev_bvar, ev_var, List.getElem?_cons_succ, List.getElem?_cons_zero, Option.bind_some, Option.map_some, slB_val, slV_val, slB_own, gLen_l, gLen_t, gLen_iT, List.length_map, rgA_1, rgO_ok, lim_ok, rngN_len, if_true, fltE_map, mapME_map, ev_gNm, ev_tYes, wipe_cons, wipe_nil, List.set_cons_succ, List.set_cons_zero, fltE_yes, fltE_p, fltP_some, fltE_rg, fltRg_p, fltRg_yes, fltRp_some, mapME_rg, mapRg_some, ev_iseq, itemsD_l, itemsD_t, mapME_some, gIx_lm, gIx_tm, Int.toNat_natCast, gAdd_i, gSub_i, map_i, ev_un, ev_asB, ev_asT, ev_not, ev_and, ev_or, ev_eif, ev_fcall, blD_bl, gEq_i, gNe_i, gLt_i, gLe_i, gGt_i, gGe_i, gNeg_i, truD_bl, ev_fn, gTuple_l, gTuple_t, gMod_i, gDiv_i, gMul_l, gMul_r, gMaxA_l', gMinA_l', gMaxA_t', gMinA_t', gSortA_l', sortI_len, gIx_last, truD_lm, truD_tm, ev_m1, gIndex_i, ev_oNo, ev_oYes, intO_i, ev_sl, gSl_l, gSl_t, cutD_map, gInt_i, gInt_b, gAbs_i, gSum_l, gSum_t, ev_isi, ev_eand, ev_eor, ev_enot, gIn_il, gIn_it, gNotIn_il, gNotIn_it, gIs_n, gIsNot_n, isNon_n, isNon_t, isNon_l, isNon_i, isNon_b, ev_tup, ev_lst, limT_0, mkL_0, limT_1, mkL_1, limT_2, mkL_2, limT_3, mkL_3, limT_4, mkL_4, limT_5, mkL_5, limT_6, mkL_6, limT_7, mkL_7, limT_8, mkL_8, gAdd_ll, gAdd_tt, gMax2_i, gMin2_i, gIx_p0, gIx_p1, ev_rev, cutD_take, cutD_drop, gSortA_pair, some_or, some_and, bl_or, bl_and, gIx_t0, gIx_l0, gIx_t1, gIx_l1, gIx_t2, gIx_l2, gIx_t3, gIx_l3, gIx_t4, gIx_l4, gIx_t5, gIx_l5]
      rfl
  by_cases h1 : r.1.length = k
  · refine key _ (by
      simp -implicitDefEqProofs (disch := first | assumption | omega | (simp only [List.length_map, rngN_len, sortI_len]; omega)) only [ev_asL, ev_lc, ev_rg1', ev_call, ev_cons, ev_nil, ev_op, ev_c, ev_bvar, ev_var, List.getElem?_cons_succ, List.getElem?_cons_zero, Option.bind_some, Option.map_some, slB_val, slV_val, slB_own, gLen_l, gLen_t, gLen_iT, List.length_map, rgA_1, rgO_ok, lim_ok, rngN_len, if_true, fltE_map, mapME_map, ev_gNm, ev_tYes, wipe_cons, wipe_nil, List.set_cons_succ, List.set_cons_zero, fltE_yes, fltE_p, fltP_some, fltE_rg, fltRg_p, fltRg_yes, fltRp_some, mapME_rg, mapRg_some, ev_iseq, itemsD_l, itemsD_t, mapME_some, gIx_lm, gIx_tm, Int.toNat_natCast, gAdd_i, gSub_i, map_i, ev_un, ev_asB, ev_asT, ev_not, ev_and, ev_or, ev_eif, ev_fcall, blD_bl, gEq_i, gNe_i, gLt_i, gLe_i, gGt_i, gGe_i, gNeg_i, truD_bl, ev_fn, gTuple_l, gTuple_t, gMod_i, gDiv_i, gMul_l, gMul_r, gMaxA_l', gMinA_l', gMaxA_t', gMinA_t', gSortA_l', sortI_len, gIx_last, truD_lm, truD_tm, ev_m1, gIndex_i, ev_oNo, ev_oYes, intO_i, ev_sl, gSl_l, gSl_t, cutD_map, gInt_i, gInt_b, gAbs_i, gSum_l, gSum_t, ev_isi, ev_eand, ev_eor, ev_enot, gIn_il, gIn_it, gNotIn_il, gNotIn_it, gIs_n, gIsNot_n, isNon_n, isNon_t, isNon_l, isNon_i, isNon_b, ev_tup, ev_lst, limT_0, mkL_0, limT_1, mkL_1, limT_2, mkL_2, limT_3, mkL_3, limT_4, mkL_4, limT_5, mkL_5, limT_6, mkL_6, limT_7, mkL_7, limT_8, mkL_8, gAdd_ll, gAdd_tt, gMax2_i, gMin2_i, gIx_p0, gIx_p1, ev_rev, cutD_take, cutD_drop, gSortA_pair, some_or, some_and, bl_or, bl_and, gIx_t0, gIx_l0, gIx_t1, gIx_l1, gIx_t2, gIx_l2, gIx_t3, gIx_l3, gIx_t4, gIx_l4, gIx_t5, gIx_l5, h1, Int.le_refl, decide_true]
      first | done | exact rfl) ?_
    simp [h1]
    omega
  · refine key false (by
      have h2 : ¬ ((k : Int) ≤ r.1.length) := by omega
      simp -implicitDefEqProofs (disch := first | assumption | omega | (simp only [List.length_map, rngN_len, sortI_len]; omega)) only [ev_asL, ev_lc, ev_rg1', ev_call, ev_cons, ev_nil, ev_op, ev_c, ev_bvar, ev_var, List.getElem?_cons_succ, List.getElem?_cons_zero, Option.bind_some, Option.map_some, slB_val, slV_val, slB_own, gLen_l, gLen_t, gLen_iT, List.length_map, rgA_1, rgO_ok, lim_ok, rngN_len, if_true, fltE_map, mapME_map, ev_gNm, ev_tYes, wipe_cons, wipe_nil, List.set_cons_succ, List.set_cons_zero, fltE_yes, fltE_p, fltP_some, fltE_rg, fltRg_p, fltRg_yes, fltRp_some, mapME_rg, mapRg_some, ev_iseq, itemsD_l, itemsD_t, mapME_some, gIx_lm, gIx_tm, Int.toNat_natCast, gAdd_i, gSub_i, map_i, ev_un, ev_asB, ev_asT, ev_not, ev_and, ev_or, ev_eif, ev_fcall, blD_bl, gEq_i, gNe_i, gLt_i, gLe_i, gGt_i, gGe_i, gNeg_i, truD_bl, ev_fn, gTuple_l, gTuple_t, gMod_i, gDiv_i, gMul_l, gMul_r, gMaxA_l', gMinA_l', gMaxA_t', gMinA_t', gSortA_l', sortI_len, gIx_last, truD_lm, truD_tm, ev_m1, gIndex_i, ev_oNo, ev_oYes, intO_i, ev_sl, gSl_l, gSl_t, cutD_map, gInt_i, gInt_b, gAbs_i, gSum_l, gSum_t, ev_isi, ev_eand, ev_eor, ev_enot, gIn_il, gIn_it, gNotIn_il, gNotIn_it, gIs_n, gIsNot_n, isNon_n, isNon_t, isNon_l, isNon_i, isNon_b, ev_tup, ev_lst, limT_0, mkL_0, limT_1, mkL_1, limT_2, mkL_2, limT_3, mkL_3, limT_4, mkL_4, limT_5, mkL_5, limT_6, mkL_6, limT_7, mkL_7, limT_8, mkL_8, gAdd_ll, gAdd_tt, gMax2_i, gMin2_i, gIx_p0, gIx_p1, ev_rev, cutD_take, cutD_drop, gSortA_pair, some_or, some_and, bl_or, bl_and, gIx_t0, gIx_l0, gIx_t1, gIx_l1, gIx_t2, gIx_l2, gIx_t3, gIx_l3, gIx_t4, gIx_l4, gIx_t5, gIx_l5, decide_eq_false h2, Bool.false_eq_true, if_false]) ?_
    simp [h1]
theorem run_down {n : Nat} {vs : List (List Int)} {vec : List Int} {W : Way} {dist : Int → Int} (w : Wd n vs vec W dist) (k : Nat) (hk0 : 0 < k) (hk : k ≤ 1000) : ∀ (f : Nat) (t : ST) (fd : List (Int × Int)), t.ht ≤ f → t.ok n vs.length → fd.length ≤ k →
    run_go_down f [.tup (vs.map intT), t.d, intT vec, W.d, .int k, .lst (fd.map pairD)] = some (resD (down vec dist (gapW W) k t fd))
  | 0, t, fd, h, _, _ => by
    have : 1 ≤ t.ht := by cases t <;> simp [ST.ht]
    omega
  | f + 1, t, fd, hf, ht, hl => by
    have ih := run_down w k hk0 hk f
    show runC 6 10 (b_go_down (run_go_down f)) _ = _
    have hs := run_issp t
    refine runC_rt rfl ?_
    simp only [List.map_cons, List.map_nil, List.replicate, List.cons_append, List.nil_append, List.set_cons_succ, List.set_cons_zero]
    cases t with
    | non => exact seq_if1r rfl rfl
    | leaf ps =>
      obtain ⟨hz, hp⟩ := ht
      have hp' : ∀ p ∈ ps, gIx (.tup (vs.map intT)) (.int p) = some (intT (nth vs p)) := fun p h => gIx_tm (hp p h).1 (hp p h).2
      have hfr : ∀ p ∈ ps, run_far [W.d, intT vec, intT (nth vs p)] = some (.int (dist p)) := fun p h => w.fr p (hp p h).1 (hp p h).2
      have hw := run_with fd (pairs dist ps) k (by simp [pairs]; omega)
      refine seq_if0 rfl ?_
      have e : iSeq (bVar 1) [.val (.tup (vs.map intT)), .val (ST.leaf ps).d, .val (intT vec), .val W.d, .val (.int k), .val (.lst (fd.map pairD)), .un, .un, .un, .un, .un, .un, .un, .un, .un, .un] = some (ps.map D.int) := rfl
      refine seq_if1r (by simp -implicitDefEqProofs (disch := first | assumption | omega | (simp only [List.length_map, rngN_len, sortI_len]; omega)) only [ev_asL, ev_lc, ev_rg1', ev_call, ev_cons, ev_nil, ev_op, ev_c, ev_bvar, ev_var, List.getElem?_cons_succ, List.getElem?_cons_zero, Option.bind_some, Option.map_some, slB_val, slV_val, slB_own, gLen_l, gLen_t, gLen_iT, List.length_map, rgA_1, rgO_ok, lim_ok, rngN_len, if_true, fltE_map, mapME_map, ev_gNm, ev_tYes, wipe_cons, wipe_nil, List.set_cons_succ, List.set_cons_zero, fltE_yes, fltE_p, fltP_some, fltE_rg, fltRg_p, fltRg_yes, fltRp_some, mapME_rg, mapRg_some, ev_iseq, itemsD_l, itemsD_t, mapME_some, gIx_lm, gIx_tm, Int.toNat_natCast, gAdd_i, gSub_i, map_i, ev_un, ev_asB, ev_asT, ev_not, ev_and, ev_or, ev_eif, ev_fcall, blD_bl, gEq_i, gNe_i, gLt_i, gLe_i, gGt_i, gGe_i, gNeg_i, truD_bl, ev_fn, gTuple_l, gTuple_t, gMod_i, gDiv_i, gMul_l, gMul_r, gMaxA_l', gMinA_l', gMaxA_t', gMinA_t', gSortA_l', sortI_len, gIx_last, truD_lm, truD_tm, ev_m1, gIndex_i, ev_oNo, ev_oYes, intO_i, ev_sl, gSl_l, gSl_t, cutD_map, gInt_i, gInt_b, gAbs_i, gSum_l, gSum_t, ev_isi, ev_eand, ev_eor, ev_enot, gIn_il, gIn_it, gNotIn_il, gNotIn_it, gIs_n, gIsNot_n, isNon_n, isNon_t, isNon_l, isNon_i, isNon_b, ev_tup, ev_lst, limT_0, mkL_0, limT_1, mkL_1, limT_2, mkL_2, limT_3, mkL_3, limT_4, mkL_4, limT_5, mkL_5, limT_6, mkL_6, limT_7, mkL_7, limT_8, mkL_8, gAdd_ll, gAdd_tt, gMax2_i, gMin2_i, gIx_p0, gIx_p1, ev_rev, cutD_take, cutD_drop, gSortA_pair, some_or, some_and, bl_or, bl_and, gIx_t0, gIx_l0, gIx_t1, gIx_l1, gIx_t2, gIx_l2, gIx_t3, gIx_l3, gIx_t4, gIx_l4, gIx_t5, gIx_l5, hs, ST.isNode, Bool.not_false]; first | done | exact rfl) ?_
      refine seq_set (d := .lst ((pairs dist ps).map pairD)) (by
        simp only [ev_asL, ev_lc, e]
        simp -implicitDefEqProofs (disch := first | assumption | omega | (simp only [List.length_map, rngN_len, sortI_len]; omega)) only [ev_asL, ev_lc, ev_rg1', ev_call, ev_cons, ev_nil, ev_op, ev_c, ev_bvar, ev_var, List.getElem?_cons_succ, List.getElem?_cons_zero, Option.bind_some, Option.map_some, slB_val, slV_val, slB_own, gLen_l, gLen_t, gLen_iT, List.length_map, rgA_1, rgO_ok, lim_ok, rngN_len, if_true, fltE_map, mapME_map, ev_gNm, ev_tYes, wipe_cons, wipe_nil, List.set_cons_succ, List.set_cons_zero, fltE_yes, fltE_p, fltP_some, fltE_rg, fltRg_p, fltRg_yes, fltRp_some, mapME_rg, mapRg_some, ev_iseq, itemsD_l, itemsD_t, mapME_some, gIx_lm, gIx_tm, Int.toNat_natCast, gAdd_i, gSub_i, map_i, ev_un, ev_asB, ev_asT, ev_not, ev_and, ev_or, ev_eif, ev_fcall, blD_bl, gEq_i, gNe_i, gLt_i, gLe_i, gGt_i, gGe_i, gNeg_i, truD_bl, ev_fn, gTuple_l, gTuple_t, gMod_i, gDiv_i, gMul_l, gMul_r, gMaxA_l', gMinA_l', gMaxA_t', gMinA_t', gSortA_l', sortI_len, gIx_last, truD_lm, truD_tm, ev_m1, gIndex_i, ev_oNo, ev_oYes, intO_i, ev_sl, gSl_l, gSl_t, cutD_map, gInt_i, gInt_b, gAbs_i, gSum_l, gSum_t, ev_isi, ev_eand, ev_eor, ev_enot, gIn_il, gIn_it, gNotIn_il, gNotIn_it, gIs_n, gIsNot_n, isNon_n, isNon_t, isNon_l, isNon_i, isNon_b, ev_tup, ev_lst, limT_0, mkL_0, limT_1, mkL_1, limT_2, mkL_2, limT_3, mkL_3, limT_4, mkL_4, limT_5, mkL_5, limT_6, mkL_6, limT_7, mkL_7, limT_8, mkL_8, gAdd_ll, gAdd_tt, gMax2_i, gMin2_i, gIx_p0, gIx_p1, ev_rev, cutD_take, cutD_drop, gSortA_pair, some_or, some_and, bl_or, bl_and, gIx_t0, gIx_l0, gIx_t1, gIx_l1, gIx_t2, gIx_l2, gIx_t3, gIx_l3, gIx_t4, gIx_l4, gIx_t5, gIx_l5, hp', hfr]
        show some (D.lst _) = some (D.lst (List.map pairD (ps.map fun p => (dist p, p))))
        rw [List.map_map]
        rfl) ?_
      simp only [List.map_cons, List.map_nil, List.replicate, List.cons_append, List.nil_append, List.set_cons_succ, List.set_cons_zero]
      refine run_ret ?_
      have gl : gLen [(ST.leaf ps).d] = some (.int ps.length) := gLen_iT
      simp -implicitDefEqProofs (disch := first | assumption | omega | (simp only [List.length_map, rngN_len, sortI_len]; omega)) only [ev_asL, ev_lc, ev_rg1', ev_call, ev_cons, ev_nil, ev_op, ev_c, ev_bvar, ev_var, List.getElem?_cons_succ, List.getElem?_cons_zero, Option.bind_some, Option.map_some, slB_val, slV_val, slB_own, gLen_l, gLen_t, gLen_iT, List.length_map, rgA_1, rgO_ok, lim_ok, rngN_len, if_true, fltE_map, mapME_map, ev_gNm, ev_tYes, wipe_cons, wipe_nil, List.set_cons_succ, List.set_cons_zero, fltE_yes, fltE_p, fltP_some, fltE_rg, fltRg_p, fltRg_yes, fltRp_some, mapME_rg, mapRg_some, ev_iseq, itemsD_l, itemsD_t, mapME_some, gIx_lm, gIx_tm, Int.toNat_natCast, gAdd_i, gSub_i, map_i, ev_un, ev_asB, ev_asT, ev_not, ev_and, ev_or, ev_eif, ev_fcall, blD_bl, gEq_i, gNe_i, gLt_i, gLe_i, gGt_i, gGe_i, gNeg_i, truD_bl, ev_fn, gTuple_l, gTuple_t, gMod_i, gDiv_i, gMul_l, gMul_r, gMaxA_l', gMinA_l', gMaxA_t', gMinA_t', gSortA_l', sortI_len, gIx_last, truD_lm, truD_tm, ev_m1, gIndex_i, ev_oNo, ev_oYes, intO_i, ev_sl, gSl_l, gSl_t, cutD_map, gInt_i, gInt_b, gAbs_i, gSum_l, gSum_t, ev_isi, ev_eand, ev_eor, ev_enot, gIn_il, gIn_it, gNotIn_il, gNotIn_it, gIs_n, gIsNot_n, isNon_n, isNon_t, isNon_l, isNon_i, isNon_b, ev_tup, ev_lst, limT_0, mkL_0, limT_1, mkL_1, limT_2, mkL_2, limT_3, mkL_3, limT_4, mkL_4, limT_5, mkL_5, limT_6, mkL_6, limT_7, mkL_7, limT_8, mkL_8, gAdd_ll, gAdd_tt, gMax2_i, gMin2_i, gIx_p0, gIx_p1, ev_rev, cutD_take, cutD_drop, gSortA_pair, some_or, some_and, bl_or, bl_and, gIx_t0, gIx_l0, gIx_t1, gIx_l1, gIx_t2, gIx_l2, gIx_t3, gIx_l3, gIx_t4, gIx_l4, gIx_t5, gIx_l5, hw, gl]
      rfl
    | node a v l h =>
      obtain ⟨a0, a1, vb, hl', hh'⟩ := ht
      have hf : 1 + max l.ht h.ht ≤ f + 1 := hf
      have hx := gIx_iT (xs := vec) a0 (by rw [w.ln]; exact a1)
      have hb := w.sm _ (nth_mem a0 (by rw [w.ln]; exact a1))
      refine seq_if0 rfl ?_
      refine seq_if0 (by simp -implicitDefEqProofs (disch := first | assumption | omega | (simp only [List.length_map, rngN_len, sortI_len]; omega)) only [ev_asL, ev_lc, ev_rg1', ev_call, ev_cons, ev_nil, ev_op, ev_c, ev_bvar, ev_var, List.getElem?_cons_succ, List.getElem?_cons_zero, Option.bind_some, Option.map_some, slB_val, slV_val, slB_own, gLen_l, gLen_t, gLen_iT, List.length_map, rgA_1, rgO_ok, lim_ok, rngN_len, if_true, fltE_map, mapME_map, ev_gNm, ev_tYes, wipe_cons, wipe_nil, List.set_cons_succ, List.set_cons_zero, fltE_yes, fltE_p, fltP_some, fltE_rg, fltRg_p, fltRg_yes, fltRp_some, mapME_rg, mapRg_some, ev_iseq, itemsD_l, itemsD_t, mapME_some, gIx_lm, gIx_tm, Int.toNat_natCast, gAdd_i, gSub_i, map_i, ev_un, ev_asB, ev_asT, ev_not, ev_and, ev_or, ev_eif, ev_fcall, blD_bl, gEq_i, gNe_i, gLt_i, gLe_i, gGt_i, gGe_i, gNeg_i, truD_bl, ev_fn, gTuple_l, gTuple_t, gMod_i, gDiv_i, gMul_l, gMul_r, gMaxA_l', gMinA_l', gMaxA_t', gMinA_t', gSortA_l', sortI_len, gIx_last, truD_lm, truD_tm, ev_m1, gIndex_i, ev_oNo, ev_oYes, intO_i, ev_sl, gSl_l, gSl_t, cutD_map, gInt_i, gInt_b, gAbs_i, gSum_l, gSum_t, ev_isi, ev_eand, ev_eor, ev_enot, gIn_il, gIn_it, gNotIn_il, gNotIn_it, gIs_n, gIsNot_n, isNon_n, isNon_t, isNon_l, isNon_i, isNon_b, ev_tup, ev_lst, limT_0, mkL_0, limT_1, mkL_1, limT_2, mkL_2, limT_3, mkL_3, limT_4, mkL_4, limT_5, mkL_5, limT_6, mkL_6, limT_7, mkL_7, limT_8, mkL_8, gAdd_ll, gAdd_tt, gMax2_i, gMin2_i, gIx_p0, gIx_p1, ev_rev, cutD_take, cutD_drop, gSortA_pair, some_or, some_and, bl_or, bl_and, gIx_t0, gIx_l0, gIx_t1, gIx_l1, gIx_t2, gIx_l2, gIx_t3, gIx_l3, gIx_t4, gIx_l4, gIx_t5, gIx_l5, hs, ST.isNode, Bool.not_true]; first | done | exact rfl) ?_
      refine seq_asg (d := .tup [.int a, .int v, l.d, h.d]) rfl rfl ?_
      simp only [List.map_cons, List.map_nil, List.replicate, List.cons_append, List.nil_append, List.set_cons_succ, List.set_cons_zero]
      by_cases hc : nth vec a ≤ v
      · refine seq_set (d := .lst [.tup [l.d, .int v], .tup [h.d, .int (v + 1)]]) (by
          simp -implicitDefEqProofs (disch := first | assumption | omega | (simp only [List.length_map, rngN_len, sortI_len]; omega)) only [ev_asL, ev_lc, ev_rg1', ev_call, ev_cons, ev_nil, ev_op, ev_c, ev_bvar, ev_var, List.getElem?_cons_succ, List.getElem?_cons_zero, Option.bind_some, Option.map_some, slB_val, slV_val, slB_own, gLen_l, gLen_t, gLen_iT, List.length_map, rgA_1, rgO_ok, lim_ok, rngN_len, if_true, fltE_map, mapME_map, ev_gNm, ev_tYes, wipe_cons, wipe_nil, List.set_cons_succ, List.set_cons_zero, fltE_yes, fltE_p, fltP_some, fltE_rg, fltRg_p, fltRg_yes, fltRp_some, mapME_rg, mapRg_some, ev_iseq, itemsD_l, itemsD_t, mapME_some, gIx_lm, gIx_tm, Int.toNat_natCast, gAdd_i, gSub_i, map_i, ev_un, ev_asB, ev_asT, ev_not, ev_and, ev_or, ev_eif, ev_fcall, blD_bl, gEq_i, gNe_i, gLt_i, gLe_i, gGt_i, gGe_i, gNeg_i, truD_bl, ev_fn, gTuple_l, gTuple_t, gMod_i, gDiv_i, gMul_l, gMul_r, gMaxA_l', gMinA_l', gMaxA_t', gMinA_t', gSortA_l', sortI_len, gIx_last, truD_lm, truD_tm, ev_m1, gIndex_i, ev_oNo, ev_oYes, intO_i, ev_sl, gSl_l, gSl_t, cutD_map, gInt_i, gInt_b, gAbs_i, gSum_l, gSum_t, ev_isi, ev_eand, ev_eor, ev_enot, gIn_il, gIn_it, gNotIn_il, gNotIn_it, gIs_n, gIsNot_n, isNon_n, isNon_t, isNon_l, isNon_i, isNon_b, ev_tup, ev_lst, limT_0, mkL_0, limT_1, mkL_1, limT_2, mkL_2, limT_3, mkL_3, limT_4, mkL_4, limT_5, mkL_5, limT_6, mkL_6, limT_7, mkL_7, limT_8, mkL_8, gAdd_ll, gAdd_tt, gMax2_i, gMin2_i, gIx_p0, gIx_p1, ev_rev, cutD_take, cutD_drop, gSortA_pair, some_or, some_and, bl_or, bl_and, gIx_t0, gIx_l0, gIx_t1, gIx_l1, gIx_t2, gIx_l2, gIx_t3, gIx_l3, gIx_t4, gIx_l4, gIx_t5, gIx_l5, hx, decide_eq_true hc]
          first | done | exact rfl) ?_
        simp only [List.map_cons, List.map_nil, List.replicate, List.cons_append, List.nil_append, List.set_cons_succ, List.set_cons_zero]
        have i1 := ih l fd (by omega) hl' hl
        have ln1 := down_len (vec := vec) (dist := dist) (gapf := gapW W) l fd hl
        unfold down
        rw [if_pos hc]
        generalize down vec dist (gapW W) k l fd = r at i1 ln1
        refine seq_asg (d := resD r) (by
          simp -implicitDefEqProofs (disch := first | assumption | omega | (simp only [List.length_map, rngN_len, sortI_len]; omega)) only [ev_asL, ev_lc, ev_rg1', ev_call, ev_cons, ev_nil, ev_op, ev_c, ev_bvar, ev_var, List.getElem?_cons_succ, List.getElem?_cons_zero, Option.bind_some, Option.map_some, slB_val, slV_val, slB_own, gLen_l, gLen_t, gLen_iT, List.length_map, rgA_1, rgO_ok, lim_ok, rngN_len, if_true, fltE_map, mapME_map, ev_gNm, ev_tYes, wipe_cons, wipe_nil, List.set_cons_succ, List.set_cons_zero, fltE_yes, fltE_p, fltP_some, fltE_rg, fltRg_p, fltRg_yes, fltRp_some, mapME_rg, mapRg_some, ev_iseq, itemsD_l, itemsD_t, mapME_some, gIx_lm, gIx_tm, Int.toNat_natCast, gAdd_i, gSub_i, map_i, ev_un, ev_asB, ev_asT, ev_not, ev_and, ev_or, ev_eif, ev_fcall, blD_bl, gEq_i, gNe_i, gLt_i, gLe_i, gGt_i, gGe_i, gNeg_i, truD_bl, ev_fn, gTuple_l, gTuple_t, gMod_i, gDiv_i, gMul_l, gMul_r, gMaxA_l', gMinA_l', gMaxA_t', gMinA_t', gSortA_l', sortI_len, gIx_last, truD_lm, truD_tm, ev_m1, gIndex_i, ev_oNo, ev_oYes, intO_i, ev_sl, gSl_l, gSl_t, cutD_map, gInt_i, gInt_b, gAbs_i, gSum_l, gSum_t, ev_isi, ev_eand, ev_eor, ev_enot, gIn_il, gIn_it, gNotIn_il, gNotIn_it, gIs_n, gIsNot_n, isNon_n, isNon_t, isNon_l, isNon_i, isNon_b, ev_tup, ev_lst, limT_0, mkL_0, limT_1, mkL_1, limT_2, mkL_2, limT_3, mkL_3, limT_4, mkL_4, limT_5, mkL_5, limT_6, mkL_6, limT_7, mkL_7, limT_8, mkL_8, gAdd_ll, gAdd_tt, gMax2_i, gMin2_i, gIx_p0, gIx_p1, ev_rev, cutD_take, cutD_drop, gSortA_pair, some_or, some_and, bl_or, bl_and, gIx_t0, gIx_l0, gIx_t1, gIx_l1, gIx_t2, gIx_l2, gIx_t3, gIx_l3, gIx_t4, gIx_l4, gIx_t5, gIx_l5, i1]
          first | done | exact rfl) rfl ?_
        simp only [List.map_cons, List.map_nil, List.replicate, List.cons_append, List.nil_append, List.set_cons_succ, List.set_cons_zero]
        have hg := run_gap W (nth vec a - (v + 1)) (by omega)
        refine seq_set (d := .int (gapW W (nth vec a - (v + 1)))) (by
          simp -implicitDefEqProofs (disch := first | assumption | omega | (simp only [List.length_map, rngN_len, sortI_len]; omega)) only [ev_asL, ev_lc, ev_rg1', ev_call, ev_cons, ev_nil, ev_op, ev_c, ev_bvar, ev_var, List.getElem?_cons_succ, List.getElem?_cons_zero, Option.bind_some, Option.map_some, slB_val, slV_val, slB_own, gLen_l, gLen_t, gLen_iT, List.length_map, rgA_1, rgO_ok, lim_ok, rngN_len, if_true, fltE_map, mapME_map, ev_gNm, ev_tYes, wipe_cons, wipe_nil, List.set_cons_succ, List.set_cons_zero, fltE_yes, fltE_p, fltP_some, fltE_rg, fltRg_p, fltRg_yes, fltRp_some, mapME_rg, mapRg_some, ev_iseq, itemsD_l, itemsD_t, mapME_some, gIx_lm, gIx_tm, Int.toNat_natCast, gAdd_i, gSub_i, map_i, ev_un, ev_asB, ev_asT, ev_not, ev_and, ev_or, ev_eif, ev_fcall, blD_bl, gEq_i, gNe_i, gLt_i, gLe_i, gGt_i, gGe_i, gNeg_i, truD_bl, ev_fn, gTuple_l, gTuple_t, gMod_i, gDiv_i, gMul_l, gMul_r, gMaxA_l', gMinA_l', gMaxA_t', gMinA_t', gSortA_l', sortI_len, gIx_last, truD_lm, truD_tm, ev_m1, gIndex_i, ev_oNo, ev_oYes, intO_i, ev_sl, gSl_l, gSl_t, cutD_map, gInt_i, gInt_b, gAbs_i, gSum_l, gSum_t, ev_isi, ev_eand, ev_eor, ev_enot, gIn_il, gIn_it, gNotIn_il, gNotIn_it, gIs_n, gIsNot_n, isNon_n, isNon_t, isNon_l, isNon_i, isNon_b, ev_tup, ev_lst, limT_0, mkL_0, limT_1, mkL_1, limT_2, mkL_2, limT_3, mkL_3, limT_4, mkL_4, limT_5, mkL_5, limT_6, mkL_6, limT_7, mkL_7, limT_8, mkL_8, gAdd_ll, gAdd_tt, gMax2_i, gMin2_i, gIx_p0, gIx_p1, ev_rev, cutD_take, cutD_drop, gSortA_pair, some_or, some_and, bl_or, bl_and, gIx_t0, gIx_l0, gIx_t1, gIx_l1, gIx_t2, gIx_l2, gIx_t3, gIx_l3, gIx_t4, gIx_l4, gIx_t5, gIx_l5, hx, hg]
          first | done | exact rfl) ?_
        simp only [List.map_cons, List.map_nil, List.replicate, List.cons_append, List.nil_append, List.set_cons_succ, List.set_cons_zero]
        exact tailG_ok (run_go_down f) k hk0 r (down vec dist (gapW W) k h r.1) _ _ _ _ h.d _ _ _ _ _ _ _ _ _ _ ln1 (ih h r.1 (by omega) hh' ln1)
      · refine seq_set (d := .lst [.tup [h.d, .int (v + 1)], .tup [l.d, .int v]]) (by
          simp -implicitDefEqProofs (disch := first | assumption | omega | (simp only [List.length_map, rngN_len, sortI_len]; omega)) only [ev_asL, ev_lc, ev_rg1', ev_call, ev_cons, ev_nil, ev_op, ev_c, ev_bvar, ev_var, List.getElem?_cons_succ, List.getElem?_cons_zero, Option.bind_some, Option.map_some, slB_val, slV_val, slB_own, gLen_l, gLen_t, gLen_iT, List.length_map, rgA_1, rgO_ok, lim_ok, rngN_len, if_true, fltE_map, mapME_map, ev_gNm, ev_tYes, wipe_cons, wipe_nil, List.set_cons_succ, List.set_cons_zero, fltE_yes, fltE_p, fltP_some, fltE_rg, fltRg_p, fltRg_yes, fltRp_some, mapME_rg, mapRg_some, ev_iseq, itemsD_l, itemsD_t, mapME_some, gIx_lm, gIx_tm, Int.toNat_natCast, gAdd_i, gSub_i, map_i, ev_un, ev_asB, ev_asT, ev_not, ev_and, ev_or, ev_eif, ev_fcall, blD_bl, gEq_i, gNe_i, gLt_i, gLe_i, gGt_i, gGe_i, gNeg_i, truD_bl, ev_fn, gTuple_l, gTuple_t, gMod_i, gDiv_i, gMul_l, gMul_r, gMaxA_l', gMinA_l', gMaxA_t', gMinA_t', gSortA_l', sortI_len, gIx_last, truD_lm, truD_tm, ev_m1, gIndex_i, ev_oNo, ev_oYes, intO_i, ev_sl, gSl_l, gSl_t, cutD_map, gInt_i, gInt_b, gAbs_i, gSum_l, gSum_t, ev_isi, ev_eand, ev_eor, ev_enot, gIn_il, gIn_it, gNotIn_il, gNotIn_it, gIs_n, gIsNot_n, isNon_n, isNon_t, isNon_l, isNon_i, isNon_b, ev_tup, ev_lst, limT_0, mkL_0, limT_1, mkL_1, limT_2, mkL_2, limT_3, mkL_3, limT_4, mkL_4, limT_5, mkL_5, limT_6, mkL_6, limT_7, mkL_7, limT_8, mkL_8, gAdd_ll, gAdd_tt, gMax2_i, gMin2_i, gIx_p0, gIx_p1, ev_rev, cutD_take, cutD_drop, gSortA_pair, some_or, some_and, bl_or, bl_and, gIx_t0, gIx_l0, gIx_t1, gIx_l1, gIx_t2, gIx_l2, gIx_t3, gIx_l3, gIx_t4, gIx_l4, gIx_t5, gIx_l5, hx, decide_eq_false hc]
          first | done | exact rfl) ?_
        simp only [List.map_cons, List.map_nil, List.replicate, List.cons_append, List.nil_append, List.set_cons_succ, List.set_cons_zero]
        have i1 := ih h fd (by omega) hh' hl
        have ln1 := down_len (vec := vec) (dist := dist) (gapf := gapW W) h fd hl
        unfold down
        rw [if_neg hc]
        generalize down vec dist (gapW W) k h fd = r at i1 ln1
        refine seq_asg (d := resD r) (by
          simp -implicitDefEqProofs (disch := first | assumption | omega | (simp only [List.length_map, rngN_len, sortI_len]; omega)) only [ev_asL, ev_lc, ev_rg1', ev_call, ev_cons, ev_nil, ev_op, ev_c, ev_bvar, ev_var, List.getElem?_cons_succ, List.getElem?_cons_zero, Option.bind_some, Option.map_some, slB_val, slV_val, slB_own, gLen_l, gLen_t, gLen_iT, List.length_map, rgA_1, rgO_ok, lim_ok, rngN_len, if_true, fltE_map, mapME_map, ev_gNm, ev_tYes, wipe_cons, wipe_nil, List.set_cons_succ, List.set_cons_zero, fltE_yes, fltE_p, fltP_some, fltE_rg, fltRg_p, fltRg_yes, fltRp_some, mapME_rg, mapRg_some, ev_iseq, itemsD_l, itemsD_t, mapME_some, gIx_lm, gIx_tm, Int.toNat_natCast, gAdd_i, gSub_i, map_i, ev_un, ev_asB, ev_asT, ev_not, ev_and, ev_or, ev_eif, ev_fcall, blD_bl, gEq_i, gNe_i, gLt_i, gLe_i, gGt_i, gGe_i, gNeg_i, truD_bl, ev_fn, gTuple_l, gTuple_t, gMod_i, gDiv_i, gMul_l, gMul_r, gMaxA_l', gMinA_l', gMaxA_t', gMinA_t', gSortA_l', sortI_len, gIx_last, truD_lm, truD_tm, ev_m1, gIndex_i, ev_oNo, ev_oYes, intO_i, ev_sl, gSl_l, gSl_t, cutD_map, gInt_i, gInt_b, gAbs_i, gSum_l, gSum_t, ev_isi, ev_eand, ev_eor, ev_enot, gIn_il, gIn_it, gNotIn_il, gNotIn_it, gIs_n, gIsNot_n, isNon_n, isNon_t, isNon_l, isNon_i, isNon_b, ev_tup, ev_lst, limT_0, mkL_0, limT_1, mkL_1, limT_2, mkL_2, limT_3, mkL_3, limT_4, mkL_4, limT_5, mkL_5, limT_6, mkL_6, limT_7, mkL_7, limT_8, mkL_8, gAdd_ll, gAdd_tt, gMax2_i, gMin2_i, gIx_p0, gIx_p1, ev_rev, cutD_take, cutD_drop, gSortA_pair, some_or, some_and, bl_or, bl_and, gIx_t0, gIx_l0, gIx_t1, gIx_l1, gIx_t2, gIx_l2, gIx_t3, gIx_l3, gIx_t4, gIx_l4, gIx_t5, gIx_l5, i1]
          first | done | exact rfl) rfl ?_
        simp only [List.map_cons, List.map_nil, List.replicate, List.cons_append, List.nil_append, List.set_cons_succ, List.set_cons_zero]
        have hg := run_gap W (nth vec a - v) (by omega)
        refine seq_set (d := .int (gapW W (nth vec a - v))) (by
          simp -implicitDefEqProofs (disch := first | assumption | omega | (simp only [List.length_map, rngN_len, sortI_len]; omega)) only [ev_asL, ev_lc, ev_rg1', ev_call, ev_cons, ev_nil, ev_op, ev_c, ev_bvar, ev_var, List.getElem?_cons_succ, List.getElem?_cons_zero, Option.bind_some, Option.map_some, slB_val, slV_val, slB_own, gLen_l, gLen_t, gLen_iT, List.length_map, rgA_1, rgO_ok, lim_ok, rngN_len, if_true, fltE_map, mapME_map, ev_gNm, ev_tYes, wipe_cons, wipe_nil, List.set_cons_succ, List.set_cons_zero, fltE_yes, fltE_p, fltP_some, fltE_rg, fltRg_p, fltRg_yes, fltRp_some, mapME_rg, mapRg_some, ev_iseq, itemsD_l, itemsD_t, mapME_some, gIx_lm, gIx_tm, Int.toNat_natCast, gAdd_i, gSub_i, map_i, ev_un, ev_asB, ev_asT, ev_not, ev_and, ev_or, ev_eif, ev_fcall, blD_bl, gEq_i, gNe_i, gLt_i, gLe_i, gGt_i, gGe_i, gNeg_i, truD_bl, ev_fn, gTuple_l, gTuple_t, gMod_i, gDiv_i, gMul_l, gMul_r, gMaxA_l', gMinA_l', gMaxA_t', gMinA_t', gSortA_l', sortI_len, gIx_last, truD_lm, truD_tm, ev_m1, gIndex_i, ev_oNo, ev_oYes, intO_i, ev_sl, gSl_l, gSl_t, cutD_map, gInt_i, gInt_b, gAbs_i, gSum_l, gSum_t, ev_isi, ev_eand, ev_eor, ev_enot, gIn_il, gIn_it, gNotIn_il, gNotIn_it, gIs_n, gIsNot_n, isNon_n, isNon_t, isNon_l, isNon_i, isNon_b, ev_tup, ev_lst, limT_0, mkL_0, limT_1, mkL_1, limT_2, mkL_2, limT_3, mkL_3, limT_4, mkL_4, limT_5, mkL_5, limT_6, mkL_6, limT_7, mkL_7, limT_8, mkL_8, gAdd_ll, gAdd_tt, gMax2_i, gMin2_i, gIx_p0, gIx_p1, ev_rev, cutD_take, cutD_drop, gSortA_pair, some_or, some_and, bl_or, bl_and, gIx_t0, gIx_l0, gIx_t1, gIx_l1, gIx_t2, gIx_l2, gIx_t3, gIx_l3, gIx_t4, gIx_l4, gIx_t5, gIx_l5, hx, hg]
          first | done | exact rfl) ?_
        simp only [List.map_cons, List.map_nil, List.replicate, List.cons_append, List.nil_append, List.set_cons_succ, List.set_cons_zero]
        exact tailG_ok (run_go_down f) k hk0 r (down vec dist (gapW W) k l r.1) _ _ _ _ l.d _ _ _ _ _ _ _ _ _ _ ln1 (ih l r.1 (by omega) hl' ln1)
end K06

set_option Elab.async false
set_option linter.all false
set_option maxRecDepth 100000
set_option maxHeartbeats 4000000
namespace K06
open PySem L2 PD
theorem absI_sq (x : Int) : absI x * absI x = x * x := by
  unfold absI
  split
  · rw [Int.neg_mul_neg]
  · rfl
def tailL (rec : List D → Option D) : Cmd :=
    (sSeq (sIf (asB (eOp gEq (bVar 3) (eC (.str (PySem.Str.ofString "air")))))
    (sSet 12 (eOp gMul (bVar 12) (bVar 12)))
    sNop)
    (sSeq (sIf (tAndF (asB (eOp gEq (eCall gLen (aCons (bVar 5) aNil)) (bVar 4))) (asB (eOp gGt (bVar 12) (eOp gIx (eOp gIx (bVar 5) (eOp gSub (bVar 4) (eC (.int 1)))) (eC (.int 0))))))
    (sRet (eTup (aCons (eVar 5) (aCons (eVar 11) aNil))))
    sNop)
    (sSeq (sAsg (gTp (gsCons (gNm 5) (gsCons (gNm 13) gsNil))) (eFn rec (aCons (eVar 0) (aCons (eOp gIx (eOp gIx (bVar 10) (eC (.int 1))) (eC (.int 0))) (aCons (eVar 2) (aCons (eVar 3) (aCons (eVar 4) (aCons (eVar 5) aNil))))))))
    (sRet (eTup (aCons (eVar 5) (aCons (eOp gAdd (bVar 11) (bVar 13)) aNil)))))))
theorem tailL_ok (rec : List D → Option D) (k : Nat) (hk0 : 0 < k) (W : Way) (x : Int) (hx : -1000000 ≤ x ∧ x ≤ 1000000) (r s : List (Int × Int) × Int) (cl ve od sd c : D) (x1 x6 x7 x8 x9 x13 x14 : Sl) (hl : r.1.length ≤ k) (hr : rec [cl, od, ve, W.d, .int k, .lst (r.1.map pairD)] = some (resD s)) :
    tailL rec [.val cl, x1, .val ve, .val W.d, .val (.int k), .val (.lst (r.1.map pairD)), x6, x7, x8, x9, .val (.lst [sd, .tup [od, c]]), .val (.int r.2), .val (.int (absI x)), x13, x14] = some (.rt (resD (if r.1.length = k ∧ (nth r.1 ((k : Int) - 1)).1 < gapW W x then r else (s.1, r.2 + s.2)))) := by
  have t := way_is W "air" (by decide)
  have key : ∀ g : Int, g = gapW W x → ∀ o, sSeq (sIf (tAndF (asB (eOp gEq (eCall gLen (aCons (bVar 5) aNil)) (bVar 4))) (asB (eOp gGt (bVar 12) (eOp gIx (eOp gIx (bVar 5) (eOp gSub (bVar 4) (eC (.int 1)))) (eC (.int 0))))))
    (sRet (eTup (aCons (eVar 5) (aCons (eVar 11) aNil))))
    sNop)
    (sSeq (sAsg (gTp (gsCons (gNm 5) (gsCons (gNm 13) gsNil))) (eFn rec (aCons (eVar 0) (aCons (eOp gIx (eOp gIx (bVar 10) (eC (.int 1))) (eC (.int 0))) (aCons (eVar 2) (aCons (eVar 3) (aCons (eVar 4) (aCons (eVar 5) aNil))))))))
    (sRet (eTup (aCons (eVar 5) (aCons (eOp gAdd (bVar 11) (bVar 13)) aNil))))) [.val cl, x1, .val ve, .val W.d, .val (.int k), .val (.lst (r.1.map pairD)), x6, x7, x8, x9, .val (.lst [sd, .tup [od, c]]), .val (.int r.2), .val (.int g), x13, x14] = o → o = some (.rt (resD (if r.1.length = k ∧ (nth r.1 ((k : Int) - 1)).1 < gapW W x then r else (s.1, r.2 + s.2)))) := fun g hg o ho => by
    subst hg
    subst ho
    by_cases h1 : r.1.length = k
    · by_cases h2 : (nth r.1 ((k : Int) - 1)).1 < gapW W x
      · rw [if_pos ⟨h1, h2⟩]
        refine seq_if1r (by
          simp -implicitDefEqProofs (disch := first | assumption | omega | (simp only [List.length_map, rngN_len, sortI_len]; omega)) only [ev_asL, ev_lc, ev_rg1', ev_call, ev_cons, ev_nil, ev_op, ev_c, ev_bvar, ev_var, List.getElem?_cons_succ, List.getElem?_cons_zero, Option.bind_some, Option.map_some, slB_val, slV_val, slB_own, gLen_l, gLen_t, gLen_iT, List.length_map, rgA_1, rgO_ok, lim_ok, rngN_len, if_true, fltE_map, mapME_map, ev_gNm, ev_tYes, wipe_cons, wipe_nil, List.set_cons_succ, List.set_cons_zero, fltE_yes, fltE_p, fltP_some, fltE_rg, fltRg_p, fltRg_yes, fltRp_some, mapME_rg, mapRg_some, ev_iseq, itemsD_l, itemsD_t, mapME_some, gIx_lm, gIx_tm, Int.toNat_natCast, gAdd_i, gSub_i, map_i, ev_un, ev_asB, ev_asT, ev_not, ev_and, ev_or, ev_eif, ev_fcall, blD_bl, gEq_i, gNe_i, gLt_i, gLe_i, gGt_i, gGe_i, gNeg_i, truD_bl, ev_fn, gTuple_l, gTuple_t, gMod_i, gDiv_i, gMul_l, gMul_r, gMaxA_l', gMinA_l', gMaxA_t', gMinA_t', gSortA_l', sortI_len, gIx_last, truD_lm, truD_tm, ev_m1, gIndex_i, ev_oNo, ev_oYes, intO_i, ev_sl, gSl_l, gSl_t, cutD_map, gInt_i, gInt_b, gAbs_i, gSum_l, gSum_t, ev_isi, ev_eand, ev_eor, ev_enot, gIn_il, gIn_it, gNotIn_il, gNotIn_it, gIs_n, gIsNot_n, isNon_n, isNon_t, isNon_l, isNon_i, isNon_b, ev_tup, ev_lst, limT_0, mkL_0, limT_1, mkL_1, limT_2, mkL_2, limT_3, mkL_3, limT_4, mkL_4, limT_5, mkL_5, limT_6, mkL_6, limT_7, mkL_7, limT_8, mkL_8, gAdd_ll, gAdd_tt, gMax2_i, gMin2_i, gIx_p0, gIx_p1, ev_rev, cutD_take, cutD_drop, gSortA_pair, some_or, some_and, bl_or, bl_and, gIx_t0, gIx_l0, gIx_t1, gIx_l1, gIx_t2, gIx_l2, gIx_t3, gIx_l3, gIx_t4, gIx_l4, gIx_t5, gIx_l5, h1, decide_true]
          rw [decide_eq_true h2]
          rfl) (run_ret ?_)
        simp -implicitDefEqProofs (disch := first | assumption | omega | (simp only [List.length_map, rngN_len, sortI_len]; omega)) only [ev_asL, ev_lc, ev_rg1', ev_call, ev_cons, ev_nil, ev_op, ev_c, ev_bvar, ev_var, List.getElem?_cons_succ, List.getElem?_cons_zero, Option.bind_some, Option.map_some, slB_val, slV_val, slB_own, gLen_l, gLen_t, gLen_iT, List.length_map, rgA_1, rgO_ok, lim_ok, rngN_len, if_true, fltE_map, mapME_map, ev_gNm, ev_tYes, wipe_cons, wipe_nil, List.set_cons_succ, List.set_cons_zero, fltE_yes, fltE_p, fltP_some, fltE_rg, fltRg_p, fltRg_yes, fltRp_some, mapME_rg, mapRg_some, ev_iseq, itemsD_l, itemsD_t, mapME_some, gIx_lm, gIx_tm, Int.toNat_natCast, gAdd_i, gSub_i, map_i, ev_un, ev_asB, ev_asT, ev_not, ev_and, ev_or, ev_eif, ev_fcall, blD_bl, gEq_i, gNe_i, gLt_i, gLe_i, gGt_i, gGe_i, gNeg_i, truD_bl, ev_fn, gTuple_l, gTuple_t, gMod_i, gDiv_i, gMul_l, gMul_r, gMaxA_l', gMinA_l', gMaxA_t', gMinA_t', gSortA_l', sortI_len, gIx_last, truD_lm, truD_tm, ev_m1, gIndex_i, ev_oNo, ev_oYes, intO_i, ev_sl, gSl_l, gSl_t, cutD_map, gInt_i, gInt_b, gAbs_i, gSum_l, gSum_t, ev_isi, ev_eand, ev_eor, ev_enot, gIn_il, gIn_it, gNotIn_il, gNotIn_it, gIs_n, gIsNot_n, isNon_n, isNon_t, isNon_l, isNon_i, isNon_b, ev_tup, ev_lst, limT_0, mkL_0, limT_1, mkL_1, limT_2, mkL_2, limT_3, mkL_3, limT_4, mkL_4, limT_5, mkL_5, limT_6, mkL_6, limT_7, mkL_7, limT_8, mkL_8, gAdd_ll, gAdd_tt, gMax2_i, gMin2_i, gIx_p0, gIx_p1, ev_rev, cutD_take, cutD_drop, gSortA_pair, some_or, some_and, bl_or, bl_and, gIx_t0, gIx_l0, gIx_t1, gIx_l1, gIx_t2, gIx_l2, gIx_t3, gIx_l3, gIx_t4, gIx_l4, gIx_t5, gIx_l5]
        first | done | exact rfl
      rw [if_neg fun h => h2 h.2]
      refine seq_if0 (by
        simp -implicitDefEqProofs (disch := first | assumption | omega | (simp only [List.length_map, rngN_len, sortI_len]; omega)) only [ev_asL, ev_lc, ev_rg1', ev_call, ev_cons, ev_nil, ev_op, ev_c, ev_bvar, ev_var, List.getElem?_cons_succ, List.getElem?_cons_zero, Option.bind_some, Option.map_some, slB_val, slV_val, slB_own, gLen_l, gLen_t, gLen_iT, List.length_map, rgA_1, rgO_ok, lim_ok, rngN_len, if_true, fltE_map, mapME_map, ev_gNm, ev_tYes, wipe_cons, wipe_nil, List.set_cons_succ, List.set_cons_zero, fltE_yes, fltE_p, fltP_some, fltE_rg, fltRg_p, fltRg_yes, fltRp_some, mapME_rg, mapRg_some, ev_iseq, itemsD_l, itemsD_t, mapME_some, gIx_lm, gIx_tm, Int.toNat_natCast, gAdd_i, gSub_i, map_i, ev_un, ev_asB, ev_asT, ev_not, ev_and, ev_or, ev_eif, ev_fcall, blD_bl, gEq_i, gNe_i, gLt_i, gLe_i, gGt_i, gGe_i, gNeg_i, truD_bl, ev_fn, gTuple_l, gTuple_t, gMod_i, gDiv_i, gMul_l, gMul_r, gMaxA_l', gMinA_l', gMaxA_t', gMinA_t', gSortA_l', sortI_len, gIx_last, truD_lm, truD_tm, ev_m1, gIndex_i, ev_oNo, ev_oYes, intO_i, ev_sl, gSl_l, gSl_t, cutD_map, gInt_i, gInt_b, gAbs_i, gSum_l, gSum_t, ev_isi, ev_eand, ev_eor, ev_enot, gIn_il, gIn_it, gNotIn_il, gNotIn_it, gIs_n, gIsNot_n, isNon_n, isNon_t, isNon_l, isNon_i, isNon_b, ev_tup, ev_lst, limT_0, mkL_0, limT_1, mkL_1, limT_2, mkL_2, limT_3, mkL_3, limT_4, mkL_4, limT_5, mkL_5, limT_6, mkL_6, limT_7, mkL_7, limT_8, mkL_8, gAdd_ll, gAdd_tt, gMax2_i, gMin2_i, gIx_p0, gIx_p1, ev_rev, cutD_take, cutD_drop, gSortA_pair, some_or, some_and, bl_or, bl_and, gIx_t0, gIx_l0, gIx_t1, gIx_l1, gIx_t2, gIx_l2, gIx_t3, gIx_l3, gIx_t4, gIx_l4, gIx_t5, gIx_l5, h1, decide_true]
        rw [decide_eq_false h2]
        rfl) ?_
      refine seq_asg (d := resD s) (by
        simp -implicitDefEqProofs (disch := first | assumption | omega | (simp only [List.length_map, rngN_len, sortI_len]; omega)) only [ev_asL, ev_lc, ev_rg1', ev_call, ev_cons, ev_nil, ev_op, ev_c, ev_bvar, ev_var, List.getElem?_cons_succ, List.getElem?_cons_zero, Option.bind_some, Option.map_some, slB_val, slV_val, slB_own, gLen_l, gLen_t, gLen_iT, List.length_map, rgA_1, rgO_ok, lim_ok, rngN_len, if_true, fltE_map, mapME_map, ev_gNm, ev_tYes, wipe_cons, wipe_nil, List.set_cons_succ, List.set_cons_zero, fltE_yes, fltE_p, fltP_some, fltE_rg, fltRg_p, fltRg_yes, fltRp_some, mapME_rg, mapRg_some, ev_iseq, itemsD_l, itemsD_t, mapME_some, gIx_lm, gIx_tm, Int.toNat_natCast, gAdd_i, gSub_i, map_i, ev_un, ev_asB, ev_asT, ev_not, ev_and, ev_or, ev_eif, ev_fcall, blD_bl, gEq_i, gNe_i, gLt_i, gLe_i, gGt_i, gGe_i, gNeg_i, truD_bl, ev_fn, gTuple_l, gTuple_t, gMod_i, gDiv_i, gMul_l, gMul_r, gMaxA_l', gMinA_l', gMaxA_t', gMinA_t', gSortA_l', sortI_len, gIx_last, truD_lm, truD_tm, ev_m1, gIndex_i, ev_oNo, ev_oYes, intO_i, ev_sl, gSl_l, gSl_t, cutD_map, gInt_i, gInt_b, gAbs_i, gSum_l, gSum_t, ev_isi, ev_eand, ev_eor, ev_enot, gIn_il, gIn_it, gNotIn_il, gNotIn_it, gIs_n, gIsNot_n, isNon_n, isNon_t, isNon_l, isNon_i, isNon_b, ev_tup, ev_lst, limT_0, mkL_0, limT_1, mkL_1, limT_2, mkL_2, limT_3, mkL_3, limT_4, mkL_4, limT_5, mkL_5, limT_6, mkL_6, limT_7, mkL_7, limT_8, mkL_8, gAdd_ll, gAdd_tt, gMax2_i, gMin2_i, gIx_p0, gIx_p1, ev_rev, cutD_take, cutD_drop, gSortA_pair, some_or, some_and, bl_or, bl_and, gIx_t0, gIx_l0, gIx_t1, gIx_l1, gIx_t2, gIx_l2, gIx_t3, gIx_l3, gIx_t4, gIx_l4, gIx_t5, gIx_l5, hr]
        first | done | exact rfl) rfl ?_
      simp only [List.map_cons, List.map_nil, List.replicate, List.cons_append, List.nil_append, List.set_cons_succ, List.set_cons_zero]
      refine run_ret ?_
      simp -implicitDefEqProofs (disch := first | assumption | omega | (simp only [List.length_map, rngN_len, sortI_len]; omega)) only [ev_asL, ev_lc, ev_rg1', ev_call, ev_cons, ev_nil, ev_op, ev_c, ev_bvar, ev_var, List.getElem?_cons_succ, List.getElem?_cons_zero, Option.bind_some, Option.map_some, slB_val, slV_val, slB_own, gLen_l, gLen_t, gLen_iT, List.length_map, rgA_1, rgO_ok, lim_ok, rngN_len, if_true, fltE_map, mapME_map, ev_gNm, ev_tYes, wipe_cons, wipe_nil, List.set_cons_succ, List.set_cons_zero, fltE_yes, fltE_p, fltP_some, fltE_rg, fltRg_p, fltRg_yes, fltRp_some, mapME_rg, mapRg_some, ev_iseq, itemsD_l, itemsD_t, mapME_some, gIx_lm, gIx_tm, Int.toNat_natCast, gAdd_i, gSub_i, map_i, ev_un, ev_asB, ev_asT, ev_not, ev_and, ev_or, ev_eif, ev_fcall, blD_bl, gEq_i, gNe_i, gLt_i, gLe_i, gGt_i, gGe_i, gNeg_i, truD_bl, ev_fn, gTuple_l, gTuple_t, gMod_i, gDiv_i, gMul_l, gMul_r, gMaxA_l', gMinA_l', gMaxA_t', gMinA_t', gSortA_l', sortI_len, gIx_last, truD_lm, truD_tm, ev_m1, gIndex_i, ev_oNo, ev_oYes, intO_i, ev_sl, gSl_l, gSl_t, cutD_map, gInt_i, gInt_b, gAbs_i, gSum_l, gSum_t, ev_isi, ev_eand, ev_eor, ev_enot, gIn_il, gIn_it, gNotIn_il, gNotIn_it, gIs_n, gIsNot_n, isNon_n, isNon_t, isNon_l, isNon_i, isNon_b, ev_tup, ev_lst, limT_0, mkL_0, limT_1, mkL_1, limT_2, mkL_2, limT_3, mkL_3, limT_4, mkL_4, limT_5, mkL_5, limT_6, mkL_6, limT_7, mkL_7, limT_8, mkL_8, gAdd_ll, gAdd_tt, gMax2_i, gMin2_i, gIx_p0, gIx_p1, ev_rev, cutD_take, cutD_drop, gSortA_pair, some_or, some_and, bl_or, bl_and, gIx_t0, gIx_l0, gIx_t1, gIx_l1, gIx_t2, gIx_l2, gIx_t3, gIx_l3, gIx_t4, gIx_l4, gIx_t5, gIx_l5]
      rfl
    · rw [if_neg fun h => h1 h.1]
      refine seq_if0 (by
        have h2 : ¬ ((r.1.length : Int) = k) := by omega
        simp -implicitDefEqProofs (disch := first | assumption | omega | (simp only [List.length_map, rngN_len, sortI_len]; omega)) only [ev_asL, ev_lc, ev_rg1', ev_call, ev_cons, ev_nil, ev_op, ev_c, ev_bvar, ev_var, List.getElem?_cons_succ, List.getElem?_cons_zero, Option.bind_some, Option.map_some, slB_val, slV_val, slB_own, gLen_l, gLen_t, gLen_iT, List.length_map, rgA_1, rgO_ok, lim_ok, rngN_len, if_true, fltE_map, mapME_map, ev_gNm, ev_tYes, wipe_cons, wipe_nil, List.set_cons_succ, List.set_cons_zero, fltE_yes, fltE_p, fltP_some, fltE_rg, fltRg_p, fltRg_yes, fltRp_some, mapME_rg, mapRg_some, ev_iseq, itemsD_l, itemsD_t, mapME_some, gIx_lm, gIx_tm, Int.toNat_natCast, gAdd_i, gSub_i, map_i, ev_un, ev_asB, ev_asT, ev_not, ev_and, ev_or, ev_eif, ev_fcall, blD_bl, gEq_i, gNe_i, gLt_i, gLe_i, gGt_i, gGe_i, gNeg_i, truD_bl, ev_fn, gTuple_l, gTuple_t, gMod_i, gDiv_i, gMul_l, gMul_r, gMaxA_l', gMinA_l', gMaxA_t', gMinA_t', gSortA_l', sortI_len, gIx_last, truD_lm, truD_tm, ev_m1, gIndex_i, ev_oNo, ev_oYes, intO_i, ev_sl, gSl_l, gSl_t, cutD_map, gInt_i, gInt_b, gAbs_i, gSum_l, gSum_t, ev_isi, ev_eand, ev_eor, ev_enot, gIn_il, gIn_it, gNotIn_il, gNotIn_it, gIs_n, gIsNot_n, isNon_n, isNon_t, isNon_l, isNon_i, isNon_b, ev_tup, ev_lst, limT_0, mkL_0, limT_1, mkL_1, limT_2, mkL_2, limT_3, mkL_3, limT_4, mkL_4, limT_5, mkL_5, limT_6, mkL_6, limT_7, mkL_7, limT_8, mkL_8, gAdd_ll, gAdd_tt, gMax2_i, gMin2_i, gIx_p0, gIx_p1, ev_rev, cutD_take, cutD_drop, gSortA_pair, some_or, some_and, bl_or, bl_and, gIx_t0, gIx_l0, gIx_t1, gIx_l1, gIx_t2, gIx_l2, gIx_t3, gIx_l3, gIx_t4, gIx_l4, gIx_t5, gIx_l5, decide_eq_false h2, Bool.false_eq_true, if_false]) ?_
      refine seq_asg (d := resD s) (by
        simp -implicitDefEqProofs (disch := first | assumption | omega | (simp only [List.length_map, rngN_len, sortI_len]; omega)) only [ev_asL, ev_lc, ev_rg1', ev_call, ev_cons, ev_nil, ev_op, ev_c, ev_bvar, ev_var, List.getElem?_cons_succ, List.getElem?_cons_zero, Option.bind_some, Option.map_some, slB_val, slV_val, slB_own, gLen_l, gLen_t, gLen_iT, List.length_map, rgA_1, rgO_ok, lim_ok, rngN_len, if_true, fltE_map, mapME_map, ev_gNm, ev_tYes, wipe_cons, wipe_nil, List.set_cons_succ, List.set_cons_zero, fltE_yes, fltE_p, fltP_some, fltE_rg, fltRg_p, fltRg_yes, fltRp_some, mapME_rg, mapRg_some, ev_iseq, itemsD_l, itemsD_t, mapME_some, gIx_lm, gIx_tm, Int.toNat_natCast, gAdd_i, gSub_i, map_i, ev_un, ev_asB, ev_asT, ev_not, ev_and, ev_or, ev_eif, ev_fcall, blD_bl, gEq_i, gNe_i, gLt_i, gLe_i, gGt_i, gGe_i, gNeg_i, truD_bl, ev_fn, gTuple_l, gTuple_t, gMod_i, gDiv_i, gMul_l, gMul_r, gMaxA_l', gMinA_l', gMaxA_t', gMinA_t', gSortA_l', sortI_len, gIx_last, truD_lm, truD_tm, ev_m1, gIndex_i, ev_oNo, ev_oYes, intO_i, ev_sl, gSl_l, gSl_t, cutD_map, gInt_i, gInt_b, gAbs_i, gSum_l, gSum_t, ev_isi, ev_eand, ev_eor, ev_enot, gIn_il, gIn_it, gNotIn_il, gNotIn_it, gIs_n, gIsNot_n, isNon_n, isNon_t, isNon_l, isNon_i, isNon_b, ev_tup, ev_lst, limT_0, mkL_0, limT_1, mkL_1, limT_2, mkL_2, limT_3, mkL_3, limT_4, mkL_4, limT_5, mkL_5, limT_6, mkL_6, limT_7, mkL_7, limT_8, mkL_8, gAdd_ll, gAdd_tt, gMax2_i, gMin2_i, gIx_p0, gIx_p1, ev_rev, cutD_take, cutD_drop, gSortA_pair, some_or, some_and, bl_or, bl_and, gIx_t0, gIx_l0, gIx_t1, gIx_l1, gIx_t2, gIx_l2, gIx_t3, gIx_l3, gIx_t4, gIx_l4, gIx_t5, gIx_l5, hr]
        first | done | exact rfl) rfl ?_
      simp only [List.map_cons, List.map_nil, List.replicate, List.cons_append, List.nil_append, List.set_cons_succ, List.set_cons_zero]
      refine run_ret ?_
      simp -implicitDefEqProofs (disch := first | assumption | omega | (simp only [List.length_map, rngN_len, sortI_len]; omega)) only [ev_asL, ev_lc, ev_rg1', ev_call, ev_cons, ev_nil, ev_op, ev_c, ev_bvar, ev_var, List.getElem?_cons_succ, List.getElem?_cons_zero, Option.bind_some, Option.map_some, slB_val, slV_val, slB_own, gLen_l, gLen_t, gLen_iT, List.length_map, rgA_1, rgO_ok, lim_ok, rngN_len, if_true, fltE_map, mapME_map, ev_gNm, ev_tYes, wipe_cons, wipe_nil, List.set_cons_succ, List.set_cons_zero, fltE_yes, fltE_p, fltP_some, fltE_rg, fltRg_p, fltRg_yes, fltRp_some, mapME_rg, mapRg_some, ev_iseq, itemsD_l, itemsD_t, mapME_some, gIx_lm, gIx_tm, Int.toNat_natCast, gAdd_i, gSub_i, map_i, ev_un, ev_asB, ev_asT, ev_not, ev_and, ev_or, ev_eif, ev_fcall, blD_bl, gEq_i, gNe_i, gLt_i, gLe_i, gGt_i, gGe_i, gNeg_i, truD_bl, ev_fn, gTuple_l, gTuple_t, gMod_i, gDiv_i, gMul_l, gMul_r, gMaxA_l', gMinA_l', gMaxA_t', gMinA_t', gSortA_l', sortI_len, gIx_last, truD_lm, truD_tm, ev_m1, gIndex_i, ev_oNo, ev_oYes, intO_i, ev_sl, gSl_l, gSl_t, cutD_map, gInt_i, gInt_b, gAbs_i, gSum_l, gSum_t, ev_isi, ev_eand, ev_eor, ev_enot, gIn_il, gIn_it, gNotIn_il, gNotIn_it, gIs_n, gIsNot_n, isNon_n, isNon_t, isNon_l, isNon_i, isNon_b, ev_tup, ev_lst, limT_0, mkL_0, limT_1, mkL_1, limT_2, mkL_2, limT_3, mkL_3, limT_4, mkL_4, limT_5, mkL_5, limT_6, mkL_6, limT_7, mkL_7, limT_8, mkL_8, gAdd_ll, gAdd_tt, gMax2_i, gMin2_i, gIx_p0, gIx_p1, ev_rev, cutD_take, cutD_drop, gSortA_pair, some_or, some_and, bl_or, bl_and, gIx_t0, gIx_l0, gIx_t1, gIx_l1, gIx_t2, gIx_l2, gIx_t3, gIx_l3, gIx_t4, gIx_l4, gIx_t5, gIx_l5]
      rfl
  by_cases hc : W.nm = "air"
  · have ba : -1000000 ≤ absI x ∧ absI x ≤ 1000000 := by unfold absI; split <;> omega
    refine seq_if1 (by simp -implicitDefEqProofs (disch := first | assumption | omega | (simp only [List.length_map, rngN_len, sortI_len]; omega)) only [ev_asL, ev_lc, ev_rg1', ev_call, ev_cons, ev_nil, ev_op, ev_c, ev_bvar, ev_var, List.getElem?_cons_succ, List.getElem?_cons_zero, Option.bind_some, Option.map_some, slB_val, slV_val, slB_own, gLen_l, gLen_t, gLen_iT, List.length_map, rgA_1, rgO_ok, lim_ok, rngN_len, if_true, fltE_map, mapME_map, ev_gNm, ev_tYes, wipe_cons, wipe_nil, List.set_cons_succ, List.set_cons_zero, fltE_yes, fltE_p, fltP_some, fltE_rg, fltRg_p, fltRg_yes, fltRp_some, mapME_rg, mapRg_some, ev_iseq, itemsD_l, itemsD_t, mapME_some, gIx_lm, gIx_tm, Int.toNat_natCast, gAdd_i, gSub_i, map_i, ev_un, ev_asB, ev_asT, ev_not, ev_and, ev_or, ev_eif, ev_fcall, blD_bl, gEq_i, gNe_i, gLt_i, gLe_i, gGt_i, gGe_i, gNeg_i, truD_bl, ev_fn, gTuple_l, gTuple_t, gMod_i, gDiv_i, gMul_l, gMul_r, gMaxA_l', gMinA_l', gMaxA_t', gMinA_t', gSortA_l', sortI_len, gIx_last, truD_lm, truD_tm, ev_m1, gIndex_i, ev_oNo, ev_oYes, intO_i, ev_sl, gSl_l, gSl_t, cutD_map, gInt_i, gInt_b, gAbs_i, gSum_l, gSum_t, ev_isi, ev_eand, ev_eor, ev_enot, gIn_il, gIn_it, gNotIn_il, gNotIn_it, gIs_n, gIsNot_n, isNon_n, isNon_t, isNon_l, isNon_i, isNon_b, ev_tup, ev_lst, limT_0, mkL_0, limT_1, mkL_1, limT_2, mkL_2, limT_3, mkL_3, limT_4, mkL_4, limT_5, mkL_5, limT_6, mkL_6, limT_7, mkL_7, limT_8, mkL_8, gAdd_ll, gAdd_tt, gMax2_i, gMin2_i, gIx_p0, gIx_p1, ev_rev, cutD_take, cutD_drop, gSortA_pair, some_or, some_and, bl_or, bl_and, gIx_t0, gIx_l0, gIx_t1, gIx_l1, gIx_t2, gIx_l2, gIx_t3, gIx_l3, gIx_t4, gIx_l4, gIx_t5, gIx_l5, t, hc, decide_true]; first | done | exact rfl) (run_set (d := .int (absI x * absI x)) (by simp -implicitDefEqProofs (disch := first | assumption | omega | (simp only [List.length_map, rngN_len, sortI_len]; omega)) only [ev_asL, ev_lc, ev_rg1', ev_call, ev_cons, ev_nil, ev_op, ev_c, ev_bvar, ev_var, List.getElem?_cons_succ, List.getElem?_cons_zero, Option.bind_some, Option.map_some, slB_val, slV_val, slB_own, gLen_l, gLen_t, gLen_iT, List.length_map, rgA_1, rgO_ok, lim_ok, rngN_len, if_true, fltE_map, mapME_map, ev_gNm, ev_tYes, wipe_cons, wipe_nil, List.set_cons_succ, List.set_cons_zero, fltE_yes, fltE_p, fltP_some, fltE_rg, fltRg_p, fltRg_yes, fltRp_some, mapME_rg, mapRg_some, ev_iseq, itemsD_l, itemsD_t, mapME_some, gIx_lm, gIx_tm, Int.toNat_natCast, gAdd_i, gSub_i, map_i, ev_un, ev_asB, ev_asT, ev_not, ev_and, ev_or, ev_eif, ev_fcall, blD_bl, gEq_i, gNe_i, gLt_i, gLe_i, gGt_i, gGe_i, gNeg_i, truD_bl, ev_fn, gTuple_l, gTuple_t, gMod_i, gDiv_i, gMul_l, gMul_r, gMaxA_l', gMinA_l', gMaxA_t', gMinA_t', gSortA_l', sortI_len, gIx_last, truD_lm, truD_tm, ev_m1, gIndex_i, ev_oNo, ev_oYes, intO_i, ev_sl, gSl_l, gSl_t, cutD_map, gInt_i, gInt_b, gAbs_i, gSum_l, gSum_t, ev_isi, ev_eand, ev_eor, ev_enot, gIn_il, gIn_it, gNotIn_il, gNotIn_it, gIs_n, gIsNot_n, isNon_n, isNon_t, isNon_l, isNon_i, isNon_b, ev_tup, ev_lst, limT_0, mkL_0, limT_1, mkL_1, limT_2, mkL_2, limT_3, mkL_3, limT_4, mkL_4, limT_5, mkL_5, limT_6, mkL_6, limT_7, mkL_7, limT_8, mkL_8, gAdd_ll, gAdd_tt, gMax2_i, gMin2_i, gIx_p0, gIx_p1, ev_rev, cutD_take, cutD_drop, gSortA_pair, some_or, some_and, bl_or, bl_and, gIx_t0, gIx_l0, gIx_t1, gIx_l1, gIx_t2, gIx_l2, gIx_t3, gIx_l3, gIx_t4, gIx_l4, gIx_t5, gIx_l5]; first | done | exact rfl)) ?_
    simp only [List.map_cons, List.map_nil, List.replicate, List.cons_append, List.nil_append, List.set_cons_succ, List.set_cons_zero]
    refine key _ ?_ _ rfl
    rw [absI_sq]
    simp [gapW, isAir, hc]
  · refine seq_if0 (by simp -implicitDefEqProofs (disch := first | assumption | omega | (simp only [List.length_map, rngN_len, sortI_len]; omega)) only [ev_asL, ev_lc, ev_rg1', ev_call, ev_cons, ev_nil, ev_op, ev_c, ev_bvar, ev_var, List.getElem?_cons_succ, List.getElem?_cons_zero, Option.bind_some, Option.map_some, slB_val, slV_val, slB_own, gLen_l, gLen_t, gLen_iT, List.length_map, rgA_1, rgO_ok, lim_ok, rngN_len, if_true, fltE_map, mapME_map, ev_gNm, ev_tYes, wipe_cons, wipe_nil, List.set_cons_succ, List.set_cons_zero, fltE_yes, fltE_p, fltP_some, fltE_rg, fltRg_p, fltRg_yes, fltRp_some, mapME_rg, mapRg_some, ev_iseq, itemsD_l, itemsD_t, mapME_some, gIx_lm, gIx_tm, Int.toNat_natCast, gAdd_i, gSub_i, map_i, ev_un, ev_asB, ev_asT, ev_not, ev_and, ev_or, ev_eif, ev_fcall, blD_bl, gEq_i, gNe_i, gLt_i, gLe_i, gGt_i, gGe_i, gNeg_i, truD_bl, ev_fn, gTuple_l, gTuple_t, gMod_i, gDiv_i, gMul_l, gMul_r, gMaxA_l', gMinA_l', gMaxA_t', gMinA_t', gSortA_l', sortI_len, gIx_last, truD_lm, truD_tm, ev_m1, gIndex_i, ev_oNo, ev_oYes, intO_i, ev_sl, gSl_l, gSl_t, cutD_map, gInt_i, gInt_b, gAbs_i, gSum_l, gSum_t, ev_isi, ev_eand, ev_eor, ev_enot, gIn_il, gIn_it, gNotIn_il, gNotIn_it, gIs_n, gIsNot_n, isNon_n, isNon_t, isNon_l, isNon_i, isNon_b, ev_tup, ev_lst, limT_0, mkL_0, limT_1, mkL_1, limT_2, mkL_2, limT_3, mkL_3, limT_4, mkL_4, limT_5, mkL_5, limT_6, mkL_6, limT_7, mkL_7, limT_8, mkL_8, gAdd_ll, gAdd_tt, gMax2_i, gMin2_i, gIx_p0, gIx_p1, ev_rev, cutD_take, cutD_drop, gSortA_pair, some_or, some_and, bl_or, bl_and, gIx_t0, gIx_l0, gIx_t1, gIx_l1, gIx_t2, gIx_l2, gIx_t3, gIx_l3, gIx_t4, gIx_l4, gIx_t5, gIx_l5, t, hc, decide_false]; first | done | exact rfl) ?_
    refine key _ ?_ _ rfl
    simp [gapW, isAir, hc]
theorem run_ldown {n : Nat} {vs : List (List Int)} {vec : List Int} {W : Way} {dist : Int → Int} (w : Wd n vs vec W dist) (k : Nat) (hk0 : 0 < k) (hk : k ≤ 1000) : ∀ (f : Nat) (t : ST) (fd : List (Int × Int)), t.ht ≤ f → t.ok n vs.length → fd.length ≤ k →
    run_l_down f [.tup (vs.map intT), t.d, intT vec, W.d, .int k, .lst (fd.map pairD)] = some (resD (down vec dist (gapW W) k t fd))
  | 0, t, fd, h, _, _ => by
    have : 1 ≤ t.ht := by cases t <;> simp [ST.ht]
    omega
  | f + 1, t, fd, hf, ht, hl => by
    have ih := run_ldown w k hk0 hk f
    show runC 6 9 (b_l_down (run_l_down f)) _ = _
    have hs := run_lleaf t
    refine runC_rt rfl ?_
    simp only [List.map_cons, List.map_nil, List.replicate, List.cons_append, List.nil_append, List.set_cons_succ, List.set_cons_zero]
    cases t with
    | non => exact seq_if1r rfl rfl
    | leaf ps =>
      obtain ⟨hz, hp⟩ := ht
      have hp' : ∀ p ∈ ps, gIx (.tup (vs.map intT)) (.int p) = some (intT (nth vs p)) := fun p h => gIx_tm (hp p h).1 (hp p h).2
      have hfr : ∀ p ∈ ps, run_l_far [W.d, intT vec, intT (nth vs p)] = some (.int (dist p)) := fun p h => w.lf p (hp p h).1 (hp p h).2
      refine seq_if0 rfl ?_
      have e : iSeq (bVar 1) [.val (.tup (vs.map intT)), .val (ST.leaf ps).d, .val (intT vec), .val W.d, .val (.int k), .val (.lst (fd.map pairD)), .un, .un, .un, .un, .un, .un, .un, .un, .un] = some (ps.map D.int) := rfl
      refine seq_if1r (by simp -implicitDefEqProofs (disch := first | assumption | omega | (simp only [List.length_map, rngN_len, sortI_len]; omega)) only [ev_asL, ev_lc, ev_rg1', ev_call, ev_cons, ev_nil, ev_op, ev_c, ev_bvar, ev_var, List.getElem?_cons_succ, List.getElem?_cons_zero, Option.bind_some, Option.map_some, slB_val, slV_val, slB_own, gLen_l, gLen_t, gLen_iT, List.length_map, rgA_1, rgO_ok, lim_ok, rngN_len, if_true, fltE_map, mapME_map, ev_gNm, ev_tYes, wipe_cons, wipe_nil, List.set_cons_succ, List.set_cons_zero, fltE_yes, fltE_p, fltP_some, fltE_rg, fltRg_p, fltRg_yes, fltRp_some, mapME_rg, mapRg_some, ev_iseq, itemsD_l, itemsD_t, mapME_some, gIx_lm, gIx_tm, Int.toNat_natCast, gAdd_i, gSub_i, map_i, ev_un, ev_asB, ev_asT, ev_not, ev_and, ev_or, ev_eif, ev_fcall, blD_bl, gEq_i, gNe_i, gLt_i, gLe_i, gGt_i, gGe_i, gNeg_i, truD_bl, ev_fn, gTuple_l, gTuple_t, gMod_i, gDiv_i, gMul_l, gMul_r, gMaxA_l', gMinA_l', gMaxA_t', gMinA_t', gSortA_l', sortI_len, gIx_last, truD_lm, truD_tm, ev_m1, gIndex_i, ev_oNo, ev_oYes, intO_i, ev_sl, gSl_l, gSl_t, cutD_map, gInt_i, gInt_b, gAbs_i, gSum_l, gSum_t, ev_isi, ev_eand, ev_eor, ev_enot, gIn_il, gIn_it, gNotIn_il, gNotIn_it, gIs_n, gIsNot_n, isNon_n, isNon_t, isNon_l, isNon_i, isNon_b, ev_tup, ev_lst, limT_0, mkL_0, limT_1, mkL_1, limT_2, mkL_2, limT_3, mkL_3, limT_4, mkL_4, limT_5, mkL_5, limT_6, mkL_6, limT_7, mkL_7, limT_8, mkL_8, gAdd_ll, gAdd_tt, gMax2_i, gMin2_i, gIx_p0, gIx_p1, ev_rev, cutD_take, cutD_drop, gSortA_pair, some_or, some_and, bl_or, bl_and, gIx_t0, gIx_l0, gIx_t1, gIx_l1, gIx_t2, gIx_l2, gIx_t3, gIx_l3, gIx_t4, gIx_l4, gIx_t5, gIx_l5, hs, ST.isNode, Bool.not_false]; first | done | exact rfl) (run_ret ?_)
      have gl : gLen [(ST.leaf ps).d] = some (.int ps.length) := gLen_iT
      have hm : ps.map (fun x => D.tup [.int (dist x), .int x]) = (pairs dist ps).map pairD := by
        unfold pairs
        rw [List.map_map]
        rfl
      have hpl : (pairs dist ps).length = ps.length := by simp [pairs]
      simp only [ev_tup, ev_cons, ev_sl, ev_asL, ev_fcall, ev_op, ev_lc, e]
      simp -implicitDefEqProofs (disch := first | assumption | omega | (simp only [List.length_map, rngN_len, sortI_len]; omega)) only [ev_asL, ev_lc, ev_rg1', ev_call, ev_cons, ev_nil, ev_op, ev_c, ev_bvar, ev_var, List.getElem?_cons_succ, List.getElem?_cons_zero, Option.bind_some, Option.map_some, slB_val, slV_val, slB_own, gLen_l, gLen_t, gLen_iT, List.length_map, rgA_1, rgO_ok, lim_ok, rngN_len, if_true, fltE_map, mapME_map, ev_gNm, ev_tYes, wipe_cons, wipe_nil, List.set_cons_succ, List.set_cons_zero, fltE_yes, fltE_p, fltP_some, fltE_rg, fltRg_p, fltRg_yes, fltRp_some, mapME_rg, mapRg_some, ev_iseq, itemsD_l, itemsD_t, mapME_some, gIx_lm, gIx_tm, Int.toNat_natCast, gAdd_i, gSub_i, map_i, ev_un, ev_asB, ev_asT, ev_not, ev_and, ev_or, ev_eif, ev_fcall, blD_bl, gEq_i, gNe_i, gLt_i, gLe_i, gGt_i, gGe_i, gNeg_i, truD_bl, ev_fn, gTuple_l, gTuple_t, gMod_i, gDiv_i, gMul_l, gMul_r, gMaxA_l', gMinA_l', gMaxA_t', gMinA_t', gSortA_l', sortI_len, gIx_last, truD_lm, truD_tm, ev_m1, gIndex_i, ev_oNo, ev_oYes, intO_i, ev_sl, gSl_l, gSl_t, cutD_map, gInt_i, gInt_b, gAbs_i, gSum_l, gSum_t, ev_isi, ev_eand, ev_eor, ev_enot, gIn_il, gIn_it, gNotIn_il, gNotIn_it, gIs_n, gIsNot_n, isNon_n, isNon_t, isNon_l, isNon_i, isNon_b, ev_tup, ev_lst, limT_0, mkL_0, limT_1, mkL_1, limT_2, mkL_2, limT_3, mkL_3, limT_4, mkL_4, limT_5, mkL_5, limT_6, mkL_6, limT_7, mkL_7, limT_8, mkL_8, gAdd_ll, gAdd_tt, gMax2_i, gMin2_i, gIx_p0, gIx_p1, ev_rev, cutD_take, cutD_drop, gSortA_pair, some_or, some_and, bl_or, bl_and, gIx_t0, gIx_l0, gIx_t1, gIx_l1, gIx_t2, gIx_l2, gIx_t3, gIx_l3, gIx_t4, gIx_l4, gIx_t5, gIx_l5, hp', hfr, gl, hm, hpl, ← List.map_take]
      rfl
    | node a v l h =>
      obtain ⟨a0, a1, vb, hl', hh'⟩ := ht
      have hf : 1 + max l.ht h.ht ≤ f + 1 := hf
      have hx := gIx_iT (xs := vec) a0 (by rw [w.ln]; exact a1)
      have hb := w.sm _ (nth_mem a0 (by rw [w.ln]; exact a1))
      refine seq_if0 rfl ?_
      refine seq_if0 (by simp -implicitDefEqProofs (disch := first | assumption | omega | (simp only [List.length_map, rngN_len, sortI_len]; omega)) only [ev_asL, ev_lc, ev_rg1', ev_call, ev_cons, ev_nil, ev_op, ev_c, ev_bvar, ev_var, List.getElem?_cons_succ, List.getElem?_cons_zero, Option.bind_some, Option.map_some, slB_val, slV_val, slB_own, gLen_l, gLen_t, gLen_iT, List.length_map, rgA_1, rgO_ok, lim_ok, rngN_len, if_true, fltE_map, mapME_map, ev_gNm, ev_tYes, wipe_cons, wipe_nil, List.set_cons_succ, List.set_cons_zero, fltE_yes, fltE_p, fltP_some, fltE_rg, fltRg_p, fltRg_yes, fltRp_some, mapME_rg, mapRg_some, ev_iseq, itemsD_l, itemsD_t, mapME_some, gIx_lm, gIx_tm, Int.toNat_natCast, gAdd_i, gSub_i, map_i, ev_un, ev_asB, ev_asT, ev_not, ev_and, ev_or, ev_eif, ev_fcall, blD_bl, gEq_i, gNe_i, gLt_i, gLe_i, gGt_i, gGe_i, gNeg_i, truD_bl, ev_fn, gTuple_l, gTuple_t, gMod_i, gDiv_i, gMul_l, gMul_r, gMaxA_l', gMinA_l', gMaxA_t', gMinA_t', gSortA_l', sortI_len, gIx_last, truD_lm, truD_tm, ev_m1, gIndex_i, ev_oNo, ev_oYes, intO_i, ev_sl, gSl_l, gSl_t, cutD_map, gInt_i, gInt_b, gAbs_i, gSum_l, gSum_t, ev_isi, ev_eand, ev_eor, ev_enot, gIn_il, gIn_it, gNotIn_il, gNotIn_it, gIs_n, gIsNot_n, isNon_n, isNon_t, isNon_l, isNon_i, isNon_b, ev_tup, ev_lst, limT_0, mkL_0, limT_1, mkL_1, limT_2, mkL_2, limT_3, mkL_3, limT_4, mkL_4, limT_5, mkL_5, limT_6, mkL_6, limT_7, mkL_7, limT_8, mkL_8, gAdd_ll, gAdd_tt, gMax2_i, gMin2_i, gIx_p0, gIx_p1, ev_rev, cutD_take, cutD_drop, gSortA_pair, some_or, some_and, bl_or, bl_and, gIx_t0, gIx_l0, gIx_t1, gIx_l1, gIx_t2, gIx_l2, gIx_t3, gIx_l3, gIx_t4, gIx_l4, gIx_t5, gIx_l5, hs, ST.isNode, Bool.not_true]; first | done | exact rfl) ?_
      refine seq_asg (d := .tup [.int a, .int v, l.d, h.d]) rfl rfl ?_
      simp only [List.map_cons, List.map_nil, List.replicate, List.cons_append, List.nil_append, List.set_cons_succ, List.set_cons_zero]
      refine seq_set (d := .lst [.tup [l.d, .int v], .tup [h.d, .int (v + 1)]]) (by
        simp -implicitDefEqProofs (disch := first | assumption | omega | (simp only [List.length_map, rngN_len, sortI_len]; omega)) only [ev_asL, ev_lc, ev_rg1', ev_call, ev_cons, ev_nil, ev_op, ev_c, ev_bvar, ev_var, List.getElem?_cons_succ, List.getElem?_cons_zero, Option.bind_some, Option.map_some, slB_val, slV_val, slB_own, gLen_l, gLen_t, gLen_iT, List.length_map, rgA_1, rgO_ok, lim_ok, rngN_len, if_true, fltE_map, mapME_map, ev_gNm, ev_tYes, wipe_cons, wipe_nil, List.set_cons_succ, List.set_cons_zero, fltE_yes, fltE_p, fltP_some, fltE_rg, fltRg_p, fltRg_yes, fltRp_some, mapME_rg, mapRg_some, ev_iseq, itemsD_l, itemsD_t, mapME_some, gIx_lm, gIx_tm, Int.toNat_natCast, gAdd_i, gSub_i, map_i, ev_un, ev_asB, ev_asT, ev_not, ev_and, ev_or, ev_eif, ev_fcall, blD_bl, gEq_i, gNe_i, gLt_i, gLe_i, gGt_i, gGe_i, gNeg_i, truD_bl, ev_fn, gTuple_l, gTuple_t, gMod_i, gDiv_i, gMul_l, gMul_r, gMaxA_l', gMinA_l', gMaxA_t', gMinA_t', gSortA_l', sortI_len, gIx_last, truD_lm, truD_tm, ev_m1, gIndex_i, ev_oNo, ev_oYes, intO_i, ev_sl, gSl_l, gSl_t, cutD_map, gInt_i, gInt_b, gAbs_i, gSum_l, gSum_t, ev_isi, ev_eand, ev_eor, ev_enot, gIn_il, gIn_it, gNotIn_il, gNotIn_it, gIs_n, gIsNot_n, isNon_n, isNon_t, isNon_l, isNon_i, isNon_b, ev_tup, ev_lst, limT_0, mkL_0, limT_1, mkL_1, limT_2, mkL_2, limT_3, mkL_3, limT_4, mkL_4, limT_5, mkL_5, limT_6, mkL_6, limT_7, mkL_7, limT_8, mkL_8, gAdd_ll, gAdd_tt, gMax2_i, gMin2_i, gIx_p0, gIx_p1, ev_rev, cutD_take, cutD_drop, gSortA_pair, some_or, some_and, bl_or, bl_and, gIx_t0, gIx_l0, gIx_t1, gIx_l1, gIx_t2, gIx_l2, gIx_t3, gIx_l3, gIx_t4, gIx_l4, gIx_t5, gIx_l5]
        first | done | exact rfl) ?_
      simp only [List.map_cons, List.map_nil, List.replicate, List.cons_append, List.nil_append, List.set_cons_succ, List.set_cons_zero]
      by_cases hc : nth vec a ≤ v
      · refine seq_if0 (by
          simp -implicitDefEqProofs (disch := first | assumption | omega | (simp only [List.length_map, rngN_len, sortI_len]; omega)) only [ev_asL, ev_lc, ev_rg1', ev_call, ev_cons, ev_nil, ev_op, ev_c, ev_bvar, ev_var, List.getElem?_cons_succ, List.getElem?_cons_zero, Option.bind_some, Option.map_some, slB_val, slV_val, slB_own, gLen_l, gLen_t, gLen_iT, List.length_map, rgA_1, rgO_ok, lim_ok, rngN_len, if_true, fltE_map, mapME_map, ev_gNm, ev_tYes, wipe_cons, wipe_nil, List.set_cons_succ, List.set_cons_zero, fltE_yes, fltE_p, fltP_some, fltE_rg, fltRg_p, fltRg_yes, fltRp_some, mapME_rg, mapRg_some, ev_iseq, itemsD_l, itemsD_t, mapME_some, gIx_lm, gIx_tm, Int.toNat_natCast, gAdd_i, gSub_i, map_i, ev_un, ev_asB, ev_asT, ev_not, ev_and, ev_or, ev_eif, ev_fcall, blD_bl, gEq_i, gNe_i, gLt_i, gLe_i, gGt_i, gGe_i, gNeg_i, truD_bl, ev_fn, gTuple_l, gTuple_t, gMod_i, gDiv_i, gMul_l, gMul_r, gMaxA_l', gMinA_l', gMaxA_t', gMinA_t', gSortA_l', sortI_len, gIx_last, truD_lm, truD_tm, ev_m1, gIndex_i, ev_oNo, ev_oYes, intO_i, ev_sl, gSl_l, gSl_t, cutD_map, gInt_i, gInt_b, gAbs_i, gSum_l, gSum_t, ev_isi, ev_eand, ev_eor, ev_enot, gIn_il, gIn_it, gNotIn_il, gNotIn_it, gIs_n, gIsNot_n, isNon_n, isNon_t, isNon_l, isNon_i, isNon_b, ev_tup, ev_lst, limT_0, mkL_0, limT_1, mkL_1, limT_2, mkL_2, limT_3, mkL_3, limT_4, mkL_4, limT_5, mkL_5, limT_6, mkL_6, limT_7, mkL_7, limT_8, mkL_8, gAdd_ll, gAdd_tt, gMax2_i, gMin2_i, gIx_p0, gIx_p1, ev_rev, cutD_take, cutD_drop, gSortA_pair, some_or, some_and, bl_or, bl_and, gIx_t0, gIx_l0, gIx_t1, gIx_l1, gIx_t2, gIx_l2, gIx_t3, gIx_l3, gIx_t4, gIx_l4, gIx_t5, gIx_l5, hx]
          rw [decide_eq_false (by omega)]) ?_
        have i1 := ih l fd (by omega) hl' hl
        have ln1 := down_len (vec := vec) (dist := dist) (gapf := gapW W) l fd hl
        unfold down
        rw [if_pos hc]
        generalize down vec dist (gapW W) k l fd = r at i1 ln1
        refine seq_asg (d := resD r) (by
          simp -implicitDefEqProofs (disch := first | assumption | omega | (simp only [List.length_map, rngN_len, sortI_len]; omega)) only [ev_asL, ev_lc, ev_rg1', ev_call, ev_cons, ev_nil, ev_op, ev_c, ev_bvar, ev_var, List.getElem?_cons_succ, List.getElem?_cons_zero, Option.bind_some, Option.map_some, slB_val, slV_val, slB_own, gLen_l, gLen_t, gLen_iT, List.length_map, rgA_1, rgO_ok, lim_ok, rngN_len, if_true, fltE_map, mapME_map, ev_gNm, ev_tYes, wipe_cons, wipe_nil, List.set_cons_succ, List.set_cons_zero, fltE_yes, fltE_p, fltP_some, fltE_rg, fltRg_p, fltRg_yes, fltRp_some, mapME_rg, mapRg_some, ev_iseq, itemsD_l, itemsD_t, mapME_some, gIx_lm, gIx_tm, Int.toNat_natCast, gAdd_i, gSub_i, map_i, ev_un, ev_asB, ev_asT, ev_not, ev_and, ev_or, ev_eif, ev_fcall, blD_bl, gEq_i, gNe_i, gLt_i, gLe_i, gGt_i, gGe_i, gNeg_i, truD_bl, ev_fn, gTuple_l, gTuple_t, gMod_i, gDiv_i, gMul_l, gMul_r, gMaxA_l', gMinA_l', gMaxA_t', gMinA_t', gSortA_l', sortI_len, gIx_last, truD_lm, truD_tm, ev_m1, gIndex_i, ev_oNo, ev_oYes, intO_i, ev_sl, gSl_l, gSl_t, cutD_map, gInt_i, gInt_b, gAbs_i, gSum_l, gSum_t, ev_isi, ev_eand, ev_eor, ev_enot, gIn_il, gIn_it, gNotIn_il, gNotIn_it, gIs_n, gIsNot_n, isNon_n, isNon_t, isNon_l, isNon_i, isNon_b, ev_tup, ev_lst, limT_0, mkL_0, limT_1, mkL_1, limT_2, mkL_2, limT_3, mkL_3, limT_4, mkL_4, limT_5, mkL_5, limT_6, mkL_6, limT_7, mkL_7, limT_8, mkL_8, gAdd_ll, gAdd_tt, gMax2_i, gMin2_i, gIx_p0, gIx_p1, ev_rev, cutD_take, cutD_drop, gSortA_pair, some_or, some_and, bl_or, bl_and, gIx_t0, gIx_l0, gIx_t1, gIx_l1, gIx_t2, gIx_l2, gIx_t3, gIx_l3, gIx_t4, gIx_l4, gIx_t5, gIx_l5, i1]
          first | done | exact rfl) rfl ?_
        simp only [List.map_cons, List.map_nil, List.replicate, List.cons_append, List.nil_append, List.set_cons_succ, List.set_cons_zero]
        refine seq_set (d := .int (absI (nth vec a - (v + 1)))) (by
          simp -implicitDefEqProofs (disch := first | assumption | omega | (simp only [List.length_map, rngN_len, sortI_len]; omega)) only [ev_asL, ev_lc, ev_rg1', ev_call, ev_cons, ev_nil, ev_op, ev_c, ev_bvar, ev_var, List.getElem?_cons_succ, List.getElem?_cons_zero, Option.bind_some, Option.map_some, slB_val, slV_val, slB_own, gLen_l, gLen_t, gLen_iT, List.length_map, rgA_1, rgO_ok, lim_ok, rngN_len, if_true, fltE_map, mapME_map, ev_gNm, ev_tYes, wipe_cons, wipe_nil, List.set_cons_succ, List.set_cons_zero, fltE_yes, fltE_p, fltP_some, fltE_rg, fltRg_p, fltRg_yes, fltRp_some, mapME_rg, mapRg_some, ev_iseq, itemsD_l, itemsD_t, mapME_some, gIx_lm, gIx_tm, Int.toNat_natCast, gAdd_i, gSub_i, map_i, ev_un, ev_asB, ev_asT, ev_not, ev_and, ev_or, ev_eif, ev_fcall, blD_bl, gEq_i, gNe_i, gLt_i, gLe_i, gGt_i, gGe_i, gNeg_i, truD_bl, ev_fn, gTuple_l, gTuple_t, gMod_i, gDiv_i, gMul_l, gMul_r, gMaxA_l', gMinA_l', gMaxA_t', gMinA_t', gSortA_l', sortI_len, gIx_last, truD_lm, truD_tm, ev_m1, gIndex_i, ev_oNo, ev_oYes, intO_i, ev_sl, gSl_l, gSl_t, cutD_map, gInt_i, gInt_b, gAbs_i, gSum_l, gSum_t, ev_isi, ev_eand, ev_eor, ev_enot, gIn_il, gIn_it, gNotIn_il, gNotIn_it, gIs_n, gIsNot_n, isNon_n, isNon_t, isNon_l, isNon_i, isNon_b, ev_tup, ev_lst, limT_0, mkL_0, limT_1, mkL_1, limT_2, mkL_2, limT_3, mkL_3, limT_4, mkL_4, limT_5, mkL_5, limT_6, mkL_6, limT_7, mkL_7, limT_8, mkL_8, gAdd_ll, gAdd_tt, gMax2_i, gMin2_i, gIx_p0, gIx_p1, ev_rev, cutD_take, cutD_drop, gSortA_pair, some_or, some_and, bl_or, bl_and, gIx_t0, gIx_l0, gIx_t1, gIx_l1, gIx_t2, gIx_l2, gIx_t3, gIx_l3, gIx_t4, gIx_l4, gIx_t5, gIx_l5, hx]
          first | done | exact rfl) ?_
        simp only [List.map_cons, List.map_nil, List.replicate, List.cons_append, List.nil_append, List.set_cons_succ, List.set_cons_zero]
        exact tailL_ok (run_l_down f) k hk0 W _ (by omega) r (down vec dist (gapW W) k h r.1) _ _ h.d _ _ _ _ _ _ _ _ _ ln1 (ih h r.1 (by omega) hh' ln1)
      · refine seq_if1 (by
          simp -implicitDefEqProofs (disch := first | assumption | omega | (simp only [List.length_map, rngN_len, sortI_len]; omega)) only [ev_asL, ev_lc, ev_rg1', ev_call, ev_cons, ev_nil, ev_op, ev_c, ev_bvar, ev_var, List.getElem?_cons_succ, List.getElem?_cons_zero, Option.bind_some, Option.map_some, slB_val, slV_val, slB_own, gLen_l, gLen_t, gLen_iT, List.length_map, rgA_1, rgO_ok, lim_ok, rngN_len, if_true, fltE_map, mapME_map, ev_gNm, ev_tYes, wipe_cons, wipe_nil, List.set_cons_succ, List.set_cons_zero, fltE_yes, fltE_p, fltP_some, fltE_rg, fltRg_p, fltRg_yes, fltRp_some, mapME_rg, mapRg_some, ev_iseq, itemsD_l, itemsD_t, mapME_some, gIx_lm, gIx_tm, Int.toNat_natCast, gAdd_i, gSub_i, map_i, ev_un, ev_asB, ev_asT, ev_not, ev_and, ev_or, ev_eif, ev_fcall, blD_bl, gEq_i, gNe_i, gLt_i, gLe_i, gGt_i, gGe_i, gNeg_i, truD_bl, ev_fn, gTuple_l, gTuple_t, gMod_i, gDiv_i, gMul_l, gMul_r, gMaxA_l', gMinA_l', gMaxA_t', gMinA_t', gSortA_l', sortI_len, gIx_last, truD_lm, truD_tm, ev_m1, gIndex_i, ev_oNo, ev_oYes, intO_i, ev_sl, gSl_l, gSl_t, cutD_map, gInt_i, gInt_b, gAbs_i, gSum_l, gSum_t, ev_isi, ev_eand, ev_eor, ev_enot, gIn_il, gIn_it, gNotIn_il, gNotIn_it, gIs_n, gIsNot_n, isNon_n, isNon_t, isNon_l, isNon_i, isNon_b, ev_tup, ev_lst, limT_0, mkL_0, limT_1, mkL_1, limT_2, mkL_2, limT_3, mkL_3, limT_4, mkL_4, limT_5, mkL_5, limT_6, mkL_6, limT_7, mkL_7, limT_8, mkL_8, gAdd_ll, gAdd_tt, gMax2_i, gMin2_i, gIx_p0, gIx_p1, ev_rev, cutD_take, cutD_drop, gSortA_pair, some_or, some_and, bl_or, bl_and, gIx_t0, gIx_l0, gIx_t1, gIx_l1, gIx_t2, gIx_l2, gIx_t3, gIx_l3, gIx_t4, gIx_l4, gIx_t5, gIx_l5, hx]
          rw [decide_eq_true (by omega)]) (run_set (d := .lst [.tup [h.d, .int (v + 1)], .tup [l.d, .int v]]) rfl) ?_
        simp only [List.map_cons, List.map_nil, List.replicate, List.cons_append, List.nil_append, List.set_cons_succ, List.set_cons_zero]
        have i1 := ih h fd (by omega) hh' hl
        have ln1 := down_len (vec := vec) (dist := dist) (gapf := gapW W) h fd hl
        unfold down
        rw [if_neg hc]
        generalize down vec dist (gapW W) k h fd = r at i1 ln1
        refine seq_asg (d := resD r) (by
          simp -implicitDefEqProofs (disch := first | assumption | omega | (simp only [List.length_map, rngN_len, sortI_len]; omega)) only [ev_asL, ev_lc, ev_rg1', ev_call, ev_cons, ev_nil, ev_op, ev_c, ev_bvar, ev_var, List.getElem?_cons_succ, List.getElem?_cons_zero, Option.bind_some, Option.map_some, slB_val, slV_val, slB_own, gLen_l, gLen_t, gLen_iT, List.length_map, rgA_1, rgO_ok, lim_ok, rngN_len, if_true, fltE_map, mapME_map, ev_gNm, ev_tYes, wipe_cons, wipe_nil, List.set_cons_succ, List.set_cons_zero, fltE_yes, fltE_p, fltP_some, fltE_rg, fltRg_p, fltRg_yes, fltRp_some, mapME_rg, mapRg_some, ev_iseq, itemsD_l, itemsD_t, mapME_some, gIx_lm, gIx_tm, Int.toNat_natCast, gAdd_i, gSub_i, map_i, ev_un, ev_asB, ev_asT, ev_not, ev_and, ev_or, ev_eif, ev_fcall, blD_bl, gEq_i, gNe_i, gLt_i, gLe_i, gGt_i, gGe_i, gNeg_i, truD_bl, ev_fn, gTuple_l, gTuple_t, gMod_i, gDiv_i, gMul_l, gMul_r, gMaxA_l', gMinA_l', gMaxA_t', gMinA_t', gSortA_l', sortI_len, gIx_last, truD_lm, truD_tm, ev_m1, gIndex_i, ev_oNo, ev_oYes, intO_i, ev_sl, gSl_l, gSl_t, cutD_map, gInt_i, gInt_b, gAbs_i, gSum_l, gSum_t, ev_isi, ev_eand, ev_eor, ev_enot, gIn_il, gIn_it, gNotIn_il, gNotIn_it, gIs_n, gIsNot_n, isNon_n, isNon_t, isNon_l, isNon_i, isNon_b, ev_tup, ev_lst, limT_0, mkL_0, limT_1, mkL_1, limT_2, mkL_2, limT_3, mkL_3, limT_4, mkL_4, limT_5, mkL_5, limT_6, mkL_6, limT_7, mkL_7, limT_8, mkL_8, gAdd_ll, gAdd_tt, gMax2_i, gMin2_i, gIx_p0, gIx_p1, ev_rev, cutD_take, cutD_drop, gSortA_pair, some_or, some_and, bl_or, bl_and, gIx_t0, gIx_l0, gIx_t1, gIx_l1, gIx_t2, gIx_l2, gIx_t3, gIx_l3, gIx_t4, gIx_l4, gIx_t5, gIx_l5, i1]
          first | done | exact rfl) rfl ?_
        simp only [List.map_cons, List.map_nil, List.replicate, List.cons_append, List.nil_append, List.set_cons_succ, List.set_cons_zero]
        refine seq_set (d := .int (absI (nth vec a - v))) (by
          simp -implicitDefEqProofs (disch := first | assumption | omega | (simp only [List.length_map, rngN_len, sortI_len]; omega)) only [ev_asL, ev_lc, ev_rg1', ev_call, ev_cons, ev_nil, ev_op, ev_c, ev_bvar, ev_var, List.getElem?_cons_succ, List.getElem?_cons_zero, Option.bind_some, Option.map_some, slB_val, slV_val, slB_own, gLen_l, gLen_t, gLen_iT, List.length_map, rgA_1, rgO_ok, lim_ok, rngN_len, if_true, fltE_map, mapME_map, ev_gNm, ev_tYes, wipe_cons, wipe_nil, List.set_cons_succ, List.set_cons_zero, fltE_yes, fltE_p, fltP_some, fltE_rg, fltRg_p, fltRg_yes, fltRp_some, mapME_rg, mapRg_some, ev_iseq, itemsD_l, itemsD_t, mapME_some, gIx_lm, gIx_tm, Int.toNat_natCast, gAdd_i, gSub_i, map_i, ev_un, ev_asB, ev_asT, ev_not, ev_and, ev_or, ev_eif, ev_fcall, blD_bl, gEq_i, gNe_i, gLt_i, gLe_i, gGt_i, gGe_i, gNeg_i, truD_bl, ev_fn, gTuple_l, gTuple_t, gMod_i, gDiv_i, gMul_l, gMul_r, gMaxA_l', gMinA_l', gMaxA_t', gMinA_t', gSortA_l', sortI_len, gIx_last, truD_lm, truD_tm, ev_m1, gIndex_i, ev_oNo, ev_oYes, intO_i, ev_sl, gSl_l, gSl_t, cutD_map, gInt_i, gInt_b, gAbs_i, gSum_l, gSum_t, ev_isi, ev_eand, ev_eor, ev_enot, gIn_il, gIn_it, gNotIn_il, gNotIn_it, gIs_n, gIsNot_n, isNon_n, isNon_t, isNon_l, isNon_i, isNon_b, ev_tup, ev_lst, limT_0, mkL_0, limT_1, mkL_1, limT_2, mkL_2, limT_3, mkL_3, limT_4, mkL_4, limT_5, mkL_5, limT_6, mkL_6, limT_7, mkL_7, limT_8, mkL_8, gAdd_ll, gAdd_tt, gMax2_i, gMin2_i, gIx_p0, gIx_p1, ev_rev, cutD_take, cutD_drop, gSortA_pair, some_or, some_and, bl_or, bl_and, gIx_t0, gIx_l0, gIx_t1, gIx_l1, gIx_t2, gIx_l2, gIx_t3, gIx_l3, gIx_t4, gIx_l4, gIx_t5, gIx_l5, hx]
          first | done | exact rfl) ?_
        simp only [List.map_cons, List.map_nil, List.replicate, List.cons_append, List.nil_append, List.set_cons_succ, List.set_cons_zero]
        exact tailL_ok (run_l_down f) k hk0 W _ (by omega) r (down vec dist (gapW W) k l r.1) _ _ l.d _ _ _ _ _ _ _ _ _ ln1 (ih l r.1 (by omega) hl' ln1)
end K06

set_option Elab.async false
set_option linter.all false
set_option maxRecDepth 100000
set_option maxHeartbeats 4000000
namespace K06
open PySem L2 PD
def ST.places : ST → List Int
  | .non => []
  | .leaf ps => ps
  | .node _ _ l h => l.places ++ h.places
def ST.fits (vs : List (List Int)) : ST → Prop
  | .node a v l h => (∀ p ∈ l.places, nth (nth vs p) a ≤ v) ∧ (∀ p ∈ h.places, v < nth (nth vs p) a) ∧ l.fits vs ∧ h.fits vs
  | _ => True
theorem le_last {F : List (Int × Int)} (hF : F.Pairwise (fun a b => leP a b = true)) {k : Nat} (hk : F.length = k) {f : Int × Int} (hf : f ∈ F) : f.1 ≤ (nth F ((k : Int) - 1)).1 := by
  subst hk
  obtain ⟨i, hi, rfl⟩ := List.mem_iff_getElem.mp hf
  have e : nth F ((F.length : Int) - 1) = F[F.length - 1] := by
    unfold nth
    have h : ((F.length : Int) - 1).toNat = F.length - 1 := by omega
    rw [h]
    simp [List.getD, show F.length - 1 < F.length by omega]
  rw [e]
  by_cases h : i = F.length - 1
  · subst h
    exact Int.le_refl _
  · have := List.pairwise_iff_getElem.mp hF i (F.length - 1) hi (by omega) (by omega)
    unfold leP at this
    simp only [decide_eq_true_eq] at this
    omega
theorem pairs_app {dist : Int → Int} {a b : List Int} : pairs dist (a ++ b) = pairs dist a ++ pairs dist b := by simp [pairs]
structure Gaps (vs : List (List Int)) (vec : List Int) (dist gapf : Int → Int) (n : Nat) : Prop where
  g1 : ∀ p a v, 0 ≤ p → p < (vs.length : Int) → 0 ≤ a → a < (n : Int) → nth (nth vs p) a ≤ v → v < nth vec a → gapf (nth vec a - v) ≤ dist p
  g2 : ∀ p a v, 0 ≤ p → p < (vs.length : Int) → 0 ≤ a → a < (n : Int) → v < nth (nth vs p) a → nth vec a ≤ v → gapf (nth vec a - (v + 1)) ≤ dist p
theorem ok_places {n m : Nat} : ∀ {t : ST}, t.ok n m → ∀ p ∈ t.places, 0 ≤ p ∧ p < (m : Int)
  | .non, _, p, h => by cases h
  | .leaf ps, ⟨_, h⟩, p, hp => h p hp
  | .node a v l h, ⟨_, _, _, hl, hh⟩, p, hp => by
    rcases List.mem_append.mp hp with q | q
    · exact ok_places hl p q
    · exact ok_places hh p q
theorem cut_step {k : Nat} {fd A B F S : List (Int × Int)} {g : Int} {c : Prop} [Decidable c] (hF : F = topk k (fd ++ A)) (hc : c → F.length = k ∧ (nth F ((k : Int) - 1)).1 < g) (hg : ∀ q ∈ B, g ≤ q.1) (hS : ¬ c → S = topk k (F ++ B)) : (if c then F else S) = topk k (fd ++ (A ++ B)) := by
  have e : topk k (fd ++ (A ++ B)) = topk k (F ++ B) := by
    rw [hF, topk_part, List.append_assoc]
  rw [e]
  by_cases h : c
  · rw [if_pos h]
    obtain ⟨h1, h2⟩ := hc h
    have hs : F.Pairwise (fun a b => leP a b = true) := by rw [hF]; exact topk_sorted _ _
    refine (topk_keep hs h1 fun f hf r hr => ?_).symm
    have := le_last hs h1 hf
    have := hg r hr
    unfold leP
    simp only [decide_eq_true_eq]
    omega
  · rw [if_neg h]
    exact hS h
theorem down_ok {n : Nat} {vs : List (List Int)} {vec : List Int} {dist gapf : Int → Int} (G : Gaps vs vec dist gapf n) (k : Nat) : ∀ (t : ST) (fd : List (Int × Int)), fd.Pairwise (fun a b => leP a b = true) → fd.length ≤ k → t.ok n vs.length → t.fits vs →
    (down vec dist gapf k t fd).1 = topk k (fd ++ pairs dist t.places) ∧ (down vec dist gapf k t fd).2 ≤ t.places.length
  | .non, fd, hs, hk, _, _ => ⟨by
      show fd = topk k (fd ++ [])
      rw [List.append_nil, topk_self hs hk], Int.le_refl _⟩
  | .leaf ps, fd, hs, hk, _, _ => ⟨rfl, Int.le_refl _⟩
  | .node a v l h, fd, hs, hk, ⟨a0, a1, vb, ol, oh⟩, ⟨fl, fh, tl, th⟩ => by
    have len : ((ST.node a v l h).places.length : Int) = l.places.length + h.places.length := by
      show ((l.places ++ h.places).length : Int) = _
      rw [List.length_append]
      omega
    unfold down
    by_cases hc : nth vec a ≤ v
    · rw [if_pos hc]
      obtain ⟨e1, c1⟩ := down_ok G k l fd hs hk ol tl
      have ll := down_len (vec := vec) (dist := dist) (gapf := gapf) l fd hk
      have ss : (down vec dist gapf k l fd).1.Pairwise (fun a b => leP a b = true) := by rw [e1]; exact topk_sorted _ _
      obtain ⟨e2, c2⟩ := down_ok G k h (down vec dist gapf k l fd).1 ss ll oh th
      dsimp only
      refine ⟨?_, ?_⟩
      · rw [apply_ite Prod.fst]
        show _ = topk k (fd ++ pairs dist (l.places ++ h.places))
        rw [pairs_app]
        refine cut_step e1 id (fun q hq => ?_) (fun _ => e2)
        obtain ⟨p, hp, rfl⟩ := List.mem_map.mp hq
        obtain ⟨p0, p1⟩ := ok_places oh p hp
        exact G.g2 p a v p0 p1 a0 a1 (fh p hp) hc
      · split
        · omega
        · show _ + _ ≤ _
          omega
    · rw [if_neg hc]
      obtain ⟨e1, c1⟩ := down_ok G k h fd hs hk oh th
      have ll := down_len (vec := vec) (dist := dist) (gapf := gapf) h fd hk
      have ss : (down vec dist gapf k h fd).1.Pairwise (fun a b => leP a b = true) := by rw [e1]; exact topk_sorted _ _
      obtain ⟨e2, c2⟩ := down_ok G k l (down vec dist gapf k h fd).1 ss ll ol tl
      dsimp only
      refine ⟨?_, ?_⟩
      · rw [apply_ite Prod.fst]
        have pm : (fd ++ pairs dist (l.places ++ h.places)).Perm (fd ++ (pairs dist h.places ++ pairs dist l.places)) := by
          rw [pairs_app]
          exact List.perm_append_comm.append_left fd
        show _ = topk k (fd ++ pairs dist (l.places ++ h.places))
        rw [topk_perm pm]
        refine cut_step e1 id (fun q hq => ?_) (fun _ => e2)
        obtain ⟨p, hp, rfl⟩ := List.mem_map.mp hq
        obtain ⟨p0, p1⟩ := ok_places ol p hp
        exact G.g1 p a v p0 p1 a0 a1 (fl p hp) (by omega)
      · split
        · omega
        · show _ + _ ≤ _
          omega
end K06

set_option Elab.async false
set_option linter.all false
set_option maxRecDepth 100000
set_option maxHeartbeats 4000000
namespace K06
open PySem L2 PD
theorem parts_perm {vs : List (List Int)} {a v : Int} {ps : List Int} : (lows vs a v ps ++ highs vs a v ps).Perm ps := by
  have h := List.filter_append_perm (fun p => decide (nth (nth vs p) a ≤ v)) ps
  have e : (ps.filter fun p => !decide (nth (nth vs p) a ≤ v)) = highs vs a v ps := by
    unfold highs
    apply List.filter_congr
    intro p _
    by_cases h : nth (nth vs p) a ≤ v
    · simp [h]
    · simp [h]
      omega
  rw [e] at h
  exact h
theorem split_facts {vs : List (List Int)} {n : Nat} (hn : 0 < n) (hv : ∀ v ∈ vs, v.length = n) (hb : ∀ v ∈ vs, ∀ x ∈ v, -1000 ≤ x ∧ x ≤ 1000) : ∀ (f : Nat) (ps : List Int), ps.length < f → ps.length ≤ 1000 → (∀ p ∈ ps, 0 ≤ p ∧ p < (vs.length : Int)) →
    (split vs n f ps).places.Perm ps ∧ (split vs n f ps).fits vs ∧ (split vs n f ps).ok n vs.length
  | 0, ps, h, _, _ => absurd h (by omega)
  | f + 1, ps, hf, hz, hp => by
    unfold split
    by_cases h0 : ps.length = 0
    · rw [if_pos h0]
      have := List.eq_nil_of_length_eq_zero h0
      subst this
      exact ⟨List.Perm.refl _, trivial, trivial⟩
    · rw [if_neg h0]
      by_cases hc : ps.length ≤ 2 ∨ maxI (gapL vs n ps) = 0
      · rw [if_pos hc]
        exact ⟨List.Perm.refl _, trivial, hz, hp⟩
      · rw [if_neg hc]
        obtain ⟨a0, a1⟩ := axis_in (vs := vs) (ps := ps) hn
        have hw : maxI (gapL vs n ps) ≠ 0 := by omega
        have g := gap_axis (vs := vs) (ps := ps) hn
        obtain ⟨h1, _⟩ := val_in (c := col vs ps (axisOf vs n ps)) (by simp [col]; omega) (by omega)
        obtain ⟨q, hq1, e1⟩ := List.mem_map.mp h1
        obtain ⟨q0, q1⟩ := hp q hq1
        have hvq := nth_mem (xs := vs) q0 q1
        have hbq := hb _ hvq (nth (nth vs q) (axisOf vs n ps)) (nth_mem a0 (by rw [hv _ hvq]; exact a1))
        rw [e1] at hbq
        obtain ⟨l1, l2⟩ := cut_less (vs := vs) hn (show 0 < ps.length by omega) hw
        obtain ⟨i1, i2, i3⟩ := split_facts hn hv hb f (lows vs (axisOf vs n ps) (cutOf vs n ps) ps) (by omega) (by omega) fun p h => hp p (List.mem_filter.mp h).1
        obtain ⟨j1, j2, j3⟩ := split_facts hn hv hb f (highs vs (axisOf vs n ps) (cutOf vs n ps) ps) (by omega) (by omega) fun p h => hp p (List.mem_filter.mp h).1
        refine ⟨(i1.append j1).trans parts_perm, ⟨fun p h => ?_, fun p h => ?_, i2, j2⟩, a0, a1, hbq, i3, j3⟩
        · exact of_decide_eq_true (List.mem_filter.mp (i1.mem_iff.mp h)).2
        · exact of_decide_eq_true (List.mem_filter.mp (j1.mem_iff.mp h)).2
/-! the gaps of the ways -/
theorem sub_nth {u v : List Int} (h : u.length = v.length) {a : Int} (a0 : 0 ≤ a) (a1 : a < (u.length : Int)) : nth u a - nth v a ∈ subI u v := by
  have e : nth (subI u v) a = nth u a - nth v a := by
    have hu : a.toNat < u.length := by omega
    have hv : a.toNat < v.length := by omega
    have hz : a.toNat < (subI u v).length := by
      rw [subI_len h]
      exact hu
    have e2 : (subI u v)[a.toNat]'hz = u[a.toNat] - v[a.toNat] := by
      unfold subI
      exact List.getElem_zipWith
    unfold nth
    rw [List.getD_eq_getElem?_getD, List.getD_eq_getElem?_getD, List.getD_eq_getElem?_getD, List.getElem?_eq_getElem hz, List.getElem?_eq_getElem hu, List.getElem?_eq_getElem hv, e2]
    rfl
  rw [← e]
  exact nth_mem a0 (by rw [subI_len h]; exact a1)
theorem absI_pos (x : Int) : 0 ≤ absI x := by
  unfold absI
  split <;> omega
theorem sum_ge {s : List Int} {f : Int → Int} (hf : ∀ x, 0 ≤ f x) {x : Int} (hx : x ∈ s) : f x ≤ (s.map f).sum := by
  have nn : ∀ s : List Int, 0 ≤ (s.map f).sum := fun s => by
    induction s with
    | nil => simp
    | cons y r ih =>
      simp only [List.map_cons, List.sum_cons]
      have := hf y
      omega
  induction s with
  | nil => cases hx
  | cons y r ih =>
    simp only [List.map_cons, List.sum_cons]
    rcases List.mem_cons.mp hx with rfl | q
    · have := nn r
      omega
    · have := ih q
      have := hf y
      omega
theorem sq_mono {x y : Int} (h0 : 0 ≤ x) (h : x ≤ y) : x * x ≤ y * y := Int.mul_le_mul h h h0 (by omega)
theorem absI_of (x : Int) (h : 0 ≤ x) : absI x = x := by
  unfold absI
  rw [if_neg (by omega)]
theorem far_gap {W : Way} (hW : W = .steps ∨ W = .air ∨ W = .widest) {s : List Int} {y g : Int} (hy : y ∈ s) (hg : absI g ≤ absI y) : gapW W g ≤ W.far s := by
  rcases hW with rfl | rfl | rfl
  · have := sum_ge absI_pos hy
    show (if isAir .steps = true then _ else _) ≤ (s.map absI).sum
    rw [if_neg (by decide)]
    omega
  · have := sum_ge (f := fun x => x * x) (fun x => by rw [← absI_sq]; exact Int.mul_nonneg (absI_pos x) (absI_pos x)) hy
    have h2 := sq_mono (absI_pos g) hg
    rw [absI_sq, absI_sq] at h2
    show (if isAir .air = true then _ else _) ≤ (s.map fun x => x * x).sum
    rw [if_pos (by decide)]
    omega
  · have := le_maxI (s := s.map absI) (x := absI y) (List.mem_map.mpr ⟨y, hy, rfl⟩)
    show (if isAir .widest = true then _ else _) ≤ maxI (s.map absI)
    rw [if_neg (by decide)]
    omega
theorem gaps_of {W : Way} (hW : W = .steps ∨ W = .air ∨ W = .widest) {n : Nat} {vs : List (List Int)} {vec : List Int} (hl : vec.length = n) (hv : ∀ v ∈ vs, v.length = n) : Gaps vs vec (fun p => W.far (subI vec (nth vs p))) (gapW W) n where
  g1 := fun p a v p0 p1 a0 a1 h1 h2 => by
    have hm := sub_nth (u := vec) (v := nth vs p) (by rw [hl, hv _ (nth_mem p0 p1)]) a0 (by rw [hl]; exact a1)
    refine far_gap hW hm ?_
    rw [absI_of _ (by omega), absI_of _ (by omega)]
    omega
  g2 := fun p a v p0 p1 a0 a1 h1 h2 => by
    have hm := sub_nth (u := vec) (v := nth vs p) (by rw [hl, hv _ (nth_mem p0 p1)]) a0 (by rw [hl]; exact a1)
    refine far_gap hW hm ?_
    unfold absI
    split <;> split <;> omega
end K06

set_option Elab.async false
set_option linter.all false
set_option maxRecDepth 100000
set_option maxHeartbeats 4000000
namespace K06
open PySem L2 PD
inductive RT where
  | non | one (p : Int) | node (p most : Int) (inner outer : RT)
def RT.d : RT → D
  | .non => .non
  | .one p => .int p
  | .node p m i o => .tup [.int p, .int m, i.d, o.d]
def mostOf (d2 : Int → Int → Int) (p : Int) (rest : List Int) : Int := nth (sortI (rest.map (d2 p))) (((rest.length : Int) + 1) / 2 - 1)
def rings (d2 : Int → Int → Int) : Nat → List Int → RT
  | 0, _ => .non
  | _ + 1, [] => .non
  | _ + 1, [p] => .one p
  | f + 1, p :: q :: r => .node p (mostOf d2 p (q :: r)) (rings d2 f ((q :: r).filter fun x => decide (d2 p x ≤ mostOf d2 p (q :: r)))) (rings d2 f ((q :: r).filter fun x => decide (mostOf d2 p (q :: r) < d2 p x)))
theorem cutD_tail {α : Type} {x : α} {r : List α} : cutD (x :: r) (some 1) none = r := by
  rw [cutD_drop (by omega)]
  rfl
theorem run_rings {vs : List (List Int)} {W : Way} {d2 : Int → Int → Int} (hd : ∀ p q, 0 ≤ p → p < (vs.length : Int) → 0 ≤ q → q < (vs.length : Int) → run_far [W.d, intT (nth vs p), intT (nth vs q)] = some (.int (d2 p q))) : ∀ (f : Nat) (ps : List Int), ps.length < f → ps.length ≤ 1000 → (∀ p ∈ ps, 0 ≤ p ∧ p < (vs.length : Int)) → run_rings_of f [.tup (vs.map intT), W.d, .lst (ps.map .int)] = some (rings d2 f ps).d
  | 0, ps, h, _, _ => absurd h (by omega)
  | f + 1, ps, hf, hz, hp => by
    have ih := run_rings hd f
    show runC 3 7 (b_rings_of (run_rings_of f)) _ = _
    refine runC_rt rfl ?_
    simp only [List.map_cons, List.map_nil, List.replicate, List.cons_append, List.nil_append, List.set_cons_succ, List.set_cons_zero]
    match ps, hf, hz, hp with
    | [], _, _, _ => exact seq_if1r rfl rfl
    | [p], _, _, _ =>
      refine seq_if0 rfl ?_
      refine seq_asg (d := .tup [.int p, .lst []]) rfl rfl ?_
      exact seq_if1r rfl rfl
    | p :: q :: r, hf, hz, hp =>
      obtain ⟨p0, p1⟩ := hp p List.mem_cons_self
      have hr : ∀ x ∈ q :: r, 0 ≤ x ∧ x < (vs.length : Int) := fun x hx => hp x (List.mem_cons_of_mem _ hx)
      have hg : ∀ x ∈ q :: r, gIx (.tup (vs.map intT)) (.int x) = some (intT (nth vs x)) := fun x hx => gIx_tm (hr x hx).1 (hr x hx).2
      have hgp : gIx (.tup (vs.map intT)) (.int p) = some (intT (nth vs p)) := gIx_tm p0 p1
      have hfr : ∀ x ∈ q :: r, run_far [W.d, intT (nth vs p), intT (nth vs x)] = some (.int (d2 p x)) := fun x hx => hd p x p0 p1 (hr x hx).1 (hr x hx).2
      refine seq_if0 rfl ?_
      refine seq_asg (d := .tup [.int p, .lst ((q :: r).map D.int)]) (by
        simp -implicitDefEqProofs (disch := first | assumption | omega | (simp only [List.length_map, rngN_len, sortI_len]; omega)) only [List.map_cons, ev_tup, ev_cons, ev_nil, ev_op, ev_sl, ev_c, ev_bvar, ev_oYes, ev_oNo, intO_i, List.getElem?_cons_succ, List.getElem?_cons_zero, Option.bind_some, slB_val, gSl_l, gIx_l0, cutD_tail]
        first | done | exact rfl) rfl ?_
      have hlen : (q :: r).length + 1 = (p :: q :: r).length := rfl
      show _ = some (Out.rt (RT.node p (mostOf d2 p (q :: r)) (rings d2 f ((q :: r).filter fun x => decide (d2 p x ≤ mostOf d2 p (q :: r)))) (rings d2 f ((q :: r).filter fun x => decide (mostOf d2 p (q :: r) < d2 p x)))).d)
      have h0 : 0 < (q :: r).length := by simp
      have e4 : (p :: q :: r).map D.int = .int p :: (q :: r).map D.int := rfl
      have hlf : (q :: r).length < f := by
        have : (p :: q :: r).length = (q :: r).length + 1 := rfl
        omega
      have hlz : (q :: r).length ≤ 1000 := by
        have : (p :: q :: r).length = (q :: r).length + 1 := rfl
        omega
      clear hf hz
      generalize q :: r = rest at hr hg hfr hlen h0 hlf hlz e4
      generalize p :: rest = all at hlen e4
      simp only [List.set_cons_succ, List.set_cons_zero]
      refine seq_if0 (by
        simp -implicitDefEqProofs (disch := first | assumption | omega | (simp only [List.length_map, rngN_len, sortI_len]; omega)) only [ev_asL, ev_lc, ev_rg1', ev_call, ev_cons, ev_nil, ev_op, ev_c, ev_bvar, ev_var, List.getElem?_cons_succ, List.getElem?_cons_zero, Option.bind_some, Option.map_some, slB_val, slV_val, slB_own, gLen_l, gLen_t, gLen_iT, List.length_map, rgA_1, rgO_ok, lim_ok, rngN_len, if_true, fltE_map, mapME_map, ev_gNm, ev_tYes, wipe_cons, wipe_nil, List.set_cons_succ, List.set_cons_zero, fltE_yes, fltE_p, fltP_some, fltE_rg, fltRg_p, fltRg_yes, fltRp_some, mapME_rg, mapRg_some, ev_iseq, itemsD_l, itemsD_t, mapME_some, gIx_lm, gIx_tm, Int.toNat_natCast, gAdd_i, gSub_i, map_i, ev_un, ev_asB, ev_asT, ev_not, ev_and, ev_or, ev_eif, ev_fcall, blD_bl, gEq_i, gNe_i, gLt_i, gLe_i, gGt_i, gGe_i, gNeg_i, truD_bl, ev_fn, gTuple_l, gTuple_t, gMod_i, gDiv_i, gMul_l, gMul_r, gMaxA_l', gMinA_l', gMaxA_t', gMinA_t', gSortA_l', sortI_len, gIx_last, truD_lm, truD_tm, ev_m1, gIndex_i, ev_oNo, ev_oYes, intO_i, ev_sl, gSl_l, gSl_t, cutD_map, gInt_i, gInt_b, gAbs_i, gSum_l, gSum_t, ev_isi, ev_eand, ev_eor, ev_enot, gIn_il, gIn_it, gNotIn_il, gNotIn_it, gIs_n, gIsNot_n, isNon_n, isNon_t, isNon_l, isNon_i, isNon_b, ev_tup, ev_lst, limT_0, mkL_0, limT_1, mkL_1, limT_2, mkL_2, limT_3, mkL_3, limT_4, mkL_4, limT_5, mkL_5, limT_6, mkL_6, limT_7, mkL_7, limT_8, mkL_8, gAdd_ll, gAdd_tt, gMax2_i, gMin2_i, gIx_p0, gIx_p1, ev_rev, cutD_take, cutD_drop, gSortA_pair, some_or, some_and, bl_or, bl_and, gIx_t0, gIx_l0, gIx_t1, gIx_l1, gIx_t2, gIx_l2, gIx_t3, gIx_l3, gIx_t4, gIx_l4, gIx_t5, gIx_l5]
        rw [decide_eq_true h0]
        rfl) ?_
      refine seq_set (d := .lst ((sortI (rest.map (d2 p))).map D.int)) (by
        simp -implicitDefEqProofs (disch := first | assumption | omega | (simp only [List.length_map, rngN_len, sortI_len]; omega)) only [ev_asL, ev_lc, ev_rg1', ev_call, ev_cons, ev_nil, ev_op, ev_c, ev_bvar, ev_var, List.getElem?_cons_succ, List.getElem?_cons_zero, Option.bind_some, Option.map_some, slB_val, slV_val, slB_own, gLen_l, gLen_t, gLen_iT, List.length_map, rgA_1, rgO_ok, lim_ok, rngN_len, if_true, fltE_map, mapME_map, ev_gNm, ev_tYes, wipe_cons, wipe_nil, List.set_cons_succ, List.set_cons_zero, fltE_yes, fltE_p, fltP_some, fltE_rg, fltRg_p, fltRg_yes, fltRp_some, mapME_rg, mapRg_some, ev_iseq, itemsD_l, itemsD_t, mapME_some, gIx_lm, gIx_tm, Int.toNat_natCast, gAdd_i, gSub_i, map_i, ev_un, ev_asB, ev_asT, ev_not, ev_and, ev_or, ev_eif, ev_fcall, blD_bl, gEq_i, gNe_i, gLt_i, gLe_i, gGt_i, gGe_i, gNeg_i, truD_bl, ev_fn, gTuple_l, gTuple_t, gMod_i, gDiv_i, gMul_l, gMul_r, gMaxA_l', gMinA_l', gMaxA_t', gMinA_t', gSortA_l', sortI_len, gIx_last, truD_lm, truD_tm, ev_m1, gIndex_i, ev_oNo, ev_oYes, intO_i, ev_sl, gSl_l, gSl_t, cutD_map, gInt_i, gInt_b, gAbs_i, gSum_l, gSum_t, ev_isi, ev_eand, ev_eor, ev_enot, gIn_il, gIn_it, gNotIn_il, gNotIn_it, gIs_n, gIsNot_n, isNon_n, isNon_t, isNon_l, isNon_i, isNon_b, ev_tup, ev_lst, limT_0, mkL_0, limT_1, mkL_1, limT_2, mkL_2, limT_3, mkL_3, limT_4, mkL_4, limT_5, mkL_5, limT_6, mkL_6, limT_7, mkL_7, limT_8, mkL_8, gAdd_ll, gAdd_tt, gMax2_i, gMin2_i, gIx_p0, gIx_p1, ev_rev, cutD_take, cutD_drop, gSortA_pair, some_or, some_and, bl_or, bl_and, gIx_t0, gIx_l0, gIx_t1, gIx_l1, gIx_t2, gIx_l2, gIx_t3, gIx_l3, gIx_t4, gIx_l4, gIx_t5, gIx_l5, hg, hgp, hfr]
        first | done | exact rfl) ?_
      simp only [List.map_cons, List.map_nil, List.replicate, List.cons_append, List.nil_append, List.set_cons_succ, List.set_cons_zero]
      refine seq_set (d := .int (mostOf d2 p rest)) (by
        simp -implicitDefEqProofs (disch := first | assumption | omega | (simp only [List.length_map, rngN_len, sortI_len]; omega)) only [ev_asL, ev_lc, ev_rg1', ev_call, ev_cons, ev_nil, ev_op, ev_c, ev_bvar, ev_var, List.getElem?_cons_succ, List.getElem?_cons_zero, Option.bind_some, Option.map_some, slB_val, slV_val, slB_own, gLen_l, gLen_t, gLen_iT, List.length_map, rgA_1, rgO_ok, lim_ok, rngN_len, if_true, fltE_map, mapME_map, ev_gNm, ev_tYes, wipe_cons, wipe_nil, List.set_cons_succ, List.set_cons_zero, fltE_yes, fltE_p, fltP_some, fltE_rg, fltRg_p, fltRg_yes, fltRp_some, mapME_rg, mapRg_some, ev_iseq, itemsD_l, itemsD_t, mapME_some, gIx_lm, gIx_tm, Int.toNat_natCast, gAdd_i, gSub_i, map_i, ev_un, ev_asB, ev_asT, ev_not, ev_and, ev_or, ev_eif, ev_fcall, blD_bl, gEq_i, gNe_i, gLt_i, gLe_i, gGt_i, gGe_i, gNeg_i, truD_bl, ev_fn, gTuple_l, gTuple_t, gMod_i, gDiv_i, gMul_l, gMul_r, gMaxA_l', gMinA_l', gMaxA_t', gMinA_t', gSortA_l', sortI_len, gIx_last, truD_lm, truD_tm, ev_m1, gIndex_i, ev_oNo, ev_oYes, intO_i, ev_sl, gSl_l, gSl_t, cutD_map, gInt_i, gInt_b, gAbs_i, gSum_l, gSum_t, ev_isi, ev_eand, ev_eor, ev_enot, gIn_il, gIn_it, gNotIn_il, gNotIn_it, gIs_n, gIsNot_n, isNon_n, isNon_t, isNon_l, isNon_i, isNon_b, ev_tup, ev_lst, limT_0, mkL_0, limT_1, mkL_1, limT_2, mkL_2, limT_3, mkL_3, limT_4, mkL_4, limT_5, mkL_5, limT_6, mkL_6, limT_7, mkL_7, limT_8, mkL_8, gAdd_ll, gAdd_tt, gMax2_i, gMin2_i, gIx_p0, gIx_p1, ev_rev, cutD_take, cutD_drop, gSortA_pair, some_or, some_and, bl_or, bl_and, gIx_t0, gIx_l0, gIx_t1, gIx_l1, gIx_t2, gIx_l2, gIx_t3, gIx_l3, gIx_t4, gIx_l4, gIx_t5, gIx_l5]
        first | done | exact rfl) ?_
      simp only [List.map_cons, List.map_nil, List.replicate, List.cons_append, List.nil_append, List.set_cons_succ, List.set_cons_zero]
      refine seq_set (d := .lst ((rest.filter fun x => decide (d2 p x ≤ mostOf d2 p rest)).map D.int)) (by
        simp -implicitDefEqProofs (disch := first | assumption | omega | (simp only [List.length_map, rngN_len, sortI_len]; omega)) only [ev_asL, ev_lc, ev_rg1', ev_call, ev_cons, ev_nil, ev_op, ev_c, ev_bvar, ev_var, List.getElem?_cons_succ, List.getElem?_cons_zero, Option.bind_some, Option.map_some, slB_val, slV_val, slB_own, gLen_l, gLen_t, gLen_iT, List.length_map, rgA_1, rgO_ok, lim_ok, rngN_len, if_true, fltE_map, mapME_map, ev_gNm, ev_tYes, wipe_cons, wipe_nil, List.set_cons_succ, List.set_cons_zero, fltE_yes, fltE_p, fltP_some, fltE_rg, fltRg_p, fltRg_yes, fltRp_some, mapME_rg, mapRg_some, ev_iseq, itemsD_l, itemsD_t, mapME_some, gIx_lm, gIx_tm, Int.toNat_natCast, gAdd_i, gSub_i, map_i, ev_un, ev_asB, ev_asT, ev_not, ev_and, ev_or, ev_eif, ev_fcall, blD_bl, gEq_i, gNe_i, gLt_i, gLe_i, gGt_i, gGe_i, gNeg_i, truD_bl, ev_fn, gTuple_l, gTuple_t, gMod_i, gDiv_i, gMul_l, gMul_r, gMaxA_l', gMinA_l', gMaxA_t', gMinA_t', gSortA_l', sortI_len, gIx_last, truD_lm, truD_tm, ev_m1, gIndex_i, ev_oNo, ev_oYes, intO_i, ev_sl, gSl_l, gSl_t, cutD_map, gInt_i, gInt_b, gAbs_i, gSum_l, gSum_t, ev_isi, ev_eand, ev_eor, ev_enot, gIn_il, gIn_it, gNotIn_il, gNotIn_it, gIs_n, gIsNot_n, isNon_n, isNon_t, isNon_l, isNon_i, isNon_b, ev_tup, ev_lst, limT_0, mkL_0, limT_1, mkL_1, limT_2, mkL_2, limT_3, mkL_3, limT_4, mkL_4, limT_5, mkL_5, limT_6, mkL_6, limT_7, mkL_7, limT_8, mkL_8, gAdd_ll, gAdd_tt, gMax2_i, gMin2_i, gIx_p0, gIx_p1, ev_rev, cutD_take, cutD_drop, gSortA_pair, some_or, some_and, bl_or, bl_and, gIx_t0, gIx_l0, gIx_t1, gIx_l1, gIx_t2, gIx_l2, gIx_t3, gIx_l3, gIx_t4, gIx_l4, gIx_t5, gIx_l5, hg, hgp, hfr]
        first | done | exact rfl) ?_
      simp only [List.map_cons, List.map_nil, List.replicate, List.cons_append, List.nil_append, List.set_cons_succ, List.set_cons_zero]
      refine seq_set (d := .lst ((rest.filter fun x => decide (mostOf d2 p rest < d2 p x)).map D.int)) (by
        simp -implicitDefEqProofs (disch := first | assumption | omega | (simp only [List.length_map, rngN_len, sortI_len]; omega)) only [ev_asL, ev_lc, ev_rg1', ev_call, ev_cons, ev_nil, ev_op, ev_c, ev_bvar, ev_var, List.getElem?_cons_succ, List.getElem?_cons_zero, Option.bind_some, Option.map_some, slB_val, slV_val, slB_own, gLen_l, gLen_t, gLen_iT, List.length_map, rgA_1, rgO_ok, lim_ok, rngN_len, if_true, fltE_map, mapME_map, ev_gNm, ev_tYes, wipe_cons, wipe_nil, List.set_cons_succ, List.set_cons_zero, fltE_yes, fltE_p, fltP_some, fltE_rg, fltRg_p, fltRg_yes, fltRp_some, mapME_rg, mapRg_some, ev_iseq, itemsD_l, itemsD_t, mapME_some, gIx_lm, gIx_tm, Int.toNat_natCast, gAdd_i, gSub_i, map_i, ev_un, ev_asB, ev_asT, ev_not, ev_and, ev_or, ev_eif, ev_fcall, blD_bl, gEq_i, gNe_i, gLt_i, gLe_i, gGt_i, gGe_i, gNeg_i, truD_bl, ev_fn, gTuple_l, gTuple_t, gMod_i, gDiv_i, gMul_l, gMul_r, gMaxA_l', gMinA_l', gMaxA_t', gMinA_t', gSortA_l', sortI_len, gIx_last, truD_lm, truD_tm, ev_m1, gIndex_i, ev_oNo, ev_oYes, intO_i, ev_sl, gSl_l, gSl_t, cutD_map, gInt_i, gInt_b, gAbs_i, gSum_l, gSum_t, ev_isi, ev_eand, ev_eor, ev_enot, gIn_il, gIn_it, gNotIn_il, gNotIn_it, gIs_n, gIsNot_n, isNon_n, isNon_t, isNon_l, isNon_i, isNon_b, ev_tup, ev_lst, limT_0, mkL_0, limT_1, mkL_1, limT_2, mkL_2, limT_3, mkL_3, limT_4, mkL_4, limT_5, mkL_5, limT_6, mkL_6, limT_7, mkL_7, limT_8, mkL_8, gAdd_ll, gAdd_tt, gMax2_i, gMin2_i, gIx_p0, gIx_p1, ev_rev, cutD_take, cutD_drop, gSortA_pair, some_or, some_and, bl_or, bl_and, gIx_t0, gIx_l0, gIx_t1, gIx_l1, gIx_t2, gIx_l2, gIx_t3, gIx_l3, gIx_t4, gIx_l4, gIx_t5, gIx_l5, hg, hgp, hfr]
        first | done | exact rfl) ?_
      simp only [List.map_cons, List.map_nil, List.replicate, List.cons_append, List.nil_append, List.set_cons_succ, List.set_cons_zero]
      have l1 := List.length_filter_le (fun x => decide (d2 p x ≤ mostOf d2 p rest)) rest
      have l2 := List.length_filter_le (fun x => decide (mostOf d2 p rest < d2 p x)) rest
      have i1 := ih (rest.filter fun x => decide (d2 p x ≤ mostOf d2 p rest)) (by omega) (by omega) fun x h => hr x (List.mem_filter.mp h).1
      have i2 := ih (rest.filter fun x => decide (mostOf d2 p rest < d2 p x)) (by omega) (by omega) fun x h => hr x (List.mem_filter.mp h).1
      refine run_ret ?_
      simp -implicitDefEqProofs (disch := first | assumption | omega | (simp only [List.length_map, rngN_len, sortI_len]; omega)) only [ev_asL, ev_lc, ev_rg1', ev_call, ev_cons, ev_nil, ev_op, ev_c, ev_bvar, ev_var, List.getElem?_cons_succ, List.getElem?_cons_zero, Option.bind_some, Option.map_some, slB_val, slV_val, slB_own, gLen_l, gLen_t, gLen_iT, List.length_map, rgA_1, rgO_ok, lim_ok, rngN_len, if_true, fltE_map, mapME_map, ev_gNm, ev_tYes, wipe_cons, wipe_nil, List.set_cons_succ, List.set_cons_zero, fltE_yes, fltE_p, fltP_some, fltE_rg, fltRg_p, fltRg_yes, fltRp_some, mapME_rg, mapRg_some, ev_iseq, itemsD_l, itemsD_t, mapME_some, gIx_lm, gIx_tm, Int.toNat_natCast, gAdd_i, gSub_i, map_i, ev_un, ev_asB, ev_asT, ev_not, ev_and, ev_or, ev_eif, ev_fcall, blD_bl, gEq_i, gNe_i, gLt_i, gLe_i, gGt_i, gGe_i, gNeg_i, truD_bl, ev_fn, gTuple_l, gTuple_t, gMod_i, gDiv_i, gMul_l, gMul_r, gMaxA_l', gMinA_l', gMaxA_t', gMinA_t', gSortA_l', sortI_len, gIx_last, truD_lm, truD_tm, ev_m1, gIndex_i, ev_oNo, ev_oYes, intO_i, ev_sl, gSl_l, gSl_t, cutD_map, gInt_i, gInt_b, gAbs_i, gSum_l, gSum_t, ev_isi, ev_eand, ev_eor, ev_enot, gIn_il, gIn_it, gNotIn_il, gNotIn_it, gIs_n, gIsNot_n, isNon_n, isNon_t, isNon_l, isNon_i, isNon_b, ev_tup, ev_lst, limT_0, mkL_0, limT_1, mkL_1, limT_2, mkL_2, limT_3, mkL_3, limT_4, mkL_4, limT_5, mkL_5, limT_6, mkL_6, limT_7, mkL_7, limT_8, mkL_8, gAdd_ll, gAdd_tt, gMax2_i, gMin2_i, gIx_p0, gIx_p1, ev_rev, cutD_take, cutD_drop, gSortA_pair, some_or, some_and, bl_or, bl_and, gIx_t0, gIx_l0, gIx_t1, gIx_l1, gIx_t2, gIx_l2, gIx_t3, gIx_l3, gIx_t4, gIx_l4, gIx_t5, gIx_l5, i1, i2]
      first | done | exact rfl
end K06

set_option Elab.async false
set_option linter.all false
set_option maxRecDepth 100000
set_option maxHeartbeats 4000000
namespace K06
open PySem L2 PD
theorem not_inner {d2 : Int → Int → Int} {p m : Int} {rest : List Int} : (rest.filter fun x => !decide (x ∈ rest.filter fun x => decide (d2 p x ≤ m))) = rest.filter fun x => decide (m < d2 p x) := by
  apply List.filter_congr
  intro x hx
  by_cases h : d2 p x ≤ m
  · simp [List.mem_filter, hx, h]
  · simp [List.mem_filter, h]
    omega
theorem run_lrings {vs : List (List Int)} {W : Way} {d2 : Int → Int → Int} (hd : ∀ p q, 0 ≤ p → p < (vs.length : Int) → 0 ≤ q → q < (vs.length : Int) → run_l_far [W.d, intT (nth vs p), intT (nth vs q)] = some (.int (d2 p q))) : ∀ (f : Nat) (ps : List Int), ps.length < f → ps.length ≤ 1000 → (∀ p ∈ ps, 0 ≤ p ∧ p < (vs.length : Int)) → run_l_ring f [.tup (vs.map intT), W.d, .lst (ps.map .int)] = some (rings d2 f ps).d
  | 0, ps, h, _, _ => absurd h (by omega)
  | f + 1, ps, hf, hz, hp => by
    have ih := run_lrings hd f
    show runC 3 5 (b_l_ring (run_l_ring f)) _ = _
    refine runC_rt rfl ?_
    simp only [List.map_cons, List.map_nil, List.replicate, List.cons_append, List.nil_append, List.set_cons_succ, List.set_cons_zero]
    match ps, hf, hz, hp with
    | [], _, _, _ => exact seq_if1r rfl rfl
    | [p], _, _, _ =>
      refine seq_if0 rfl ?_
      exact seq_if1r rfl rfl
    | p :: q :: r, hf, hz, hp =>
      obtain ⟨p0, p1⟩ := hp p List.mem_cons_self
      have hr : ∀ x ∈ q :: r, 0 ≤ x ∧ x < (vs.length : Int) := fun x hx => hp x (List.mem_cons_of_mem _ hx)
      have hg : ∀ x ∈ q :: r, gIx (.tup (vs.map intT)) (.int x) = some (intT (nth vs x)) := fun x hx => gIx_tm (hr x hx).1 (hr x hx).2
      have hgp : gIx (.tup (vs.map intT)) (.int p) = some (intT (nth vs p)) := gIx_tm p0 p1
      have hfr : ∀ x ∈ q :: r, run_l_far [W.d, intT (nth vs p), intT (nth vs x)] = some (.int (d2 p x)) := fun x hx => hd p x p0 p1 (hr x hx).1 (hr x hx).2
      have g1 : gLen [.lst ((p :: q :: r).map D.int)] = some (.int (((q :: r).length : Int) + 1)) := by
        rw [gLen_l, List.length_map]
        rfl
      have g2 : gIx (.lst ((p :: q :: r).map D.int)) (.int 0) = some (.int p) := gIx_l0
      have g3 : gSl (.lst ((p :: q :: r).map D.int)) (some 1) none = some (.lst ((q :: r).map D.int)) := by
        rw [gSl_l, List.map_cons, cutD_tail]
      have hlf : (q :: r).length < f := by
        have : (p :: q :: r).length = (q :: r).length + 1 := rfl
        omega
      have hlz : (q :: r).length ≤ 1000 := by
        have : (p :: q :: r).length = (q :: r).length + 1 := rfl
        omega
      have h0 : 0 < (q :: r).length := by simp
      show _ = some (Out.rt (RT.node p (mostOf d2 p (q :: r)) (rings d2 f ((q :: r).filter fun x => decide (d2 p x ≤ mostOf d2 p (q :: r)))) (rings d2 f ((q :: r).filter fun x => decide (mostOf d2 p (q :: r) < d2 p x)))).d)
      clear hf hz hp
      generalize (p :: q :: r).map D.int = all at g1 g2 g3
      generalize q :: r = rest at hr hg hfr h0 hlf hlz g1 g2 g3
      have c0 : ¬ ((rest.length : Int) + 1 = 0) := by omega
      have c1 : ¬ ((rest.length : Int) + 1 = 1) := by omega
      refine seq_if0 (by
        simp only [ev_asB, ev_op, ev_call, ev_cons, ev_nil, ev_c, ev_bvar, List.getElem?_cons_succ, List.getElem?_cons_zero, Option.bind_some, slB_val, g1, gEq_i, blD_bl, decide_eq_false c0]) ?_
      refine seq_if0 (by
        simp only [ev_asB, ev_op, ev_call, ev_cons, ev_nil, ev_c, ev_bvar, List.getElem?_cons_succ, List.getElem?_cons_zero, Option.bind_some, slB_val, g1, gEq_i, blD_bl, decide_eq_false c1]) ?_
      refine seq_set (d := .lst ((sortI (rest.map (d2 p))).map D.int)) (by
        simp -implicitDefEqProofs (disch := first | assumption | omega | (simp only [List.length_map, rngN_len, sortI_len]; omega)) only [g1, g2, g3, ev_asL, ev_fcall, ev_cons, ev_nil, ev_lc, ev_iseq, ev_sl, ev_bvar, ev_var, ev_fn, ev_op, ev_c, ev_oYes, ev_oNo, intO_i, List.getElem?_cons_succ, List.getElem?_cons_zero, Option.bind_some, Option.map_some, slB_val, slV_val, itemsD_l, List.length_map, lim_ok, if_true, ev_gNm, ev_tYes, wipe_cons, wipe_nil, List.set_cons_succ, List.set_cons_zero, fltE_yes, mapME_map, mapME_some, hg, hgp, hfr, map_i, gSortA_l']) ?_
      simp only [List.map_cons, List.map_nil, List.replicate, List.cons_append, List.nil_append, List.set_cons_succ, List.set_cons_zero]
      refine seq_set (d := .int (mostOf d2 p rest)) (by
        simp -implicitDefEqProofs (disch := first | assumption | omega | (simp only [List.length_map, rngN_len, sortI_len]; omega)) only [g1, g2, g3, ev_op, ev_call, ev_cons, ev_nil, ev_c, ev_bvar, List.getElem?_cons_succ, List.getElem?_cons_zero, Option.bind_some, slB_val, gDiv_i, gSub_i, gIx_lm]
        first | done | exact rfl) ?_
      simp only [List.map_cons, List.map_nil, List.replicate, List.cons_append, List.nil_append, List.set_cons_succ, List.set_cons_zero]
      refine seq_set (d := .lst ((rest.filter fun x => decide (d2 p x ≤ mostOf d2 p rest)).map D.int)) (by
        simp -implicitDefEqProofs (disch := first | assumption | omega | (simp only [List.length_map, rngN_len, sortI_len]; omega)) only [g1, g2, g3, ev_asL, ev_asB, ev_fcall, ev_cons, ev_nil, ev_lc, ev_iseq, ev_sl, ev_bvar, ev_var, ev_fn, ev_op, ev_c, ev_oYes, ev_oNo, intO_i, List.getElem?_cons_succ, List.getElem?_cons_zero, Option.bind_some, Option.map_some, slB_val, slV_val, itemsD_l, List.length_map, lim_ok, if_true, ev_gNm, ev_tYes, wipe_cons, wipe_nil, List.set_cons_succ, List.set_cons_zero, fltE_map, fltE_p, fltP_some, hg, hgp, hfr, gLe_i, blD_bl]) ?_
      simp only [List.map_cons, List.map_nil, List.replicate, List.cons_append, List.nil_append, List.set_cons_succ, List.set_cons_zero]
      refine seq_set (d := .lst ((rest.filter fun x => decide (mostOf d2 p rest < d2 p x)).map D.int)) (by
        simp -implicitDefEqProofs (disch := first | assumption | omega | (simp only [List.length_map, rngN_len, sortI_len]; omega)) only [g1, g2, g3, ev_asL, ev_asB, ev_fcall, ev_cons, ev_nil, ev_lc, ev_iseq, ev_sl, ev_bvar, ev_var, ev_fn, ev_op, ev_c, ev_oYes, ev_oNo, intO_i, List.getElem?_cons_succ, List.getElem?_cons_zero, Option.bind_some, Option.map_some, slB_val, slV_val, itemsD_l, List.length_map, lim_ok, if_true, ev_gNm, ev_tYes, wipe_cons, wipe_nil, List.set_cons_succ, List.set_cons_zero, fltE_map, fltE_p, fltP_some, gNotIn_il, blD_bl, not_inner]) ?_
      simp only [List.map_cons, List.map_nil, List.replicate, List.cons_append, List.nil_append, List.set_cons_succ, List.set_cons_zero]
      have l1 := List.length_filter_le (fun x => decide (d2 p x ≤ mostOf d2 p rest)) rest
      have l2 := List.length_filter_le (fun x => decide (mostOf d2 p rest < d2 p x)) rest
      have i1 := ih (rest.filter fun x => decide (d2 p x ≤ mostOf d2 p rest)) (by omega) (by omega) fun x h => hr x (List.mem_filter.mp h).1
      have i2 := ih (rest.filter fun x => decide (mostOf d2 p rest < d2 p x)) (by omega) (by omega) fun x h => hr x (List.mem_filter.mp h).1
      refine run_ret ?_
      simp -implicitDefEqProofs (disch := first | assumption | omega | (simp only [List.length_map, rngN_len, sortI_len]; omega)) only [g2, ev_asL, ev_lc, ev_rg1', ev_call, ev_cons, ev_nil, ev_op, ev_c, ev_bvar, ev_var, List.getElem?_cons_succ, List.getElem?_cons_zero, Option.bind_some, Option.map_some, slB_val, slV_val, slB_own, gLen_l, gLen_t, gLen_iT, List.length_map, rgA_1, rgO_ok, lim_ok, rngN_len, if_true, fltE_map, mapME_map, ev_gNm, ev_tYes, wipe_cons, wipe_nil, List.set_cons_succ, List.set_cons_zero, fltE_yes, fltE_p, fltP_some, fltE_rg, fltRg_p, fltRg_yes, fltRp_some, mapME_rg, mapRg_some, ev_iseq, itemsD_l, itemsD_t, mapME_some, gIx_lm, gIx_tm, Int.toNat_natCast, gAdd_i, gSub_i, map_i, ev_un, ev_asB, ev_asT, ev_not, ev_and, ev_or, ev_eif, ev_fcall, blD_bl, gEq_i, gNe_i, gLt_i, gLe_i, gGt_i, gGe_i, gNeg_i, truD_bl, ev_fn, gTuple_l, gTuple_t, gMod_i, gDiv_i, gMul_l, gMul_r, gMaxA_l', gMinA_l', gMaxA_t', gMinA_t', gSortA_l', sortI_len, gIx_last, truD_lm, truD_tm, ev_m1, gIndex_i, ev_oNo, ev_oYes, intO_i, ev_sl, gSl_l, gSl_t, cutD_map, gInt_i, gInt_b, gAbs_i, gSum_l, gSum_t, ev_isi, ev_eand, ev_eor, ev_enot, gIn_il, gIn_it, gNotIn_il, gNotIn_it, gIs_n, gIsNot_n, isNon_n, isNon_t, isNon_l, isNon_i, isNon_b, ev_tup, ev_lst, limT_0, mkL_0, limT_1, mkL_1, limT_2, mkL_2, limT_3, mkL_3, limT_4, mkL_4, limT_5, mkL_5, limT_6, mkL_6, limT_7, mkL_7, limT_8, mkL_8, gAdd_ll, gAdd_tt, gMax2_i, gMin2_i, gIx_p0, gIx_p1, ev_rev, cutD_take, cutD_drop, gSortA_pair, some_or, some_and, bl_or, bl_and, gIx_t0, gIx_l0, gIx_t1, gIx_l1, gIx_t2, gIx_l2, gIx_t3, gIx_l3, gIx_t4, gIx_l4, gIx_t5, gIx_l5, i1, i2]
      first | done | exact rfl
end K06

set_option Elab.async false
set_option linter.all false
set_option maxRecDepth 100000
set_option maxHeartbeats 4000000
namespace K06
open PySem L2 PD
def visit (go : List (Int × Int) → List (Int × Int) × Int) (k : Nat) (g : Int) (r : List (Int × Int) × Int) : List (Int × Int) × Int :=
  if r.1.length = k ∧ (nth r.1 ((k : Int) - 1)).1 < g then r else ((go r.1).1, r.2 + (go r.1).2)
def goIn (dist : Int → Int) (k : Nat) : RT → List (Int × Int) → List (Int × Int) × Int
  | .non, fd => (fd, 0)
  | .one p, fd => (topk k (fd ++ [(dist p, p)]), 1)
  | .node p m i o, fd =>
    if m < dist p then visit (goIn dist k i) k (dist p - m) (visit (goIn dist k o) k (m + 1 - dist p) (topk k (fd ++ [(dist p, p)]), 1))
    else visit (goIn dist k o) k (m + 1 - dist p) (visit (goIn dist k i) k (dist p - m) (topk k (fd ++ [(dist p, p)]), 1))
def RT.places : RT → List Int
  | .non => []
  | .one p => [p]
  | .node p _ i o => p :: (i.places ++ o.places)
def RT.fits (d2 : Int → Int → Int) (m : Nat) : RT → Prop
  | .non => True
  | .one p => 0 ≤ p ∧ p < (m : Int)
  | .node p c i o => (0 ≤ p ∧ p < (m : Int)) ∧ (∀ x ∈ i.places, d2 p x ≤ c) ∧ (∀ x ∈ o.places, c < d2 p x) ∧ i.fits d2 m ∧ o.fits d2 m
theorem fits_places {d2 : Int → Int → Int} {m : Nat} : ∀ {t : RT}, t.fits d2 m → ∀ p ∈ t.places, 0 ≤ p ∧ p < (m : Int)
  | .non, _, p, h => by cases h
  | .one q, h, p, hp => by
    rw [List.mem_singleton.mp hp]
    exact h
  | .node q c i o, ⟨h0, _, _, hi, ho⟩, p, hp => by
    rcases List.mem_cons.mp hp with rfl | hp
    · exact h0
    rcases List.mem_append.mp hp with q | q
    · exact fits_places hi p q
    · exact fits_places ho p q
theorem visit_ok {go : List (Int × Int) → List (Int × Int) × Int} {k : Nat} {g : Int} {r : List (Int × Int) × Int} {fd A B : List (Int × Int)} (hr : r.1 = topk k (fd ++ A)) (hgo : ∀ F : List (Int × Int), F.Pairwise (fun a b => leP a b = true) → F.length ≤ k → (go F).1 = topk k (F ++ B)) (hg : ∀ q ∈ B, g ≤ q.1) : (visit go k g r).1 = topk k (fd ++ (A ++ B)) := by
  unfold visit
  rw [apply_ite Prod.fst]
  exact cut_step hr id hg fun _ => hgo _ (by rw [hr]; exact topk_sorted _ _) (by rw [hr]; exact topk_len)
theorem goIn_ok {d2 : Int → Int → Int} {dist : Int → Int} {m : Nat} (h1 : ∀ p x, 0 ≤ p → p < (m : Int) → 0 ≤ x → x < (m : Int) → dist p ≤ dist x + d2 p x) (h2 : ∀ p x, 0 ≤ p → p < (m : Int) → 0 ≤ x → x < (m : Int) → d2 p x ≤ dist p + dist x) (k : Nat) : ∀ (t : RT), t.fits d2 m → ∀ (fd : List (Int × Int)), fd.Pairwise (fun a b => leP a b = true) → fd.length ≤ k → (goIn dist k t fd).1 = topk k (fd ++ pairs dist t.places)
  | .non, _, fd, hs, hk => by
    show fd = topk k (fd ++ [])
    rw [List.append_nil, topk_self hs hk]
  | .one p, _, fd, hs, hk => rfl
  | .node p c i o, ⟨⟨p0, p1⟩, fi, fo, ti, to'⟩, fd, hs, hk => by
    have gi := goIn_ok h1 h2 k i ti
    have go := goIn_ok h1 h2 k o to'
    have bi : ∀ q ∈ pairs dist i.places, dist p - c ≤ q.1 := fun q hq => by
      obtain ⟨x, hx, rfl⟩ := List.mem_map.mp hq
      obtain ⟨x0, x1⟩ := fits_places ti x hx
      have := h1 p x p0 p1 x0 x1
      have := fi x hx
      show _ ≤ dist x
      omega
    have bo : ∀ q ∈ pairs dist o.places, c + 1 - dist p ≤ q.1 := fun q hq => by
      obtain ⟨x, hx, rfl⟩ := List.mem_map.mp hq
      obtain ⟨x0, x1⟩ := fits_places to' x hx
      have := h2 p x p0 p1 x0 x1
      have := fo x hx
      show _ ≤ dist x
      omega
    have e : pairs dist (RT.node p c i o).places = (dist p, p) :: (pairs dist i.places ++ pairs dist o.places) := by
      show pairs dist (p :: (i.places ++ o.places)) = _
      rw [← pairs_app]
      rfl
    unfold goIn
    split
    · rw [visit_ok (fd := fd) (A := [(dist p, p)] ++ pairs dist o.places) (visit_ok (fd := fd) (A := [(dist p, p)]) rfl go bo) gi bi, e]
      refine topk_perm (List.Perm.append_left fd ?_)
      show ((dist p, p) :: (pairs dist o.places ++ pairs dist i.places)).Perm _
      exact List.perm_append_comm.cons _
    · rw [visit_ok (fd := fd) (A := [(dist p, p)] ++ pairs dist i.places) (visit_ok (fd := fd) (A := [(dist p, p)]) rfl gi bi) go bo, e]
      rfl
theorem rings_facts {d2 : Int → Int → Int} {m : Nat} : ∀ (f : Nat) (ps : List Int), ps.length < f → (∀ p ∈ ps, 0 ≤ p ∧ p < (m : Int)) → (rings d2 f ps).places.Perm ps ∧ (rings d2 f ps).fits d2 m
  | 0, ps, h, _ => absurd h (by omega)
  | f + 1, [], _, _ => ⟨List.Perm.refl _, trivial⟩
  | f + 1, [p], _, hp => ⟨List.Perm.refl _, hp p List.mem_cons_self⟩
  | f + 1, p :: q :: r, hf, hp => by
    have hl : (p :: q :: r).length = (q :: r).length + 1 := rfl
    have hr : ∀ x ∈ q :: r, 0 ≤ x ∧ x < (m : Int) := fun x hx => hp x (List.mem_cons_of_mem _ hx)
    show (RT.node p (mostOf d2 p (q :: r)) (rings d2 f ((q :: r).filter fun x => decide (d2 p x ≤ mostOf d2 p (q :: r)))) (rings d2 f ((q :: r).filter fun x => decide (mostOf d2 p (q :: r) < d2 p x)))).places.Perm _ ∧ (RT.node p (mostOf d2 p (q :: r)) (rings d2 f ((q :: r).filter fun x => decide (d2 p x ≤ mostOf d2 p (q :: r)))) (rings d2 f ((q :: r).filter fun x => decide (mostOf d2 p (q :: r) < d2 p x)))).fits d2 m
    have p01 := hp p List.mem_cons_self
    have hlf : (q :: r).length < f := by omega
    generalize q :: r = rest at hr hlf
    have l1 := List.length_filter_le (fun x => decide (d2 p x ≤ mostOf d2 p rest)) rest
    have l2 := List.length_filter_le (fun x => decide (mostOf d2 p rest < d2 p x)) rest
    obtain ⟨i1, i2⟩ := rings_facts (d2 := d2) (m := m) f (rest.filter fun x => decide (d2 p x ≤ mostOf d2 p rest)) (by omega) fun x h => hr x (List.mem_filter.mp h).1
    obtain ⟨j1, j2⟩ := rings_facts (d2 := d2) (m := m) f (rest.filter fun x => decide (mostOf d2 p rest < d2 p x)) (by omega) fun x h => hr x (List.mem_filter.mp h).1
    refine ⟨List.Perm.cons p ((i1.append j1).trans ?_), p01, fun x hx => ?_, fun x hx => ?_, i2, j2⟩
    · have h := List.filter_append_perm (fun x => decide (d2 p x ≤ mostOf d2 p rest)) rest
      have e : (rest.filter fun x => !decide (d2 p x ≤ mostOf d2 p rest)) = rest.filter fun x => decide (mostOf d2 p rest < d2 p x) := by
        apply List.filter_congr
        intro x _
        by_cases h : d2 p x ≤ mostOf d2 p rest
        · simp [h]
        · simp [h]
          omega
      rw [e] at h
      exact h
    · exact of_decide_eq_true (List.mem_filter.mp (i1.mem_iff.mp hx)).2
    · exact of_decide_eq_true (List.mem_filter.mp (j1.mem_iff.mp hx)).2
end K06

set_option Elab.async false
set_option linter.all false
set_option maxRecDepth 100000
set_option maxHeartbeats 4000000
namespace K06
open PySem L2 PD
theorem for2 {it : Fl} {g : Ft} {a b : Cmd} {env e1 e2 e3 e4 : List Sl} {x y : D} {o : Option Out} (h0 : it env = some [x, y]) (h1 : g x env = some e1) (h2 : a e1 = some (.nx e2)) (h3 : g y e2 = some e3) (h4 : a e3 = some (.nx e4)) (h5 : b e4 = o) : sSeq (sFor it g a) b env = o := by
  refine seq_nx (e := e4) ?_ h5
  unfold sFor
  rw [h0]
  show (g x env).bind _ = _
  rw [h1]
  show (match a e1 with
    | some (.nx e) => forL g a [y] e
    | some (.ct e) => forL g a [y] e
    | some (.bk e) => some (.nx e)
    | some (.rt d) => some (.rt d)
    | none => none) = _
  rw [h2]
  show (g y e2).bind _ = _
  rw [h3]
  show (match a e3 with
    | some (.nx e) => forL g a [] e
    | some (.ct e) => forL g a [] e
    | some (.bk e) => some (.nx e)
    | some (.rt d) => some (.rt d)
    | none => none) = _
  rw [h4]
  rfl
def stepG (rec : List D → Option D) : Cmd :=
    (sIf (tOrF (asB (eOp gLt (eCall gLen (aCons (bVar 5) aNil)) (bVar 4))) (tAndF (asB (eOp gGt (bVar 4) (eC (.int 0)))) (asB (eOp gLe (bVar 14) (eOp gIx (eOp gIx (bVar 5) (eUn gNeg (eC (.int 1)))) (eC (.int 0)))))))
    (sSeq (sAsg (gTp (gsCons (gNm 5) (gsCons (gNm 15) gsNil))) (eFn rec (aCons (eVar 0) (aCons (eVar 13) (aCons (eVar 2) (aCons (eVar 3) (aCons (eVar 4) (aCons (eVar 5) aNil))))))))
    (sAug 11 (gI (fun _ _ => true) fun i j => .int (i + j)) (bVar 15)))
    sNop)
theorem stepG_ok (rec : List D → Option D) (go : List (Int × Int) → List (Int × Int) × Int) (k : Nat) (hk0 : 0 < k) (r : List (Int × Int) × Int) (g : Int) (cl ve wy td : D) (x1 x6 x7 x8 x9 x10 x12 x15 : Sl) (hl : r.1.length ≤ k) (hr : rec [cl, td, ve, wy, .int k, .lst (r.1.map pairD)] = some (resD (go r.1))) :
    ∃ y, stepG rec [.val cl, x1, .val ve, .val wy, .val (.int k), .val (.lst (r.1.map pairD)), x6, x7, x8, x9, x10, .val (.int r.2), x12, .val td, .val (.int g), x15] = some (.nx [.val cl, x1, .val ve, .val wy, .val (.int k), .val (.lst ((visit go k g r).1.map pairD)), x6, x7, x8, x9, x10, .val (.int (visit go k g r).2), x12, .val td, .val (.int g), y]) := by
  have yes : ¬ (r.1.length = k ∧ (nth r.1 ((k : Int) - 1)).1 < g) → ∃ y, (sSeq (sAsg (gTp (gsCons (gNm 5) (gsCons (gNm 15) gsNil))) (eFn rec (aCons (eVar 0) (aCons (eVar 13) (aCons (eVar 2) (aCons (eVar 3) (aCons (eVar 4) (aCons (eVar 5) aNil))))))))
    (sAug 11 (gI (fun _ _ => true) fun i j => .int (i + j)) (bVar 15))) [.val cl, x1, .val ve, .val wy, .val (.int k), .val (.lst (r.1.map pairD)), x6, x7, x8, x9, x10, .val (.int r.2), x12, .val td, .val (.int g), x15] = some (.nx [.val cl, x1, .val ve, .val wy, .val (.int k), .val (.lst ((visit go k g r).1.map pairD)), x6, x7, x8, x9, x10, .val (.int (visit go k g r).2), x12, .val td, .val (.int g), y]) := fun h => by
    refine ⟨.val (.int (go r.1).2), ?_⟩
    unfold visit
    rw [if_neg h]
    refine seq_asg (d := resD (go r.1)) (by
      simp -implicitDefEqProofs (disch := first | assumption | omega | (simp only [List.length_map, rngN_len, sortI_len]; omega)) only [ev_asL, ev_lc, ev_rg1', ev_call, ev_cons, ev_nil, ev_op, ev_c, ev_bvar, ev_var, List.getElem?_cons_succ, List.getElem?_cons_zero, Option.bind_some, Option.map_some, slB_val, slV_val, slB_own, gLen_l, gLen_t, gLen_iT, List.length_map, rgA_1, rgO_ok, lim_ok, rngN_len, if_true, fltE_map, mapME_map, ev_gNm, ev_tYes, wipe_cons, wipe_nil, List.set_cons_succ, List.set_cons_zero, fltE_yes, fltE_p, fltP_some, fltE_rg, fltRg_p, fltRg_yes, fltRp_some, mapME_rg, mapRg_some, ev_iseq, itemsD_l, itemsD_t, mapME_some, gIx_lm, gIx_tm, Int.toNat_natCast, gAdd_i, gSub_i, map_i, ev_un, ev_asB, ev_asT, ev_not, ev_and, ev_or, ev_eif, ev_fcall, blD_bl, gEq_i, gNe_i, gLt_i, gLe_i, gGt_i, gGe_i, gNeg_i, truD_bl, ev_fn, gTuple_l, gTuple_t, gMod_i, gDiv_i, gMul_l, gMul_r, gMaxA_l', gMinA_l', gMaxA_t', gMinA_t', gSortA_l', sortI_len, gIx_last, truD_lm, truD_tm, ev_m1, gIndex_i, ev_oNo, ev_oYes, intO_i, ev_sl, gSl_l, gSl_t, cutD_map, gInt_i, gInt_b, gAbs_i, gSum_l, gSum_t, ev_isi, ev_eand, ev_eor, ev_enot, gIn_il, gIn_it, gNotIn_il, gNotIn_it, gIs_n, gIsNot_n, isNon_n, isNon_t, isNon_l, isNon_i, isNon_b, ev_tup, ev_lst, limT_0, mkL_0, limT_1, mkL_1, limT_2, mkL_2, limT_3, mkL_3, limT_4, mkL_4, limT_5, mkL_5, limT_6, mkL_6, limT_7, mkL_7, limT_8, mkL_8, gAdd_ll, gAdd_tt, gMax2_i, gMin2_i, gIx_p0, gIx_p1, ev_rev, cutD_take, cutD_drop, gSortA_pair, some_or, some_and, bl_or, bl_and, gIx_t0, gIx_l0, gIx_t1, gIx_l1, gIx_t2, gIx_l2, gIx_t3, gIx_l3, gIx_t4, gIx_l4, gIx_t5, gIx_l5, hr]
      first | done | exact rfl) rfl ?_
    rfl
  by_cases h1 : r.1.length = k
  · have h3 : ¬ ((k : Int) < k) := by omega
    by_cases h2 : (nth r.1 ((k : Int) - 1)).1 < g
    · refine ⟨x15, run_if0 ?_ ?_⟩
      · simp -implicitDefEqProofs (disch := first | assumption | omega | (simp only [List.length_map, rngN_len, sortI_len]; omega)) only [ev_asL, ev_lc, ev_rg1', ev_call, ev_cons, ev_nil, ev_op, ev_c, ev_bvar, ev_var, List.getElem?_cons_succ, List.getElem?_cons_zero, Option.bind_some, Option.map_some, slB_val, slV_val, slB_own, gLen_l, gLen_t, gLen_iT, List.length_map, rgA_1, rgO_ok, lim_ok, rngN_len, if_true, fltE_map, mapME_map, ev_gNm, ev_tYes, wipe_cons, wipe_nil, List.set_cons_succ, List.set_cons_zero, fltE_yes, fltE_p, fltP_some, fltE_rg, fltRg_p, fltRg_yes, fltRp_some, mapME_rg, mapRg_some, ev_iseq, itemsD_l, itemsD_t, mapME_some, gIx_lm, gIx_tm, Int.toNat_natCast, gAdd_i, gSub_i, map_i, ev_un, ev_asB, ev_asT, ev_not, ev_and, ev_or, ev_eif, ev_fcall, blD_bl, gEq_i, gNe_i, gLt_i, gLe_i, gGt_i, gGe_i, gNeg_i, truD_bl, ev_fn, gTuple_l, gTuple_t, gMod_i, gDiv_i, gMul_l, gMul_r, gMaxA_l', gMinA_l', gMaxA_t', gMinA_t', gSortA_l', sortI_len, gIx_last, truD_lm, truD_tm, ev_m1, gIndex_i, ev_oNo, ev_oYes, intO_i, ev_sl, gSl_l, gSl_t, cutD_map, gInt_i, gInt_b, gAbs_i, gSum_l, gSum_t, ev_isi, ev_eand, ev_eor, ev_enot, gIn_il, gIn_it, gNotIn_il, gNotIn_it, gIs_n, gIsNot_n, isNon_n, isNon_t, isNon_l, isNon_i, isNon_b, ev_tup, ev_lst, limT_0, mkL_0, limT_1, mkL_1, limT_2, mkL_2, limT_3, mkL_3, limT_4, mkL_4, limT_5, mkL_5, limT_6, mkL_6, limT_7, mkL_7, limT_8, mkL_8, gAdd_ll, gAdd_tt, gMax2_i, gMin2_i, gIx_p0, gIx_p1, ev_rev, cutD_take, cutD_drop, gSortA_pair, some_or, some_and, bl_or, bl_and, gIx_t0, gIx_l0, gIx_t1, gIx_l1, gIx_t2, gIx_l2, gIx_t3, gIx_l3, gIx_t4, gIx_l4, gIx_t5, gIx_l5, h1, decide_eq_false h3, Bool.false_eq_true, if_false]
        rw [decide_eq_true (show (0 : Int) < k by omega), decide_eq_false (by omega)]
        rfl
      · unfold visit
        rw [if_pos ⟨h1, h2⟩]
        rfl
    · obtain ⟨y, hy⟩ := yes fun h => h2 h.2
      refine ⟨y, run_if1 ?_ hy⟩
      simp -implicitDefEqProofs (disch := first | assumption | omega | (simp only [List.length_map, rngN_len, sortI_len]; omega)) only [ev_asL, ev_lc, ev_rg1', ev_call, ev_cons, ev_nil, ev_op, ev_c, ev_bvar, ev_var, List.getElem?_cons_succ, List.getElem?_cons_zero, Option.bind_some, Option.map_some, slB_val, slV_val, slB_own, gLen_l, gLen_t, gLen_iT, List.length_map, rgA_1, rgO_ok, lim_ok, rngN_len, if_true, fltE_map, mapME_map, ev_gNm, ev_tYes, wipe_cons, wipe_nil, List.set_cons_succ, List.set_cons_zero, fltE_yes, fltE_p, fltP_some, fltE_rg, fltRg_p, fltRg_yes, fltRp_some, mapME_rg, mapRg_some, ev_iseq, itemsD_l, itemsD_t, mapME_some, gIx_lm, gIx_tm, Int.toNat_natCast, gAdd_i, gSub_i, map_i, ev_un, ev_asB, ev_asT, ev_not, ev_and, ev_or, ev_eif, ev_fcall, blD_bl, gEq_i, gNe_i, gLt_i, gLe_i, gGt_i, gGe_i, gNeg_i, truD_bl, ev_fn, gTuple_l, gTuple_t, gMod_i, gDiv_i, gMul_l, gMul_r, gMaxA_l', gMinA_l', gMaxA_t', gMinA_t', gSortA_l', sortI_len, gIx_last, truD_lm, truD_tm, ev_m1, gIndex_i, ev_oNo, ev_oYes, intO_i, ev_sl, gSl_l, gSl_t, cutD_map, gInt_i, gInt_b, gAbs_i, gSum_l, gSum_t, ev_isi, ev_eand, ev_eor, ev_enot, gIn_il, gIn_it, gNotIn_il, gNotIn_it, gIs_n, gIsNot_n, isNon_n, isNon_t, isNon_l, isNon_i, isNon_b, ev_tup, ev_lst, limT_0, mkL_0, limT_1, mkL_1, limT_2, mkL_2, limT_3, mkL_3, limT_4, mkL_4, limT_5, mkL_5, limT_6, mkL_6, limT_7, mkL_7, limT_8, mkL_8, gAdd_ll, gAdd_tt, gMax2_i, gMin2_i, gIx_p0, gIx_p1, ev_rev, cutD_take, cutD_drop, gSortA_pair, some_or, some_and, bl_or, bl_and, gIx_t0, gIx_l0, gIx_t1, gIx_l1, gIx_t2, gIx_l2, gIx_t3, gIx_l3, gIx_t4, gIx_l4, gIx_t5, gIx_l5, h1, decide_eq_false h3, Bool.false_eq_true, if_false]
      rw [decide_eq_true (show (0 : Int) < k by omega), decide_eq_true (by omega)]
      rfl
  · obtain ⟨y, hy⟩ := yes fun h => h1 h.1
    refine ⟨y, run_if1 ?_ hy⟩
    simp only [ev_asL, ev_lc, ev_rg1', ev_call, ev_cons, ev_nil, ev_op, ev_c, ev_bvar, ev_var, List.getElem?_cons_succ, List.getElem?_cons_zero, Option.bind_some, Option.map_some, slB_val, slV_val, slB_own, gLen_l, gLen_t, gLen_iT, List.length_map, rgA_1, rgO_ok, lim_ok, rngN_len, if_true, fltE_map, mapME_map, ev_gNm, ev_tYes, wipe_cons, wipe_nil, List.set_cons_succ, List.set_cons_zero, fltE_yes, fltE_p, fltP_some, fltE_rg, fltRg_p, fltRg_yes, fltRp_some, mapME_rg, mapRg_some, ev_iseq, itemsD_l, itemsD_t, mapME_some, gIx_lm, gIx_tm, Int.toNat_natCast, gAdd_i, gSub_i, map_i, ev_un, ev_asB, ev_asT, ev_not, ev_and, ev_or, ev_eif, ev_fcall, blD_bl, gEq_i, gNe_i, gLt_i, gLe_i, gGt_i, gGe_i, gNeg_i, truD_bl, ev_fn, gTuple_l, gTuple_t, gMod_i, gDiv_i, gMul_l, gMul_r, gMaxA_l', gMinA_l', gMaxA_t', gMinA_t', gSortA_l', sortI_len, gIx_last, truD_lm, truD_tm, ev_m1, gIndex_i, ev_oNo, ev_oYes, intO_i, ev_sl, gSl_l, gSl_t, cutD_map, gInt_i, gInt_b, gAbs_i, gSum_l, gSum_t, ev_isi, ev_eand, ev_eor, ev_enot, gIn_il, gIn_it, gNotIn_il, gNotIn_it, gIs_n, gIsNot_n, isNon_n, isNon_t, isNon_l, isNon_i, isNon_b, ev_tup, ev_lst, limT_0, mkL_0, limT_1, mkL_1, limT_2, mkL_2, limT_3, mkL_3, limT_4, mkL_4, limT_5, mkL_5, limT_6, mkL_6, limT_7, mkL_7, limT_8, mkL_8, gAdd_ll, gAdd_tt, gMax2_i, gMin2_i, gIx_p0, gIx_p1, ev_rev, cutD_take, cutD_drop, gSortA_pair, some_or, some_and, bl_or, bl_and, gIx_t0, gIx_l0, gIx_t1, gIx_l1, gIx_t2, gIx_l2, gIx_t3, gIx_l3, gIx_t4, gIx_l4, gIx_t5, gIx_l5]
    rw [decide_eq_true (show (r.1.length : Int) < k by omega)]
    rfl
end K06

set_option Elab.async false
set_option linter.all false
set_option maxRecDepth 100000
set_option maxHeartbeats 4000000
namespace K06
open PySem L2 PD
def RT.ht : RT → Nat
  | .node _ _ i o => 1 + max i.ht o.ht
  | _ => 1
theorem goIn_len {dist : Int → Int} {k : Nat} : ∀ (t : RT) (fd : List (Int × Int)), fd.length ≤ k → (goIn dist k t fd).1.length ≤ k
  | .non, fd, h => h
  | .one p, fd, h => topk_len
  | .node p c i o, fd, h => by
    have vl : ∀ (t : RT) (g : Int) (r : List (Int × Int) × Int), (∀ fd : List (Int × Int), fd.length ≤ k → (goIn dist k t fd).1.length ≤ k) → r.1.length ≤ k → (visit (goIn dist k t) k g r).1.length ≤ k := fun t g r ht hr => by
      unfold visit
      split
      · exact hr
      · exact ht _ hr
    have hi := goIn_len (dist := dist) (k := k) i
    have ho := goIn_len (dist := dist) (k := k) o
    unfold goIn
    split
    · exact vl i _ _ hi (vl o _ _ ho topk_len)
    · exact vl o _ _ ho (vl i _ _ hi topk_len)
theorem visit_len {dist : Int → Int} {k : Nat} {t : RT} {g : Int} {r : List (Int × Int) × Int} (hr : r.1.length ≤ k) : (visit (goIn dist k t) k g r).1.length ≤ k := by
  unfold visit
  split
  · exact hr
  · exact goIn_len t _ hr
theorem run_goin {vs : List (List Int)} {vec : List Int} {W : Way} {dist : Int → Int} {d2 : Int → Int → Int} (hd : ∀ p, 0 ≤ p → p < (vs.length : Int) → run_far [W.d, intT vec, intT (nth vs p)] = some (.int (dist p))) (k : Nat) (hk0 : 0 < k) (hk : k ≤ 1000) : ∀ (f : Nat) (t : RT) (fd : List (Int × Int)), t.ht ≤ f → t.fits d2 vs.length → fd.length ≤ k →
    run_go_in f [.tup (vs.map intT), t.d, intT vec, W.d, .int k, .lst (fd.map pairD)] = some (resD (goIn dist k t fd))
  | 0, t, fd, h, _, _ => by
    have : 1 ≤ t.ht := by cases t <;> simp [RT.ht]
    omega
  | f + 1, t, fd, hf, ht, hl => by
    have ih := run_goin (d2 := d2) hd k hk0 hk f
    show runC 6 10 (b_go_in (run_go_in f)) _ = _
    refine runC_rt rfl ?_
    simp only [List.map_cons, List.map_nil, List.replicate, List.cons_append, List.nil_append, List.set_cons_succ, List.set_cons_zero]
    cases t with
    | non => exact seq_if1r rfl rfl
    | one p =>
      obtain ⟨p0, p1⟩ := ht
      have hg : gIx (.tup (vs.map intT)) (.int p) = some (intT (nth vs p)) := gIx_tm p0 p1
      have hw := run_with fd [(dist p, p)] k (by simp; omega)
      have e : (.lst [.tup [.int (dist p), .int p]] : D) = .lst (List.map pairD [(dist p, p)]) := rfl
      refine seq_if0 rfl ?_
      refine seq_if1r rfl ?_
      refine run_ret ?_
      simp -implicitDefEqProofs (disch := first | assumption | omega | (simp only [List.length_map, rngN_len, sortI_len]; omega)) only [ev_asL, ev_lc, ev_rg1', ev_call, ev_cons, ev_nil, ev_op, ev_c, ev_bvar, ev_var, List.getElem?_cons_succ, List.getElem?_cons_zero, Option.bind_some, Option.map_some, slB_val, slV_val, slB_own, gLen_l, gLen_t, gLen_iT, List.length_map, rgA_1, rgO_ok, lim_ok, rngN_len, if_true, fltE_map, mapME_map, ev_gNm, ev_tYes, wipe_cons, wipe_nil, List.set_cons_succ, List.set_cons_zero, fltE_yes, fltE_p, fltP_some, fltE_rg, fltRg_p, fltRg_yes, fltRp_some, mapME_rg, mapRg_some, ev_iseq, itemsD_l, itemsD_t, mapME_some, gIx_lm, gIx_tm, Int.toNat_natCast, gAdd_i, gSub_i, map_i, ev_un, ev_asB, ev_asT, ev_not, ev_and, ev_or, ev_eif, ev_fcall, blD_bl, gEq_i, gNe_i, gLt_i, gLe_i, gGt_i, gGe_i, gNeg_i, truD_bl, ev_fn, gTuple_l, gTuple_t, gMod_i, gDiv_i, gMul_l, gMul_r, gMaxA_l', gMinA_l', gMaxA_t', gMinA_t', gSortA_l', sortI_len, gIx_last, truD_lm, truD_tm, ev_m1, gIndex_i, ev_oNo, ev_oYes, intO_i, ev_sl, gSl_l, gSl_t, cutD_map, gInt_i, gInt_b, gAbs_i, gSum_l, gSum_t, ev_isi, ev_eand, ev_eor, ev_enot, gIn_il, gIn_it, gNotIn_il, gNotIn_it, gIs_n, gIsNot_n, isNon_n, isNon_t, isNon_l, isNon_i, isNon_b, ev_tup, ev_lst, limT_0, mkL_0, limT_1, mkL_1, limT_2, mkL_2, limT_3, mkL_3, limT_4, mkL_4, limT_5, mkL_5, limT_6, mkL_6, limT_7, mkL_7, limT_8, mkL_8, gAdd_ll, gAdd_tt, gMax2_i, gMin2_i, gIx_p0, gIx_p1, ev_rev, cutD_take, cutD_drop, gSortA_pair, some_or, some_and, bl_or, bl_and, gIx_t0, gIx_l0, gIx_t1, gIx_l1, gIx_t2, gIx_l2, gIx_t3, gIx_l3, gIx_t4, gIx_l4, gIx_t5, gIx_l5, RT.d, hg, hd p p0 p1]
      rw [e, hw]
      rfl
    | node p c i o =>
      obtain ⟨⟨p0, p1⟩, fi, fo, ti, to'⟩ := ht
      have hf : 1 + max i.ht o.ht ≤ f + 1 := hf
      have hg : gIx (.tup (vs.map intT)) (.int p) = some (intT (nth vs p)) := gIx_tm p0 p1
      have hw := run_with fd [(dist p, p)] k (by simp; omega)
      have e : (.lst [.tup [.int (dist p), .int p]] : D) = .lst (List.map pairD [(dist p, p)]) := rfl
      have n1 : isiD "int" (RT.node p c i o).d = false := isi_int_tup
      refine seq_if0 rfl ?_
      refine seq_if0 (by
        simp -implicitDefEqProofs (disch := first | assumption | omega | (simp only [List.length_map, rngN_len, sortI_len]; omega)) only [ev_asL, ev_lc, ev_rg1', ev_call, ev_cons, ev_nil, ev_op, ev_c, ev_bvar, ev_var, List.getElem?_cons_succ, List.getElem?_cons_zero, Option.bind_some, Option.map_some, slB_val, slV_val, slB_own, gLen_l, gLen_t, gLen_iT, List.length_map, rgA_1, rgO_ok, lim_ok, rngN_len, if_true, fltE_map, mapME_map, ev_gNm, ev_tYes, wipe_cons, wipe_nil, List.set_cons_succ, List.set_cons_zero, fltE_yes, fltE_p, fltP_some, fltE_rg, fltRg_p, fltRg_yes, fltRp_some, mapME_rg, mapRg_some, ev_iseq, itemsD_l, itemsD_t, mapME_some, gIx_lm, gIx_tm, Int.toNat_natCast, gAdd_i, gSub_i, map_i, ev_un, ev_asB, ev_asT, ev_not, ev_and, ev_or, ev_eif, ev_fcall, blD_bl, gEq_i, gNe_i, gLt_i, gLe_i, gGt_i, gGe_i, gNeg_i, truD_bl, ev_fn, gTuple_l, gTuple_t, gMod_i, gDiv_i, gMul_l, gMul_r, gMaxA_l', gMinA_l', gMaxA_t', gMinA_t', gSortA_l', sortI_len, gIx_last, truD_lm, truD_tm, ev_m1, gIndex_i, ev_oNo, ev_oYes, intO_i, ev_sl, gSl_l, gSl_t, cutD_map, gInt_i, gInt_b, gAbs_i, gSum_l, gSum_t, ev_isi, ev_eand, ev_eor, ev_enot, gIn_il, gIn_it, gNotIn_il, gNotIn_it, gIs_n, gIsNot_n, isNon_n, isNon_t, isNon_l, isNon_i, isNon_b, ev_tup, ev_lst, limT_0, mkL_0, limT_1, mkL_1, limT_2, mkL_2, limT_3, mkL_3, limT_4, mkL_4, limT_5, mkL_5, limT_6, mkL_6, limT_7, mkL_7, limT_8, mkL_8, gAdd_ll, gAdd_tt, gMax2_i, gMin2_i, gIx_p0, gIx_p1, ev_rev, cutD_take, cutD_drop, gSortA_pair, some_or, some_and, bl_or, bl_and, gIx_t0, gIx_l0, gIx_t1, gIx_l1, gIx_t2, gIx_l2, gIx_t3, gIx_l3, gIx_t4, gIx_l4, gIx_t5, gIx_l5, RT.d, isiO_tup, isi_int_tup]
        first | done | exact rfl) ?_
      refine seq_asg (d := .tup [.int p, .int c, i.d, o.d]) rfl rfl ?_
      simp only [List.map_cons, List.map_nil, List.replicate, List.cons_append, List.nil_append, List.set_cons_succ, List.set_cons_zero]
      refine seq_set (by
        simp -implicitDefEqProofs (disch := first | assumption | omega | (simp only [List.length_map, rngN_len, sortI_len]; omega)) only [ev_asL, ev_lc, ev_rg1', ev_call, ev_cons, ev_nil, ev_op, ev_c, ev_bvar, ev_var, List.getElem?_cons_succ, List.getElem?_cons_zero, Option.bind_some, Option.map_some, slB_val, slV_val, slB_own, gLen_l, gLen_t, gLen_iT, List.length_map, rgA_1, rgO_ok, lim_ok, rngN_len, if_true, fltE_map, mapME_map, ev_gNm, ev_tYes, wipe_cons, wipe_nil, List.set_cons_succ, List.set_cons_zero, fltE_yes, fltE_p, fltP_some, fltE_rg, fltRg_p, fltRg_yes, fltRp_some, mapME_rg, mapRg_some, ev_iseq, itemsD_l, itemsD_t, mapME_some, gIx_lm, gIx_tm, Int.toNat_natCast, gAdd_i, gSub_i, map_i, ev_un, ev_asB, ev_asT, ev_not, ev_and, ev_or, ev_eif, ev_fcall, blD_bl, gEq_i, gNe_i, gLt_i, gLe_i, gGt_i, gGe_i, gNeg_i, truD_bl, ev_fn, gTuple_l, gTuple_t, gMod_i, gDiv_i, gMul_l, gMul_r, gMaxA_l', gMinA_l', gMaxA_t', gMinA_t', gSortA_l', sortI_len, gIx_last, truD_lm, truD_tm, ev_m1, gIndex_i, ev_oNo, ev_oYes, intO_i, ev_sl, gSl_l, gSl_t, cutD_map, gInt_i, gInt_b, gAbs_i, gSum_l, gSum_t, ev_isi, ev_eand, ev_eor, ev_enot, gIn_il, gIn_it, gNotIn_il, gNotIn_it, gIs_n, gIsNot_n, isNon_n, isNon_t, isNon_l, isNon_i, isNon_b, ev_tup, ev_lst, limT_0, mkL_0, limT_1, mkL_1, limT_2, mkL_2, limT_3, mkL_3, limT_4, mkL_4, limT_5, mkL_5, limT_6, mkL_6, limT_7, mkL_7, limT_8, mkL_8, gAdd_ll, gAdd_tt, gMax2_i, gMin2_i, gIx_p0, gIx_p1, ev_rev, cutD_take, cutD_drop, gSortA_pair, some_or, some_and, bl_or, bl_and, gIx_t0, gIx_l0, gIx_t1, gIx_l1, gIx_t2, gIx_l2, gIx_t3, gIx_l3, gIx_t4, gIx_l4, gIx_t5, gIx_l5, hg, hd p p0 p1]
        first | done | exact rfl) ?_
      simp only [List.map_cons, List.map_nil, List.replicate, List.cons_append, List.nil_append, List.set_cons_succ, List.set_cons_zero]
      refine seq_par (x := .val (.lst ((topk k (fd ++ [(dist p, p)])).map pairD))) (y := .val (.int 1)) (by
        simp -implicitDefEqProofs (disch := first | assumption | omega | (simp only [List.length_map, rngN_len, sortI_len]; omega)) only [ev_vN, ev_asL, ev_lc, ev_rg1', ev_call, ev_cons, ev_nil, ev_op, ev_c, ev_bvar, ev_var, List.getElem?_cons_succ, List.getElem?_cons_zero, Option.bind_some, Option.map_some, slB_val, slV_val, slB_own, gLen_l, gLen_t, gLen_iT, List.length_map, rgA_1, rgO_ok, lim_ok, rngN_len, if_true, fltE_map, mapME_map, ev_gNm, ev_tYes, wipe_cons, wipe_nil, List.set_cons_succ, List.set_cons_zero, fltE_yes, fltE_p, fltP_some, fltE_rg, fltRg_p, fltRg_yes, fltRp_some, mapME_rg, mapRg_some, ev_iseq, itemsD_l, itemsD_t, mapME_some, gIx_lm, gIx_tm, Int.toNat_natCast, gAdd_i, gSub_i, map_i, ev_un, ev_asB, ev_asT, ev_not, ev_and, ev_or, ev_eif, ev_fcall, blD_bl, gEq_i, gNe_i, gLt_i, gLe_i, gGt_i, gGe_i, gNeg_i, truD_bl, ev_fn, gTuple_l, gTuple_t, gMod_i, gDiv_i, gMul_l, gMul_r, gMaxA_l', gMinA_l', gMaxA_t', gMinA_t', gSortA_l', sortI_len, gIx_last, truD_lm, truD_tm, ev_m1, gIndex_i, ev_oNo, ev_oYes, intO_i, ev_sl, gSl_l, gSl_t, cutD_map, gInt_i, gInt_b, gAbs_i, gSum_l, gSum_t, ev_isi, ev_eand, ev_eor, ev_enot, gIn_il, gIn_it, gNotIn_il, gNotIn_it, gIs_n, gIsNot_n, isNon_n, isNon_t, isNon_l, isNon_i, isNon_b, ev_tup, ev_lst, limT_0, mkL_0, limT_1, mkL_1, limT_2, mkL_2, limT_3, mkL_3, limT_4, mkL_4, limT_5, mkL_5, limT_6, mkL_6, limT_7, mkL_7, limT_8, mkL_8, gAdd_ll, gAdd_tt, gMax2_i, gMin2_i, gIx_p0, gIx_p1, ev_rev, cutD_take, cutD_drop, gSortA_pair, some_or, some_and, bl_or, bl_and, gIx_t0, gIx_l0, gIx_t1, gIx_l1, gIx_t2, gIx_l2, gIx_t3, gIx_l3, gIx_t4, gIx_l4, gIx_t5, gIx_l5]
        rw [e, hw]
        rfl) rfl ?_
      simp only [List.map_cons, List.map_nil, List.replicate, List.cons_append, List.nil_append, List.set_cons_succ, List.set_cons_zero]
      refine seq_set (d := .lst [.tup [i.d, .int (dist p - c)], .tup [o.d, .int (c + 1 - dist p)]]) (by
        simp -implicitDefEqProofs (disch := first | assumption | omega | (simp only [List.length_map, rngN_len, sortI_len]; omega)) only [ev_asL, ev_lc, ev_rg1', ev_call, ev_cons, ev_nil, ev_op, ev_c, ev_bvar, ev_var, List.getElem?_cons_succ, List.getElem?_cons_zero, Option.bind_some, Option.map_some, slB_val, slV_val, slB_own, gLen_l, gLen_t, gLen_iT, List.length_map, rgA_1, rgO_ok, lim_ok, rngN_len, if_true, fltE_map, mapME_map, ev_gNm, ev_tYes, wipe_cons, wipe_nil, List.set_cons_succ, List.set_cons_zero, fltE_yes, fltE_p, fltP_some, fltE_rg, fltRg_p, fltRg_yes, fltRp_some, mapME_rg, mapRg_some, ev_iseq, itemsD_l, itemsD_t, mapME_some, gIx_lm, gIx_tm, Int.toNat_natCast, gAdd_i, gSub_i, map_i, ev_un, ev_asB, ev_asT, ev_not, ev_and, ev_or, ev_eif, ev_fcall, blD_bl, gEq_i, gNe_i, gLt_i, gLe_i, gGt_i, gGe_i, gNeg_i, truD_bl, ev_fn, gTuple_l, gTuple_t, gMod_i, gDiv_i, gMul_l, gMul_r, gMaxA_l', gMinA_l', gMaxA_t', gMinA_t', gSortA_l', sortI_len, gIx_last, truD_lm, truD_tm, ev_m1, gIndex_i, ev_oNo, ev_oYes, intO_i, ev_sl, gSl_l, gSl_t, cutD_map, gInt_i, gInt_b, gAbs_i, gSum_l, gSum_t, ev_isi, ev_eand, ev_eor, ev_enot, gIn_il, gIn_it, gNotIn_il, gNotIn_it, gIs_n, gIsNot_n, isNon_n, isNon_t, isNon_l, isNon_i, isNon_b, ev_tup, ev_lst, limT_0, mkL_0, limT_1, mkL_1, limT_2, mkL_2, limT_3, mkL_3, limT_4, mkL_4, limT_5, mkL_5, limT_6, mkL_6, limT_7, mkL_7, limT_8, mkL_8, gAdd_ll, gAdd_tt, gMax2_i, gMin2_i, gIx_p0, gIx_p1, ev_rev, cutD_take, cutD_drop, gSortA_pair, some_or, some_and, bl_or, bl_and, gIx_t0, gIx_l0, gIx_t1, gIx_l1, gIx_t2, gIx_l2, gIx_t3, gIx_l3, gIx_t4, gIx_l4, gIx_t5, gIx_l5]
        first | done | exact rfl) ?_
      simp only [List.map_cons, List.map_nil, List.replicate, List.cons_append, List.nil_append, List.set_cons_succ, List.set_cons_zero]
      have i1 := fun fd hfd => ih i fd (by omega) ti hfd
      have o1 := fun fd hfd => ih o fd (by omega) to' hfd
      unfold goIn
      have tk : (topk k (fd ++ [(dist p, p)])).length ≤ k := topk_len
      generalize topk k (fd ++ [(dist p, p)]) = F at tk
      by_cases hc : c < dist p
      · rw [if_pos hc]
        refine seq_if1 (by
          simp -implicitDefEqProofs (disch := first | assumption | omega | (simp only [List.length_map, rngN_len, sortI_len]; omega)) only [ev_asL, ev_lc, ev_rg1', ev_call, ev_cons, ev_nil, ev_op, ev_c, ev_bvar, ev_var, List.getElem?_cons_succ, List.getElem?_cons_zero, Option.bind_some, Option.map_some, slB_val, slV_val, slB_own, gLen_l, gLen_t, gLen_iT, List.length_map, rgA_1, rgO_ok, lim_ok, rngN_len, if_true, fltE_map, mapME_map, ev_gNm, ev_tYes, wipe_cons, wipe_nil, List.set_cons_succ, List.set_cons_zero, fltE_yes, fltE_p, fltP_some, fltE_rg, fltRg_p, fltRg_yes, fltRp_some, mapME_rg, mapRg_some, ev_iseq, itemsD_l, itemsD_t, mapME_some, gIx_lm, gIx_tm, Int.toNat_natCast, gAdd_i, gSub_i, map_i, ev_un, ev_asB, ev_asT, ev_not, ev_and, ev_or, ev_eif, ev_fcall, blD_bl, gEq_i, gNe_i, gLt_i, gLe_i, gGt_i, gGe_i, gNeg_i, truD_bl, ev_fn, gTuple_l, gTuple_t, gMod_i, gDiv_i, gMul_l, gMul_r, gMaxA_l', gMinA_l', gMaxA_t', gMinA_t', gSortA_l', sortI_len, gIx_last, truD_lm, truD_tm, ev_m1, gIndex_i, ev_oNo, ev_oYes, intO_i, ev_sl, gSl_l, gSl_t, cutD_map, gInt_i, gInt_b, gAbs_i, gSum_l, gSum_t, ev_isi, ev_eand, ev_eor, ev_enot, gIn_il, gIn_it, gNotIn_il, gNotIn_it, gIs_n, gIsNot_n, isNon_n, isNon_t, isNon_l, isNon_i, isNon_b, ev_tup, ev_lst, limT_0, mkL_0, limT_1, mkL_1, limT_2, mkL_2, limT_3, mkL_3, limT_4, mkL_4, limT_5, mkL_5, limT_6, mkL_6, limT_7, mkL_7, limT_8, mkL_8, gAdd_ll, gAdd_tt, gMax2_i, gMin2_i, gIx_p0, gIx_p1, ev_rev, cutD_take, cutD_drop, gSortA_pair, some_or, some_and, bl_or, bl_and, gIx_t0, gIx_l0, gIx_t1, gIx_l1, gIx_t2, gIx_l2, gIx_t3, gIx_l3, gIx_t4, gIx_l4, gIx_t5, gIx_l5]
          rw [decide_eq_true hc]) (run_set (d := .lst [.tup [o.d, .int (c + 1 - dist p)], .tup [i.d, .int (dist p - c)]]) rfl) ?_
        simp only [List.map_cons, List.map_nil, List.replicate, List.cons_append, List.nil_append, List.set_cons_succ, List.set_cons_zero]
        have v1 := visit_len (dist := dist) (k := k) (t := o) (g := c + 1 - dist p) (r := (F, 1)) tk
        obtain ⟨y1, h1⟩ := stepG_ok (run_go_in f) (goIn dist k o) k hk0 (F, 1) (c + 1 - dist p) (.tup (vs.map intT)) (intT vec) W.d o.d (.val (RT.node p c i o).d) (.val (.int p)) (.val (.int c)) (.val i.d) (.val o.d) (.val (.int (dist p))) (.val (.lst [.tup [o.d, .int (c + 1 - dist p)], .tup [i.d, .int (dist p - c)]])) .un tk (o1 _ tk)
        obtain ⟨y2, h2⟩ := stepG_ok (run_go_in f) (goIn dist k i) k hk0 (visit (goIn dist k o) k (c + 1 - dist p) (F, 1)) (dist p - c) (.tup (vs.map intT)) (intT vec) W.d i.d (.val (RT.node p c i o).d) (.val (.int p)) (.val (.int c)) (.val i.d) (.val o.d) (.val (.int (dist p))) (.val (.lst [.tup [o.d, .int (c + 1 - dist p)], .tup [i.d, .int (dist p - c)]])) y1 v1 (i1 _ v1)
        exact for2 rfl rfl h1 rfl h2 rfl
      · rw [if_neg hc]
        refine seq_if0 (by
          simp -implicitDefEqProofs (disch := first | assumption | omega | (simp only [List.length_map, rngN_len, sortI_len]; omega)) only [ev_asL, ev_lc, ev_rg1', ev_call, ev_cons, ev_nil, ev_op, ev_c, ev_bvar, ev_var, List.getElem?_cons_succ, List.getElem?_cons_zero, Option.bind_some, Option.map_some, slB_val, slV_val, slB_own, gLen_l, gLen_t, gLen_iT, List.length_map, rgA_1, rgO_ok, lim_ok, rngN_len, if_true, fltE_map, mapME_map, ev_gNm, ev_tYes, wipe_cons, wipe_nil, List.set_cons_succ, List.set_cons_zero, fltE_yes, fltE_p, fltP_some, fltE_rg, fltRg_p, fltRg_yes, fltRp_some, mapME_rg, mapRg_some, ev_iseq, itemsD_l, itemsD_t, mapME_some, gIx_lm, gIx_tm, Int.toNat_natCast, gAdd_i, gSub_i, map_i, ev_un, ev_asB, ev_asT, ev_not, ev_and, ev_or, ev_eif, ev_fcall, blD_bl, gEq_i, gNe_i, gLt_i, gLe_i, gGt_i, gGe_i, gNeg_i, truD_bl, ev_fn, gTuple_l, gTuple_t, gMod_i, gDiv_i, gMul_l, gMul_r, gMaxA_l', gMinA_l', gMaxA_t', gMinA_t', gSortA_l', sortI_len, gIx_last, truD_lm, truD_tm, ev_m1, gIndex_i, ev_oNo, ev_oYes, intO_i, ev_sl, gSl_l, gSl_t, cutD_map, gInt_i, gInt_b, gAbs_i, gSum_l, gSum_t, ev_isi, ev_eand, ev_eor, ev_enot, gIn_il, gIn_it, gNotIn_il, gNotIn_it, gIs_n, gIsNot_n, isNon_n, isNon_t, isNon_l, isNon_i, isNon_b, ev_tup, ev_lst, limT_0, mkL_0, limT_1, mkL_1, limT_2, mkL_2, limT_3, mkL_3, limT_4, mkL_4, limT_5, mkL_5, limT_6, mkL_6, limT_7, mkL_7, limT_8, mkL_8, gAdd_ll, gAdd_tt, gMax2_i, gMin2_i, gIx_p0, gIx_p1, ev_rev, cutD_take, cutD_drop, gSortA_pair, some_or, some_and, bl_or, bl_and, gIx_t0, gIx_l0, gIx_t1, gIx_l1, gIx_t2, gIx_l2, gIx_t3, gIx_l3, gIx_t4, gIx_l4, gIx_t5, gIx_l5]
          rw [decide_eq_false hc]) ?_
        have v1 := visit_len (dist := dist) (k := k) (t := i) (g := dist p - c) (r := (F, 1)) tk
        obtain ⟨y1, h1⟩ := stepG_ok (run_go_in f) (goIn dist k i) k hk0 (F, 1) (dist p - c) (.tup (vs.map intT)) (intT vec) W.d i.d (.val (RT.node p c i o).d) (.val (.int p)) (.val (.int c)) (.val i.d) (.val o.d) (.val (.int (dist p))) (.val (.lst [.tup [i.d, .int (dist p - c)], .tup [o.d, .int (c + 1 - dist p)]])) .un tk (i1 _ tk)
        obtain ⟨y2, h2⟩ := stepG_ok (run_go_in f) (goIn dist k o) k hk0 (visit (goIn dist k i) k (dist p - c) (F, 1)) (c + 1 - dist p) (.tup (vs.map intT)) (intT vec) W.d o.d (.val (RT.node p c i o).d) (.val (.int p)) (.val (.int c)) (.val i.d) (.val o.d) (.val (.int (dist p))) (.val (.lst [.tup [i.d, .int (dist p - c)], .tup [o.d, .int (c + 1 - dist p)]])) y1 v1 (o1 _ v1)
        exact for2 rfl rfl h1 rfl h2 rfl
end K06

set_option Elab.async false
set_option linter.all false
set_option maxRecDepth 100000
set_option maxHeartbeats 4000000
namespace K06
open PySem L2 PD
def stepL (rec : List D → Option D) : Cmd :=
    (sSeq (sSet 13 (eOp gIx (eTup (aCons (eOp gSub (bVar 10) (bVar 7)) (aCons (eOp gSub (eOp gAdd (bVar 7) (eC (.int 1))) (bVar 10)) aNil))) (bVar 12)))
    (sIf (tOrF (asB (eOp gLt (eCall gLen (aCons (bVar 5) aNil)) (bVar 4))) (asB (eOp gLe (bVar 13) (eOp gIx (eOp gIx (bVar 5) (eOp gSub (bVar 4) (eC (.int 1)))) (eC (.int 0))))))
    (sSeq (sAsg (gTp (gsCons (gNm 5) (gsCons (gNm 14) gsNil))) (eFn rec (aCons (eVar 0) (aCons (eOp gIx (eTup (aCons (eVar 8) (aCons (eVar 9) aNil))) (bVar 12)) (aCons (eVar 2) (aCons (eVar 3) (aCons (eVar 4) (aCons (eVar 5) aNil))))))))
    (sSet 11 (eOp gAdd (bVar 11) (bVar 14))))
    sNop))
theorem stepL_ok (rec : List D → Option D) (go : List (Int × Int) → List (Int × Int) × Int) (k : Nat) (hk0 : 0 < k) (r : List (Int × Int) × Int) (g sd dp c : Int) (cl ve wy td idd od : D) (x1 x6 x13 x14 : Sl) (hl : r.1.length ≤ k) (hr : rec [cl, td, ve, wy, .int k, .lst (r.1.map pairD)] = some (resD (go r.1)))
    (hg : gIx (.tup [.int (dp - c), .int (c + 1 - dp)]) (.int sd) = some (.int g)) (ht : gIx (.tup [idd, od]) (.int sd) = some td) :
    ∃ y, stepL rec [.val cl, x1, .val ve, .val wy, .val (.int k), .val (.lst (r.1.map pairD)), x6, .val (.int c), .val idd, .val od, .val (.int dp), .val (.int r.2), .val (.int sd), x13, x14] = some (.nx [.val cl, x1, .val ve, .val wy, .val (.int k), .val (.lst ((visit go k g r).1.map pairD)), x6, .val (.int c), .val idd, .val od, .val (.int dp), .val (.int (visit go k g r).2), .val (.int sd), .val (.int g), y]) := by
  have yes : ¬ (r.1.length = k ∧ (nth r.1 ((k : Int) - 1)).1 < g) → ∃ y, (sSeq (sAsg (gTp (gsCons (gNm 5) (gsCons (gNm 14) gsNil))) (eFn rec (aCons (eVar 0) (aCons (eOp gIx (eTup (aCons (eVar 8) (aCons (eVar 9) aNil))) (bVar 12)) (aCons (eVar 2) (aCons (eVar 3) (aCons (eVar 4) (aCons (eVar 5) aNil))))))))
    (sSet 11 (eOp gAdd (bVar 11) (bVar 14)))) [.val cl, x1, .val ve, .val wy, .val (.int k), .val (.lst (r.1.map pairD)), x6, .val (.int c), .val idd, .val od, .val (.int dp), .val (.int r.2), .val (.int sd), .val (.int g), x14] = some (.nx [.val cl, x1, .val ve, .val wy, .val (.int k), .val (.lst ((visit go k g r).1.map pairD)), x6, .val (.int c), .val idd, .val od, .val (.int dp), .val (.int (visit go k g r).2), .val (.int sd), .val (.int g), y]) := fun h => by
    refine ⟨.val (.int (go r.1).2), ?_⟩
    unfold visit
    rw [if_neg h]
    refine seq_asg (d := resD (go r.1)) (by
      simp -implicitDefEqProofs (disch := first | assumption | omega | (simp only [List.length_map, rngN_len, sortI_len]; omega)) only [ht, ev_asL, ev_lc, ev_rg1', ev_call, ev_cons, ev_nil, ev_op, ev_c, ev_bvar, ev_var, List.getElem?_cons_succ, List.getElem?_cons_zero, Option.bind_some, Option.map_some, slB_val, slV_val, slB_own, gLen_l, gLen_t, gLen_iT, List.length_map, rgA_1, rgO_ok, lim_ok, rngN_len, if_true, fltE_map, mapME_map, ev_gNm, ev_tYes, wipe_cons, wipe_nil, List.set_cons_succ, List.set_cons_zero, fltE_yes, fltE_p, fltP_some, fltE_rg, fltRg_p, fltRg_yes, fltRp_some, mapME_rg, mapRg_some, ev_iseq, itemsD_l, itemsD_t, mapME_some, gIx_lm, gIx_tm, Int.toNat_natCast, gAdd_i, gSub_i, map_i, ev_un, ev_asB, ev_asT, ev_not, ev_and, ev_or, ev_eif, ev_fcall, blD_bl, gEq_i, gNe_i, gLt_i, gLe_i, gGt_i, gGe_i, gNeg_i, truD_bl, ev_fn, gTuple_l, gTuple_t, gMod_i, gDiv_i, gMul_l, gMul_r, gMaxA_l', gMinA_l', gMaxA_t', gMinA_t', gSortA_l', sortI_len, gIx_last, truD_lm, truD_tm, ev_m1, gIndex_i, ev_oNo, ev_oYes, intO_i, ev_sl, gSl_l, gSl_t, cutD_map, gInt_i, gInt_b, gAbs_i, gSum_l, gSum_t, ev_isi, ev_eand, ev_eor, ev_enot, gIn_il, gIn_it, gNotIn_il, gNotIn_it, gIs_n, gIsNot_n, isNon_n, isNon_t, isNon_l, isNon_i, isNon_b, ev_tup, ev_lst, limT_0, mkL_0, limT_1, mkL_1, limT_2, mkL_2, limT_3, mkL_3, limT_4, mkL_4, limT_5, mkL_5, limT_6, mkL_6, limT_7, mkL_7, limT_8, mkL_8, gAdd_ll, gAdd_tt, gMax2_i, gMin2_i, gIx_p0, gIx_p1, ev_rev, cutD_take, cutD_drop, gSortA_pair, some_or, some_and, bl_or, bl_and, gIx_t0, gIx_l0, gIx_t1, gIx_l1, gIx_t2, gIx_l2, gIx_t3, gIx_l3, gIx_t4, gIx_l4, gIx_t5, gIx_l5, hr]
      first | done | exact rfl) rfl ?_
    rfl
  have set13 : ∀ (o : Option Out) (b : Cmd) , b [.val cl, x1, .val ve, .val wy, .val (.int k), .val (.lst (r.1.map pairD)), x6, .val (.int c), .val idd, .val od, .val (.int dp), .val (.int r.2), .val (.int sd), .val (.int g), x14] = o → sSeq (sSet 13 (eOp gIx (eTup (aCons (eOp gSub (bVar 10) (bVar 7)) (aCons (eOp gSub (eOp gAdd (bVar 7) (eC (.int 1))) (bVar 10)) aNil))) (bVar 12))) b [.val cl, x1, .val ve, .val wy, .val (.int k), .val (.lst (r.1.map pairD)), x6, .val (.int c), .val idd, .val od, .val (.int dp), .val (.int r.2), .val (.int sd), x13, x14] = o := fun o b h => by
    refine seq_set (d := .int g) (by
      simp -implicitDefEqProofs (disch := first | assumption | omega | (simp only [List.length_map, rngN_len, sortI_len]; omega)) only [hg, ev_asL, ev_lc, ev_rg1', ev_call, ev_cons, ev_nil, ev_op, ev_c, ev_bvar, ev_var, List.getElem?_cons_succ, List.getElem?_cons_zero, Option.bind_some, Option.map_some, slB_val, slV_val, slB_own, gLen_l, gLen_t, gLen_iT, List.length_map, rgA_1, rgO_ok, lim_ok, rngN_len, if_true, fltE_map, mapME_map, ev_gNm, ev_tYes, wipe_cons, wipe_nil, List.set_cons_succ, List.set_cons_zero, fltE_yes, fltE_p, fltP_some, fltE_rg, fltRg_p, fltRg_yes, fltRp_some, mapME_rg, mapRg_some, ev_iseq, itemsD_l, itemsD_t, mapME_some, gIx_lm, gIx_tm, Int.toNat_natCast, gAdd_i, gSub_i, map_i, ev_un, ev_asB, ev_asT, ev_not, ev_and, ev_or, ev_eif, ev_fcall, blD_bl, gEq_i, gNe_i, gLt_i, gLe_i, gGt_i, gGe_i, gNeg_i, truD_bl, ev_fn, gTuple_l, gTuple_t, gMod_i, gDiv_i, gMul_l, gMul_r, gMaxA_l', gMinA_l', gMaxA_t', gMinA_t', gSortA_l', sortI_len, gIx_last, truD_lm, truD_tm, ev_m1, gIndex_i, ev_oNo, ev_oYes, intO_i, ev_sl, gSl_l, gSl_t, cutD_map, gInt_i, gInt_b, gAbs_i, gSum_l, gSum_t, ev_isi, ev_eand, ev_eor, ev_enot, gIn_il, gIn_it, gNotIn_il, gNotIn_it, gIs_n, gIsNot_n, isNon_n, isNon_t, isNon_l, isNon_i, isNon_b, ev_tup, ev_lst, limT_0, mkL_0, limT_1, mkL_1, limT_2, mkL_2, limT_3, mkL_3, limT_4, mkL_4, limT_5, mkL_5, limT_6, mkL_6, limT_7, mkL_7, limT_8, mkL_8, gAdd_ll, gAdd_tt, gMax2_i, gMin2_i, gIx_p0, gIx_p1, ev_rev, cutD_take, cutD_drop, gSortA_pair, some_or, some_and, bl_or, bl_and, gIx_t0, gIx_l0, gIx_t1, gIx_l1, gIx_t2, gIx_l2, gIx_t3, gIx_l3, gIx_t4, gIx_l4, gIx_t5, gIx_l5]) ?_
    exact h
  by_cases h1 : r.1.length = k
  · have h3 : ¬ ((k : Int) < k) := by omega
    by_cases h2 : (nth r.1 ((k : Int) - 1)).1 < g
    · refine ⟨x14, set13 _ _ (run_if0 ?_ ?_)⟩
      · simp -implicitDefEqProofs (disch := first | assumption | omega | (simp only [List.length_map, rngN_len, sortI_len]; omega)) only [ev_asL, ev_lc, ev_rg1', ev_call, ev_cons, ev_nil, ev_op, ev_c, ev_bvar, ev_var, List.getElem?_cons_succ, List.getElem?_cons_zero, Option.bind_some, Option.map_some, slB_val, slV_val, slB_own, gLen_l, gLen_t, gLen_iT, List.length_map, rgA_1, rgO_ok, lim_ok, rngN_len, if_true, fltE_map, mapME_map, ev_gNm, ev_tYes, wipe_cons, wipe_nil, List.set_cons_succ, List.set_cons_zero, fltE_yes, fltE_p, fltP_some, fltE_rg, fltRg_p, fltRg_yes, fltRp_some, mapME_rg, mapRg_some, ev_iseq, itemsD_l, itemsD_t, mapME_some, gIx_lm, gIx_tm, Int.toNat_natCast, gAdd_i, gSub_i, map_i, ev_un, ev_asB, ev_asT, ev_not, ev_and, ev_or, ev_eif, ev_fcall, blD_bl, gEq_i, gNe_i, gLt_i, gLe_i, gGt_i, gGe_i, gNeg_i, truD_bl, ev_fn, gTuple_l, gTuple_t, gMod_i, gDiv_i, gMul_l, gMul_r, gMaxA_l', gMinA_l', gMaxA_t', gMinA_t', gSortA_l', sortI_len, gIx_last, truD_lm, truD_tm, ev_m1, gIndex_i, ev_oNo, ev_oYes, intO_i, ev_sl, gSl_l, gSl_t, cutD_map, gInt_i, gInt_b, gAbs_i, gSum_l, gSum_t, ev_isi, ev_eand, ev_eor, ev_enot, gIn_il, gIn_it, gNotIn_il, gNotIn_it, gIs_n, gIsNot_n, isNon_n, isNon_t, isNon_l, isNon_i, isNon_b, ev_tup, ev_lst, limT_0, mkL_0, limT_1, mkL_1, limT_2, mkL_2, limT_3, mkL_3, limT_4, mkL_4, limT_5, mkL_5, limT_6, mkL_6, limT_7, mkL_7, limT_8, mkL_8, gAdd_ll, gAdd_tt, gMax2_i, gMin2_i, gIx_p0, gIx_p1, ev_rev, cutD_take, cutD_drop, gSortA_pair, some_or, some_and, bl_or, bl_and, gIx_t0, gIx_l0, gIx_t1, gIx_l1, gIx_t2, gIx_l2, gIx_t3, gIx_l3, gIx_t4, gIx_l4, gIx_t5, gIx_l5, h1, decide_eq_false h3, Bool.false_eq_true, if_false]
        rw [decide_eq_false (by omega)]
        first | done | exact rfl
      · unfold visit
        rw [if_pos ⟨h1, h2⟩]
        rfl
    · obtain ⟨y, hy⟩ := yes fun h => h2 h.2
      refine ⟨y, set13 _ _ (run_if1 ?_ hy)⟩
      simp -implicitDefEqProofs (disch := first | assumption | omega | (simp only [List.length_map, rngN_len, sortI_len]; omega)) only [ev_asL, ev_lc, ev_rg1', ev_call, ev_cons, ev_nil, ev_op, ev_c, ev_bvar, ev_var, List.getElem?_cons_succ, List.getElem?_cons_zero, Option.bind_some, Option.map_some, slB_val, slV_val, slB_own, gLen_l, gLen_t, gLen_iT, List.length_map, rgA_1, rgO_ok, lim_ok, rngN_len, if_true, fltE_map, mapME_map, ev_gNm, ev_tYes, wipe_cons, wipe_nil, List.set_cons_succ, List.set_cons_zero, fltE_yes, fltE_p, fltP_some, fltE_rg, fltRg_p, fltRg_yes, fltRp_some, mapME_rg, mapRg_some, ev_iseq, itemsD_l, itemsD_t, mapME_some, gIx_lm, gIx_tm, Int.toNat_natCast, gAdd_i, gSub_i, map_i, ev_un, ev_asB, ev_asT, ev_not, ev_and, ev_or, ev_eif, ev_fcall, blD_bl, gEq_i, gNe_i, gLt_i, gLe_i, gGt_i, gGe_i, gNeg_i, truD_bl, ev_fn, gTuple_l, gTuple_t, gMod_i, gDiv_i, gMul_l, gMul_r, gMaxA_l', gMinA_l', gMaxA_t', gMinA_t', gSortA_l', sortI_len, gIx_last, truD_lm, truD_tm, ev_m1, gIndex_i, ev_oNo, ev_oYes, intO_i, ev_sl, gSl_l, gSl_t, cutD_map, gInt_i, gInt_b, gAbs_i, gSum_l, gSum_t, ev_isi, ev_eand, ev_eor, ev_enot, gIn_il, gIn_it, gNotIn_il, gNotIn_it, gIs_n, gIsNot_n, isNon_n, isNon_t, isNon_l, isNon_i, isNon_b, ev_tup, ev_lst, limT_0, mkL_0, limT_1, mkL_1, limT_2, mkL_2, limT_3, mkL_3, limT_4, mkL_4, limT_5, mkL_5, limT_6, mkL_6, limT_7, mkL_7, limT_8, mkL_8, gAdd_ll, gAdd_tt, gMax2_i, gMin2_i, gIx_p0, gIx_p1, ev_rev, cutD_take, cutD_drop, gSortA_pair, some_or, some_and, bl_or, bl_and, gIx_t0, gIx_l0, gIx_t1, gIx_l1, gIx_t2, gIx_l2, gIx_t3, gIx_l3, gIx_t4, gIx_l4, gIx_t5, gIx_l5, h1, decide_eq_false h3, Bool.false_eq_true, if_false]
      rw [decide_eq_true (by omega)]
      first | done | exact rfl
  · obtain ⟨y, hy⟩ := yes fun h => h1 h.1
    refine ⟨y, set13 _ _ (run_if1 ?_ hy)⟩
    simp only [ev_asL, ev_lc, ev_rg1', ev_call, ev_cons, ev_nil, ev_op, ev_c, ev_bvar, ev_var, List.getElem?_cons_succ, List.getElem?_cons_zero, Option.bind_some, Option.map_some, slB_val, slV_val, slB_own, gLen_l, gLen_t, gLen_iT, List.length_map, rgA_1, rgO_ok, lim_ok, rngN_len, if_true, fltE_map, mapME_map, ev_gNm, ev_tYes, wipe_cons, wipe_nil, List.set_cons_succ, List.set_cons_zero, fltE_yes, fltE_p, fltP_some, fltE_rg, fltRg_p, fltRg_yes, fltRp_some, mapME_rg, mapRg_some, ev_iseq, itemsD_l, itemsD_t, mapME_some, gIx_lm, gIx_tm, Int.toNat_natCast, gAdd_i, gSub_i, map_i, ev_un, ev_asB, ev_asT, ev_not, ev_and, ev_or, ev_eif, ev_fcall, blD_bl, gEq_i, gNe_i, gLt_i, gLe_i, gGt_i, gGe_i, gNeg_i, truD_bl, ev_fn, gTuple_l, gTuple_t, gMod_i, gDiv_i, gMul_l, gMul_r, gMaxA_l', gMinA_l', gMaxA_t', gMinA_t', gSortA_l', sortI_len, gIx_last, truD_lm, truD_tm, ev_m1, gIndex_i, ev_oNo, ev_oYes, intO_i, ev_sl, gSl_l, gSl_t, cutD_map, gInt_i, gInt_b, gAbs_i, gSum_l, gSum_t, ev_isi, ev_eand, ev_eor, ev_enot, gIn_il, gIn_it, gNotIn_il, gNotIn_it, gIs_n, gIsNot_n, isNon_n, isNon_t, isNon_l, isNon_i, isNon_b, ev_tup, ev_lst, limT_0, mkL_0, limT_1, mkL_1, limT_2, mkL_2, limT_3, mkL_3, limT_4, mkL_4, limT_5, mkL_5, limT_6, mkL_6, limT_7, mkL_7, limT_8, mkL_8, gAdd_ll, gAdd_tt, gMax2_i, gMin2_i, gIx_p0, gIx_p1, ev_rev, cutD_take, cutD_drop, gSortA_pair, some_or, some_and, bl_or, bl_and, gIx_t0, gIx_l0, gIx_t1, gIx_l1, gIx_t2, gIx_l2, gIx_t3, gIx_l3, gIx_t4, gIx_l4, gIx_t5, gIx_l5]
    rw [decide_eq_true (show (r.1.length : Int) < k by omega)]
    rfl
end K06

set_option Elab.async false
set_option linter.all false
set_option maxRecDepth 100000
set_option maxHeartbeats 4000000
namespace K06
open PySem L2 PD
theorem rt_not_int (t : RT) (h : ∀ p, t ≠ .one p) : isiD "int" t.d = false := by
  cases t with
  | non => simp [RT.d, isiD, tyD]
  | one p => exact absurd rfl (h p)
  | node p c i o => exact isi_int_tup
theorem run_lin {vs : List (List Int)} {vec : List Int} {W : Way} {dist : Int → Int} {d2 : Int → Int → Int} (hd : ∀ p, 0 ≤ p → p < (vs.length : Int) → run_l_far [W.d, intT vec, intT (nth vs p)] = some (.int (dist p))) (k : Nat) (hk0 : 0 < k) (hk : k ≤ 1000) : ∀ (f : Nat) (t : RT) (fd : List (Int × Int)), t.ht ≤ f → t.fits d2 vs.length → fd.length ≤ k →
    run_l_in f [.tup (vs.map intT), t.d, intT vec, W.d, .int k, .lst (fd.map pairD)] = some (resD (goIn dist k t fd))
  | 0, t, fd, h, _, _ => by
    have : 1 ≤ t.ht := by cases t <;> simp [RT.ht]
    omega
  | f + 1, t, fd, hf, ht, hl => by
    have ih := run_lin (d2 := d2) hd k hk0 hk f
    show runC 6 9 (b_l_in (run_l_in f)) _ = _
    refine runC_rt rfl ?_
    simp only [List.map_cons, List.map_nil, List.replicate, List.cons_append, List.nil_append, List.set_cons_succ, List.set_cons_zero]
    cases t with
    | non => exact seq_if1r rfl rfl
    | one p =>
      obtain ⟨p0, p1⟩ := ht
      have hg : gIx (.tup (vs.map intT)) (.int p) = some (intT (nth vs p)) := gIx_tm p0 p1
      have e : (.lst [.tup [.int (dist p), .int p]] : D) = .lst (List.map pairD [(dist p, p)]) := rfl
      have ri := run_is_int (.int p) rfl
      rw [← e_is_int] at ri
      have ha := gAdd_ll (e := pairD) (xs := fd) (ys := [(dist p, p)]) (by simp; omega)
      rw [← e] at ha
      refine seq_if0 rfl ?_
      refine seq_if1r (by
        simp -implicitDefEqProofs (disch := first | assumption | omega | (simp only [List.length_map, rngN_len, sortI_len]; omega)) only [ev_asL, ev_lc, ev_rg1', ev_call, ev_cons, ev_nil, ev_op, ev_c, ev_bvar, ev_var, List.getElem?_cons_succ, List.getElem?_cons_zero, Option.bind_some, Option.map_some, slB_val, slV_val, slB_own, gLen_l, gLen_t, gLen_iT, List.length_map, rgA_1, rgO_ok, lim_ok, rngN_len, if_true, fltE_map, mapME_map, ev_gNm, ev_tYes, wipe_cons, wipe_nil, List.set_cons_succ, List.set_cons_zero, fltE_yes, fltE_p, fltP_some, fltE_rg, fltRg_p, fltRg_yes, fltRp_some, mapME_rg, mapRg_some, ev_iseq, itemsD_l, itemsD_t, mapME_some, gIx_lm, gIx_tm, Int.toNat_natCast, gAdd_i, gSub_i, map_i, ev_un, ev_asB, ev_asT, ev_not, ev_and, ev_or, ev_eif, ev_fcall, blD_bl, gEq_i, gNe_i, gLt_i, gLe_i, gGt_i, gGe_i, gNeg_i, truD_bl, ev_fn, gTuple_l, gTuple_t, gMod_i, gDiv_i, gMul_l, gMul_r, gMaxA_l', gMinA_l', gMaxA_t', gMinA_t', gSortA_l', sortI_len, gIx_last, truD_lm, truD_tm, ev_m1, gIndex_i, ev_oNo, ev_oYes, intO_i, ev_sl, gSl_l, gSl_t, cutD_map, gInt_i, gInt_b, gAbs_i, gSum_l, gSum_t, ev_isi, ev_eand, ev_eor, ev_enot, gIn_il, gIn_it, gNotIn_il, gNotIn_it, gIs_n, gIsNot_n, isNon_n, isNon_t, isNon_l, isNon_i, isNon_b, ev_tup, ev_lst, limT_0, mkL_0, limT_1, mkL_1, limT_2, mkL_2, limT_3, mkL_3, limT_4, mkL_4, limT_5, mkL_5, limT_6, mkL_6, limT_7, mkL_7, limT_8, mkL_8, gAdd_ll, gAdd_tt, gMax2_i, gMin2_i, gIx_p0, gIx_p1, ev_rev, cutD_take, cutD_drop, gSortA_pair, some_or, some_and, bl_or, bl_and, gIx_t0, gIx_l0, gIx_t1, gIx_l1, gIx_t2, gIx_l2, gIx_t3, gIx_l3, gIx_t4, gIx_l4, gIx_t5, gIx_l5, RT.d, ri, isi_int_int, isi_bool_int]
        first | done | exact rfl) (run_ret ?_)
      simp -implicitDefEqProofs (disch := first | assumption | omega | (simp only [List.length_map, rngN_len, sortI_len]; omega)) only [ev_asL, ev_lc, ev_rg1', ev_call, ev_cons, ev_nil, ev_op, ev_c, ev_bvar, ev_var, List.getElem?_cons_succ, List.getElem?_cons_zero, Option.bind_some, Option.map_some, slB_val, slV_val, slB_own, gLen_l, gLen_t, gLen_iT, List.length_map, rgA_1, rgO_ok, lim_ok, rngN_len, if_true, fltE_map, mapME_map, ev_gNm, ev_tYes, wipe_cons, wipe_nil, List.set_cons_succ, List.set_cons_zero, fltE_yes, fltE_p, fltP_some, fltE_rg, fltRg_p, fltRg_yes, fltRp_some, mapME_rg, mapRg_some, ev_iseq, itemsD_l, itemsD_t, mapME_some, gIx_lm, gIx_tm, Int.toNat_natCast, gAdd_i, gSub_i, map_i, ev_un, ev_asB, ev_asT, ev_not, ev_and, ev_or, ev_eif, ev_fcall, blD_bl, gEq_i, gNe_i, gLt_i, gLe_i, gGt_i, gGe_i, gNeg_i, truD_bl, ev_fn, gTuple_l, gTuple_t, gMod_i, gDiv_i, gMul_l, gMul_r, gMaxA_l', gMinA_l', gMaxA_t', gMinA_t', gSortA_l', sortI_len, gIx_last, truD_lm, truD_tm, ev_m1, gIndex_i, ev_oNo, ev_oYes, intO_i, ev_sl, gSl_l, gSl_t, cutD_map, gInt_i, gInt_b, gAbs_i, gSum_l, gSum_t, ev_isi, ev_eand, ev_eor, ev_enot, gIn_il, gIn_it, gNotIn_il, gNotIn_it, gIs_n, gIsNot_n, isNon_n, isNon_t, isNon_l, isNon_i, isNon_b, ev_tup, ev_lst, limT_0, mkL_0, limT_1, mkL_1, limT_2, mkL_2, limT_3, mkL_3, limT_4, mkL_4, limT_5, mkL_5, limT_6, mkL_6, limT_7, mkL_7, limT_8, mkL_8, gAdd_ll, gAdd_tt, gMax2_i, gMin2_i, gIx_p0, gIx_p1, ev_rev, cutD_take, cutD_drop, gSortA_pair, some_or, some_and, bl_or, bl_and, gIx_t0, gIx_l0, gIx_t1, gIx_l1, gIx_t2, gIx_l2, gIx_t3, gIx_l3, gIx_t4, gIx_l4, gIx_t5, gIx_l5, RT.d, hg, hd p p0 p1, ha, ← List.map_take]
      rfl
    | node p c i o =>
      obtain ⟨⟨p0, p1⟩, fi, fo, ti, to'⟩ := ht
      have hf : 1 + max i.ht o.ht ≤ f + 1 := hf
      have hg : gIx (.tup (vs.map intT)) (.int p) = some (intT (nth vs p)) := gIx_tm p0 p1
      have e : (.lst [.tup [.int (dist p), .int p]] : D) = .lst (List.map pairD [(dist p, p)]) := rfl
      have ri := run_is_int (RT.node p c i o).d rfl
      rw [← e_is_int] at ri
      have ha := gAdd_ll (e := pairD) (xs := fd) (ys := [(dist p, p)]) (by simp; omega)
      rw [← e] at ha
      refine seq_if0 rfl ?_
      refine seq_if0 (by
        simp -implicitDefEqProofs (disch := first | assumption | omega | (simp only [List.length_map, rngN_len, sortI_len]; omega)) only [ev_asL, ev_lc, ev_rg1', ev_call, ev_cons, ev_nil, ev_op, ev_c, ev_bvar, ev_var, List.getElem?_cons_succ, List.getElem?_cons_zero, Option.bind_some, Option.map_some, slB_val, slV_val, slB_own, gLen_l, gLen_t, gLen_iT, List.length_map, rgA_1, rgO_ok, lim_ok, rngN_len, if_true, fltE_map, mapME_map, ev_gNm, ev_tYes, wipe_cons, wipe_nil, List.set_cons_succ, List.set_cons_zero, fltE_yes, fltE_p, fltP_some, fltE_rg, fltRg_p, fltRg_yes, fltRp_some, mapME_rg, mapRg_some, ev_iseq, itemsD_l, itemsD_t, mapME_some, gIx_lm, gIx_tm, Int.toNat_natCast, gAdd_i, gSub_i, map_i, ev_un, ev_asB, ev_asT, ev_not, ev_and, ev_or, ev_eif, ev_fcall, blD_bl, gEq_i, gNe_i, gLt_i, gLe_i, gGt_i, gGe_i, gNeg_i, truD_bl, ev_fn, gTuple_l, gTuple_t, gMod_i, gDiv_i, gMul_l, gMul_r, gMaxA_l', gMinA_l', gMaxA_t', gMinA_t', gSortA_l', sortI_len, gIx_last, truD_lm, truD_tm, ev_m1, gIndex_i, ev_oNo, ev_oYes, intO_i, ev_sl, gSl_l, gSl_t, cutD_map, gInt_i, gInt_b, gAbs_i, gSum_l, gSum_t, ev_isi, ev_eand, ev_eor, ev_enot, gIn_il, gIn_it, gNotIn_il, gNotIn_it, gIs_n, gIsNot_n, isNon_n, isNon_t, isNon_l, isNon_i, isNon_b, ev_tup, ev_lst, limT_0, mkL_0, limT_1, mkL_1, limT_2, mkL_2, limT_3, mkL_3, limT_4, mkL_4, limT_5, mkL_5, limT_6, mkL_6, limT_7, mkL_7, limT_8, mkL_8, gAdd_ll, gAdd_tt, gMax2_i, gMin2_i, gIx_p0, gIx_p1, ev_rev, cutD_take, cutD_drop, gSortA_pair, some_or, some_and, bl_or, bl_and, gIx_t0, gIx_l0, gIx_t1, gIx_l1, gIx_t2, gIx_l2, gIx_t3, gIx_l3, gIx_t4, gIx_l4, gIx_t5, gIx_l5, ri, rt_not_int (RT.node p c i o) (fun _ h => by cases h)]
        first | done | exact rfl) ?_
      refine seq_asg (d := .tup [.int p, .int c, i.d, o.d]) rfl rfl ?_
      simp only [List.map_cons, List.map_nil, List.replicate, List.cons_append, List.nil_append, List.set_cons_succ, List.set_cons_zero]
      refine seq_set (by
        simp -implicitDefEqProofs (disch := first | assumption | omega | (simp only [List.length_map, rngN_len, sortI_len]; omega)) only [ev_asL, ev_lc, ev_rg1', ev_call, ev_cons, ev_nil, ev_op, ev_c, ev_bvar, ev_var, List.getElem?_cons_succ, List.getElem?_cons_zero, Option.bind_some, Option.map_some, slB_val, slV_val, slB_own, gLen_l, gLen_t, gLen_iT, List.length_map, rgA_1, rgO_ok, lim_ok, rngN_len, if_true, fltE_map, mapME_map, ev_gNm, ev_tYes, wipe_cons, wipe_nil, List.set_cons_succ, List.set_cons_zero, fltE_yes, fltE_p, fltP_some, fltE_rg, fltRg_p, fltRg_yes, fltRp_some, mapME_rg, mapRg_some, ev_iseq, itemsD_l, itemsD_t, mapME_some, gIx_lm, gIx_tm, Int.toNat_natCast, gAdd_i, gSub_i, map_i, ev_un, ev_asB, ev_asT, ev_not, ev_and, ev_or, ev_eif, ev_fcall, blD_bl, gEq_i, gNe_i, gLt_i, gLe_i, gGt_i, gGe_i, gNeg_i, truD_bl, ev_fn, gTuple_l, gTuple_t, gMod_i, gDiv_i, gMul_l, gMul_r, gMaxA_l', gMinA_l', gMaxA_t', gMinA_t', gSortA_l', sortI_len, gIx_last, truD_lm, truD_tm, ev_m1, gIndex_i, ev_oNo, ev_oYes, intO_i, ev_sl, gSl_l, gSl_t, cutD_map, gInt_i, gInt_b, gAbs_i, gSum_l, gSum_t, ev_isi, ev_eand, ev_eor, ev_enot, gIn_il, gIn_it, gNotIn_il, gNotIn_it, gIs_n, gIsNot_n, isNon_n, isNon_t, isNon_l, isNon_i, isNon_b, ev_tup, ev_lst, limT_0, mkL_0, limT_1, mkL_1, limT_2, mkL_2, limT_3, mkL_3, limT_4, mkL_4, limT_5, mkL_5, limT_6, mkL_6, limT_7, mkL_7, limT_8, mkL_8, gAdd_ll, gAdd_tt, gMax2_i, gMin2_i, gIx_p0, gIx_p1, ev_rev, cutD_take, cutD_drop, gSortA_pair, some_or, some_and, bl_or, bl_and, gIx_t0, gIx_l0, gIx_t1, gIx_l1, gIx_t2, gIx_l2, gIx_t3, gIx_l3, gIx_t4, gIx_l4, gIx_t5, gIx_l5, hg, hd p p0 p1]
        first | done | exact rfl) ?_
      simp only [List.map_cons, List.map_nil, List.replicate, List.cons_append, List.nil_append, List.set_cons_succ, List.set_cons_zero]
      refine seq_par (x := .val (.lst ((topk k (fd ++ [(dist p, p)])).map pairD))) (y := .val (.int 1)) (by
        simp -implicitDefEqProofs (disch := first | assumption | omega | (simp only [List.length_map, rngN_len, sortI_len]; omega)) only [ev_vN, ev_asL, ev_lc, ev_rg1', ev_call, ev_cons, ev_nil, ev_op, ev_c, ev_bvar, ev_var, List.getElem?_cons_succ, List.getElem?_cons_zero, Option.bind_some, Option.map_some, slB_val, slV_val, slB_own, gLen_l, gLen_t, gLen_iT, List.length_map, rgA_1, rgO_ok, lim_ok, rngN_len, if_true, fltE_map, mapME_map, ev_gNm, ev_tYes, wipe_cons, wipe_nil, List.set_cons_succ, List.set_cons_zero, fltE_yes, fltE_p, fltP_some, fltE_rg, fltRg_p, fltRg_yes, fltRp_some, mapME_rg, mapRg_some, ev_iseq, itemsD_l, itemsD_t, mapME_some, gIx_lm, gIx_tm, Int.toNat_natCast, gAdd_i, gSub_i, map_i, ev_un, ev_asB, ev_asT, ev_not, ev_and, ev_or, ev_eif, ev_fcall, blD_bl, gEq_i, gNe_i, gLt_i, gLe_i, gGt_i, gGe_i, gNeg_i, truD_bl, ev_fn, gTuple_l, gTuple_t, gMod_i, gDiv_i, gMul_l, gMul_r, gMaxA_l', gMinA_l', gMaxA_t', gMinA_t', gSortA_l', sortI_len, gIx_last, truD_lm, truD_tm, ev_m1, gIndex_i, ev_oNo, ev_oYes, intO_i, ev_sl, gSl_l, gSl_t, cutD_map, gInt_i, gInt_b, gAbs_i, gSum_l, gSum_t, ev_isi, ev_eand, ev_eor, ev_enot, gIn_il, gIn_it, gNotIn_il, gNotIn_it, gIs_n, gIsNot_n, isNon_n, isNon_t, isNon_l, isNon_i, isNon_b, ev_tup, ev_lst, limT_0, mkL_0, limT_1, mkL_1, limT_2, mkL_2, limT_3, mkL_3, limT_4, mkL_4, limT_5, mkL_5, limT_6, mkL_6, limT_7, mkL_7, limT_8, mkL_8, gAdd_ll, gAdd_tt, gMax2_i, gMin2_i, gIx_p0, gIx_p1, ev_rev, cutD_take, cutD_drop, gSortA_pair, some_or, some_and, bl_or, bl_and, gIx_t0, gIx_l0, gIx_t1, gIx_l1, gIx_t2, gIx_l2, gIx_t3, gIx_l3, gIx_t4, gIx_l4, gIx_t5, gIx_l5, ha, ← List.map_take]
        rfl) rfl ?_
      simp only [List.map_cons, List.map_nil, List.replicate, List.cons_append, List.nil_append, List.set_cons_succ, List.set_cons_zero]
      have i1 := fun fd hfd => ih i fd (by omega) ti hfd
      have o1 := fun fd hfd => ih o fd (by omega) to' hfd
      unfold goIn
      have tk : (topk k (fd ++ [(dist p, p)])).length ≤ k := topk_len
      generalize topk k (fd ++ [(dist p, p)]) = F at tk
      by_cases hc : c < dist p
      · rw [if_pos hc]
        have v1 := visit_len (dist := dist) (k := k) (t := o) (g := c + 1 - dist p) (r := (F, 1)) tk
        obtain ⟨y1, h1⟩ := stepL_ok (run_l_in f) (goIn dist k o) k hk0 (F, 1) (c + 1 - dist p) 1 (dist p) c (.tup (vs.map intT)) (intT vec) W.d o.d i.d o.d (.val (RT.node p c i o).d) (.val (.int p)) .un .un tk (o1 _ tk) rfl rfl
        obtain ⟨y2, h2⟩ := stepL_ok (run_l_in f) (goIn dist k i) k hk0 (visit (goIn dist k o) k (c + 1 - dist p) (F, 1)) (dist p - c) 0 (dist p) c (.tup (vs.map intT)) (intT vec) W.d i.d i.d o.d (.val (RT.node p c i o).d) (.val (.int p)) (.val (.int (c + 1 - dist p))) y1 v1 (i1 _ v1) rfl rfl
        refine for2 (x := .int 1) (y := .int 0) ?_ rfl h1 rfl h2 rfl
        simp -implicitDefEqProofs (disch := first | assumption | omega | (simp only [List.length_map, rngN_len, sortI_len]; omega)) only [ev_asL, ev_lc, ev_rg1', ev_call, ev_cons, ev_nil, ev_op, ev_c, ev_bvar, ev_var, List.getElem?_cons_succ, List.getElem?_cons_zero, Option.bind_some, Option.map_some, slB_val, slV_val, slB_own, gLen_l, gLen_t, gLen_iT, List.length_map, rgA_1, rgO_ok, lim_ok, rngN_len, if_true, fltE_map, mapME_map, ev_gNm, ev_tYes, wipe_cons, wipe_nil, List.set_cons_succ, List.set_cons_zero, fltE_yes, fltE_p, fltP_some, fltE_rg, fltRg_p, fltRg_yes, fltRp_some, mapME_rg, mapRg_some, ev_iseq, itemsD_l, itemsD_t, mapME_some, gIx_lm, gIx_tm, Int.toNat_natCast, gAdd_i, gSub_i, map_i, ev_un, ev_asB, ev_asT, ev_not, ev_and, ev_or, ev_eif, ev_fcall, blD_bl, gEq_i, gNe_i, gLt_i, gLe_i, gGt_i, gGe_i, gNeg_i, truD_bl, ev_fn, gTuple_l, gTuple_t, gMod_i, gDiv_i, gMul_l, gMul_r, gMaxA_l', gMinA_l', gMaxA_t', gMinA_t', gSortA_l', sortI_len, gIx_last, truD_lm, truD_tm, ev_m1, gIndex_i, ev_oNo, ev_oYes, intO_i, ev_sl, gSl_l, gSl_t, cutD_map, gInt_i, gInt_b, gAbs_i, gSum_l, gSum_t, ev_isi, ev_eand, ev_eor, ev_enot, gIn_il, gIn_it, gNotIn_il, gNotIn_it, gIs_n, gIsNot_n, isNon_n, isNon_t, isNon_l, isNon_i, isNon_b, ev_tup, ev_lst, limT_0, mkL_0, limT_1, mkL_1, limT_2, mkL_2, limT_3, mkL_3, limT_4, mkL_4, limT_5, mkL_5, limT_6, mkL_6, limT_7, mkL_7, limT_8, mkL_8, gAdd_ll, gAdd_tt, gMax2_i, gMin2_i, gIx_p0, gIx_p1, ev_rev, cutD_take, cutD_drop, gSortA_pair, some_or, some_and, bl_or, bl_and, gIx_t0, gIx_l0, gIx_t1, gIx_l1, gIx_t2, gIx_l2, gIx_t3, gIx_l3, gIx_t4, gIx_l4, gIx_t5, gIx_l5]
        rw [decide_eq_true hc]
        rfl
      · rw [if_neg hc]
        have v1 := visit_len (dist := dist) (k := k) (t := i) (g := dist p - c) (r := (F, 1)) tk
        obtain ⟨y1, h1⟩ := stepL_ok (run_l_in f) (goIn dist k i) k hk0 (F, 1) (dist p - c) 0 (dist p) c (.tup (vs.map intT)) (intT vec) W.d i.d i.d o.d (.val (RT.node p c i o).d) (.val (.int p)) .un .un tk (i1 _ tk) rfl rfl
        obtain ⟨y2, h2⟩ := stepL_ok (run_l_in f) (goIn dist k o) k hk0 (visit (goIn dist k i) k (dist p - c) (F, 1)) (c + 1 - dist p) 1 (dist p) c (.tup (vs.map intT)) (intT vec) W.d o.d i.d o.d (.val (RT.node p c i o).d) (.val (.int p)) (.val (.int (dist p - c))) y1 v1 (o1 _ v1) rfl rfl
        refine for2 (x := .int 0) (y := .int 1) ?_ rfl h1 rfl h2 rfl
        simp -implicitDefEqProofs (disch := first | assumption | omega | (simp only [List.length_map, rngN_len, sortI_len]; omega)) only [ev_asL, ev_lc, ev_rg1', ev_call, ev_cons, ev_nil, ev_op, ev_c, ev_bvar, ev_var, List.getElem?_cons_succ, List.getElem?_cons_zero, Option.bind_some, Option.map_some, slB_val, slV_val, slB_own, gLen_l, gLen_t, gLen_iT, List.length_map, rgA_1, rgO_ok, lim_ok, rngN_len, if_true, fltE_map, mapME_map, ev_gNm, ev_tYes, wipe_cons, wipe_nil, List.set_cons_succ, List.set_cons_zero, fltE_yes, fltE_p, fltP_some, fltE_rg, fltRg_p, fltRg_yes, fltRp_some, mapME_rg, mapRg_some, ev_iseq, itemsD_l, itemsD_t, mapME_some, gIx_lm, gIx_tm, Int.toNat_natCast, gAdd_i, gSub_i, map_i, ev_un, ev_asB, ev_asT, ev_not, ev_and, ev_or, ev_eif, ev_fcall, blD_bl, gEq_i, gNe_i, gLt_i, gLe_i, gGt_i, gGe_i, gNeg_i, truD_bl, ev_fn, gTuple_l, gTuple_t, gMod_i, gDiv_i, gMul_l, gMul_r, gMaxA_l', gMinA_l', gMaxA_t', gMinA_t', gSortA_l', sortI_len, gIx_last, truD_lm, truD_tm, ev_m1, gIndex_i, ev_oNo, ev_oYes, intO_i, ev_sl, gSl_l, gSl_t, cutD_map, gInt_i, gInt_b, gAbs_i, gSum_l, gSum_t, ev_isi, ev_eand, ev_eor, ev_enot, gIn_il, gIn_it, gNotIn_il, gNotIn_it, gIs_n, gIsNot_n, isNon_n, isNon_t, isNon_l, isNon_i, isNon_b, ev_tup, ev_lst, limT_0, mkL_0, limT_1, mkL_1, limT_2, mkL_2, limT_3, mkL_3, limT_4, mkL_4, limT_5, mkL_5, limT_6, mkL_6, limT_7, mkL_7, limT_8, mkL_8, gAdd_ll, gAdd_tt, gMax2_i, gMin2_i, gIx_p0, gIx_p1, ev_rev, cutD_take, cutD_drop, gSortA_pair, some_or, some_and, bl_or, bl_and, gIx_t0, gIx_l0, gIx_t1, gIx_l1, gIx_t2, gIx_l2, gIx_t3, gIx_l3, gIx_t4, gIx_l4, gIx_t5, gIx_l5]
        rw [decide_eq_false hc]
        rfl
end K06

set_option Elab.async false
set_option linter.all false
set_option maxRecDepth 100000
set_option maxHeartbeats 4000000
namespace K06
open PySem L2 PD
def rgA' : D → Option (List D)
  | .int j => if decide (-1000000000 ≤ j) && decide (j ≤ 16000000) then some (rngL 0 j.toNat) else none
  | _ => none
theorem ev_rgl {f : Fe} {env : List Sl} : iRg1' f env = (f env).bind rgA' := by
  unfold iRg1'
  cases f env with
  | none => rfl
  | some d => cases d <;> rfl
theorem rgA'_i {n : Nat} (h : n ≤ 16000000) : rgA' (.int n) = some ((rngN n).map D.int) := by
  show (if (decide (-1000000000 ≤ (n : Int)) && decide ((n : Int) ≤ 16000000)) = true then some (rngL 0 (n : Int).toNat) else none) = _
  rw [decide_eq_true (show (-1000000000 : Int) ≤ n by omega), decide_eq_true (show (n : Int) ≤ 16000000 by omega)]
  show some (rngL 0 (n : Int).toNat) = _
  rw [rngL_map, Int.toNat_natCast]
theorem rng_in {m : Nat} : ∀ p ∈ rngN m, 0 ≤ p ∧ p < (m : Int) := fun p h => mem_rngN h
theorem run_stree {n : Nat} {vs : List (List Int)} (hn0 : 0 < n) (hn : n ≤ 1000) (hv : ∀ v ∈ vs, v.length = n) (hz : vs.length ≤ 12) : run_split_tree [.tup (vs.map intT)] = some (split vs n 14 (rngN vs.length)).d := by
  have h := run_tree n vs hn0 hn hv 14 (rngN vs.length) (by rw [rngN_len]; omega) (by rw [rngN_len]; omega) rng_in
  refine runC_rt rfl (run_ret ?_)
  simp only [List.map_cons, List.map_nil, List.replicate, List.cons_append, List.nil_append, List.set_cons_succ, List.set_cons_zero]
  simp -implicitDefEqProofs (disch := first | assumption | omega | (simp only [List.length_map, rngN_len, sortI_len]; omega)) only [ev_asL, ev_lc, ev_rg1', ev_call, ev_cons, ev_nil, ev_op, ev_c, ev_bvar, ev_var, List.getElem?_cons_succ, List.getElem?_cons_zero, Option.bind_some, Option.map_some, slB_val, slV_val, slB_own, gLen_l, gLen_t, gLen_iT, List.length_map, rgA_1, rgO_ok, lim_ok, rngN_len, if_true, fltE_map, mapME_map, ev_gNm, ev_tYes, wipe_cons, wipe_nil, List.set_cons_succ, List.set_cons_zero, fltE_yes, fltE_p, fltP_some, fltE_rg, fltRg_p, fltRg_yes, fltRp_some, mapME_rg, mapRg_some, ev_iseq, itemsD_l, itemsD_t, mapME_some, gIx_lm, gIx_tm, Int.toNat_natCast, gAdd_i, gSub_i, map_i, ev_un, ev_asB, ev_asT, ev_not, ev_and, ev_or, ev_eif, ev_fcall, blD_bl, gEq_i, gNe_i, gLt_i, gLe_i, gGt_i, gGe_i, gNeg_i, truD_bl, ev_fn, gTuple_l, gTuple_t, gMod_i, gDiv_i, gMul_l, gMul_r, gMaxA_l', gMinA_l', gMaxA_t', gMinA_t', gSortA_l', sortI_len, gIx_last, truD_lm, truD_tm, ev_m1, gIndex_i, ev_oNo, ev_oYes, intO_i, ev_sl, gSl_l, gSl_t, cutD_map, gInt_i, gInt_b, gAbs_i, gSum_l, gSum_t, ev_isi, ev_eand, ev_eor, ev_enot, gIn_il, gIn_it, gNotIn_il, gNotIn_it, gIs_n, gIsNot_n, isNon_n, isNon_t, isNon_l, isNon_i, isNon_b, ev_tup, ev_lst, limT_0, mkL_0, limT_1, mkL_1, limT_2, mkL_2, limT_3, mkL_3, limT_4, mkL_4, limT_5, mkL_5, limT_6, mkL_6, limT_7, mkL_7, limT_8, mkL_8, gAdd_ll, gAdd_tt, gMax2_i, gMin2_i, gIx_p0, gIx_p1, ev_rev, cutD_take, cutD_drop, gSortA_pair, some_or, some_and, bl_or, bl_and, gIx_t0, gIx_l0, gIx_t1, gIx_l1, gIx_t2, gIx_l2, gIx_t3, gIx_l3, gIx_t4, gIx_l4, gIx_t5, gIx_l5, ev_rgl, rgA'_i, h]
theorem run_tnear {n : Nat} {vs : List (List Int)} {vec : List Int} {W : Way} {dist : Int → Int} (w : Wd n vs vec W dist) (hn : n ≤ 1000) (hv : ∀ v ∈ vs, v.length = n) (hb : ∀ v ∈ vs, ∀ x ∈ v, -1000 ≤ x ∧ x ≤ 1000) (hz : vs.length ≤ 12) (k : Nat) (hk0 : 0 < k) (hk : k ≤ 1000) :
    run_tree_nearest [.tup (vs.map intT), intT vec, W.d, .int k] = some (.tup [.tup ((down vec dist (gapW W) k (split vs n 14 (rngN vs.length)) []).1.map pairD), .int (down vec dist (gapW W) k (split vs n 14 (rngN vs.length)) []).2]) := by
  have hs := run_stree w.n0 hn hv hz
  have hl := rngN_len vs.length
  obtain ⟨f1, f2, f3⟩ := split_facts w.n0 hv hb 14 (rngN vs.length) (by omega) (by omega) rng_in
  have hh := split_ht (vs := vs) w.n0 14 (rngN vs.length) (by omega)
  have hd := run_down w k hk0 hk 14 (split vs n 14 (rngN vs.length)) [] (by omega) f3 (by simp)
  refine runC_rt rfl ?_
  simp only [List.map_cons, List.map_nil, List.replicate, List.cons_append, List.nil_append, List.set_cons_succ, List.set_cons_zero]
  refine seq_asg (d := resD (down vec dist (gapW W) k (split vs n 14 (rngN vs.length)) [])) (by
    simp -implicitDefEqProofs (disch := first | assumption | omega | (simp only [List.length_map, rngN_len, sortI_len]; omega)) only [ev_asL, ev_lc, ev_rg1', ev_call, ev_cons, ev_nil, ev_op, ev_c, ev_bvar, ev_var, List.getElem?_cons_succ, List.getElem?_cons_zero, Option.bind_some, Option.map_some, slB_val, slV_val, slB_own, gLen_l, gLen_t, gLen_iT, List.length_map, rgA_1, rgO_ok, lim_ok, rngN_len, if_true, fltE_map, mapME_map, ev_gNm, ev_tYes, wipe_cons, wipe_nil, List.set_cons_succ, List.set_cons_zero, fltE_yes, fltE_p, fltP_some, fltE_rg, fltRg_p, fltRg_yes, fltRp_some, mapME_rg, mapRg_some, ev_iseq, itemsD_l, itemsD_t, mapME_some, gIx_lm, gIx_tm, Int.toNat_natCast, gAdd_i, gSub_i, map_i, ev_un, ev_asB, ev_asT, ev_not, ev_and, ev_or, ev_eif, ev_fcall, blD_bl, gEq_i, gNe_i, gLt_i, gLe_i, gGt_i, gGe_i, gNeg_i, truD_bl, ev_fn, gTuple_l, gTuple_t, gMod_i, gDiv_i, gMul_l, gMul_r, gMaxA_l', gMinA_l', gMaxA_t', gMinA_t', gSortA_l', sortI_len, gIx_last, truD_lm, truD_tm, ev_m1, gIndex_i, ev_oNo, ev_oYes, intO_i, ev_sl, gSl_l, gSl_t, cutD_map, gInt_i, gInt_b, gAbs_i, gSum_l, gSum_t, ev_isi, ev_eand, ev_eor, ev_enot, gIn_il, gIn_it, gNotIn_il, gNotIn_it, gIs_n, gIsNot_n, isNon_n, isNon_t, isNon_l, isNon_i, isNon_b, ev_tup, ev_lst, limT_0, mkL_0, limT_1, mkL_1, limT_2, mkL_2, limT_3, mkL_3, limT_4, mkL_4, limT_5, mkL_5, limT_6, mkL_6, limT_7, mkL_7, limT_8, mkL_8, gAdd_ll, gAdd_tt, gMax2_i, gMin2_i, gIx_p0, gIx_p1, ev_rev, cutD_take, cutD_drop, gSortA_pair, some_or, some_and, bl_or, bl_and, gIx_t0, gIx_l0, gIx_t1, gIx_l1, gIx_t2, gIx_l2, gIx_t3, gIx_l3, gIx_t4, gIx_l4, gIx_t5, gIx_l5, hs]
    exact hd) rfl ?_
  simp only [List.map_cons, List.map_nil, List.replicate, List.cons_append, List.nil_append, List.set_cons_succ, List.set_cons_zero]
  refine run_ret ?_
  simp -implicitDefEqProofs (disch := first | assumption | omega | (simp only [List.length_map, rngN_len, sortI_len]; omega)) only [ev_asL, ev_lc, ev_rg1', ev_call, ev_cons, ev_nil, ev_op, ev_c, ev_bvar, ev_var, List.getElem?_cons_succ, List.getElem?_cons_zero, Option.bind_some, Option.map_some, slB_val, slV_val, slB_own, gLen_l, gLen_t, gLen_iT, List.length_map, rgA_1, rgO_ok, lim_ok, rngN_len, if_true, fltE_map, mapME_map, ev_gNm, ev_tYes, wipe_cons, wipe_nil, List.set_cons_succ, List.set_cons_zero, fltE_yes, fltE_p, fltP_some, fltE_rg, fltRg_p, fltRg_yes, fltRp_some, mapME_rg, mapRg_some, ev_iseq, itemsD_l, itemsD_t, mapME_some, gIx_lm, gIx_tm, Int.toNat_natCast, gAdd_i, gSub_i, map_i, ev_un, ev_asB, ev_asT, ev_not, ev_and, ev_or, ev_eif, ev_fcall, blD_bl, gEq_i, gNe_i, gLt_i, gLe_i, gGt_i, gGe_i, gNeg_i, truD_bl, ev_fn, gTuple_l, gTuple_t, gMod_i, gDiv_i, gMul_l, gMul_r, gMaxA_l', gMinA_l', gMaxA_t', gMinA_t', gSortA_l', sortI_len, gIx_last, truD_lm, truD_tm, ev_m1, gIndex_i, ev_oNo, ev_oYes, intO_i, ev_sl, gSl_l, gSl_t, cutD_map, gInt_i, gInt_b, gAbs_i, gSum_l, gSum_t, ev_isi, ev_eand, ev_eor, ev_enot, gIn_il, gIn_it, gNotIn_il, gNotIn_it, gIs_n, gIsNot_n, isNon_n, isNon_t, isNon_l, isNon_i, isNon_b, ev_tup, ev_lst, limT_0, mkL_0, limT_1, mkL_1, limT_2, mkL_2, limT_3, mkL_3, limT_4, mkL_4, limT_5, mkL_5, limT_6, mkL_6, limT_7, mkL_7, limT_8, mkL_8, gAdd_ll, gAdd_tt, gMax2_i, gMin2_i, gIx_p0, gIx_p1, ev_rev, cutD_take, cutD_drop, gSortA_pair, some_or, some_and, bl_or, bl_and, gIx_t0, gIx_l0, gIx_t1, gIx_l1, gIx_t2, gIx_l2, gIx_t3, gIx_l3, gIx_t4, gIx_l4, gIx_t5, gIx_l5]
  first | done | exact rfl
theorem rings_ht {d2 : Int → Int → Int} : ∀ (f : Nat) (ps : List Int), ps.length < f → (rings d2 f ps).ht ≤ ps.length + 1
  | 0, ps, h => absurd h (by omega)
  | f + 1, [], _ => Nat.le_refl 1
  | f + 1, [p], _ => by
    show 1 ≤ _
    omega
  | f + 1, p :: q :: r, hf => by
    have hl : (p :: q :: r).length = (q :: r).length + 1 := rfl
    have l1 := List.length_filter_le (fun x => decide (d2 p x ≤ mostOf d2 p (q :: r))) (q :: r)
    have l2 := List.length_filter_le (fun x => decide (mostOf d2 p (q :: r) < d2 p x)) (q :: r)
    have i1 := rings_ht (d2 := d2) f ((q :: r).filter fun x => decide (d2 p x ≤ mostOf d2 p (q :: r))) (by omega)
    have i2 := rings_ht (d2 := d2) f ((q :: r).filter fun x => decide (mostOf d2 p (q :: r) < d2 p x)) (by omega)
    show 1 + max (RT.ht _) (RT.ht _) ≤ _
    omega
theorem run_rtree {vs : List (List Int)} {W : Way} {d2 : Int → Int → Int} (hd : ∀ p q, 0 ≤ p → p < (vs.length : Int) → 0 ≤ q → q < (vs.length : Int) → run_far [W.d, intT (nth vs p), intT (nth vs q)] = some (.int (d2 p q))) (hz : vs.length ≤ 12) : run_ring_tree [.tup (vs.map intT), W.d] = some (rings d2 14 (rngN vs.length)).d := by
  have h := run_rings hd 14 (rngN vs.length) (by rw [rngN_len]; omega) (by rw [rngN_len]; omega) rng_in
  refine runC_rt rfl (run_ret ?_)
  simp only [List.map_cons, List.map_nil, List.replicate, List.cons_append, List.nil_append, List.set_cons_succ, List.set_cons_zero]
  simp -implicitDefEqProofs (disch := first | assumption | omega | (simp only [List.length_map, rngN_len, sortI_len]; omega)) only [ev_asL, ev_lc, ev_rg1', ev_call, ev_cons, ev_nil, ev_op, ev_c, ev_bvar, ev_var, List.getElem?_cons_succ, List.getElem?_cons_zero, Option.bind_some, Option.map_some, slB_val, slV_val, slB_own, gLen_l, gLen_t, gLen_iT, List.length_map, rgA_1, rgO_ok, lim_ok, rngN_len, if_true, fltE_map, mapME_map, ev_gNm, ev_tYes, wipe_cons, wipe_nil, List.set_cons_succ, List.set_cons_zero, fltE_yes, fltE_p, fltP_some, fltE_rg, fltRg_p, fltRg_yes, fltRp_some, mapME_rg, mapRg_some, ev_iseq, itemsD_l, itemsD_t, mapME_some, gIx_lm, gIx_tm, Int.toNat_natCast, gAdd_i, gSub_i, map_i, ev_un, ev_asB, ev_asT, ev_not, ev_and, ev_or, ev_eif, ev_fcall, blD_bl, gEq_i, gNe_i, gLt_i, gLe_i, gGt_i, gGe_i, gNeg_i, truD_bl, ev_fn, gTuple_l, gTuple_t, gMod_i, gDiv_i, gMul_l, gMul_r, gMaxA_l', gMinA_l', gMaxA_t', gMinA_t', gSortA_l', sortI_len, gIx_last, truD_lm, truD_tm, ev_m1, gIndex_i, ev_oNo, ev_oYes, intO_i, ev_sl, gSl_l, gSl_t, cutD_map, gInt_i, gInt_b, gAbs_i, gSum_l, gSum_t, ev_isi, ev_eand, ev_eor, ev_enot, gIn_il, gIn_it, gNotIn_il, gNotIn_it, gIs_n, gIsNot_n, isNon_n, isNon_t, isNon_l, isNon_i, isNon_b, ev_tup, ev_lst, limT_0, mkL_0, limT_1, mkL_1, limT_2, mkL_2, limT_3, mkL_3, limT_4, mkL_4, limT_5, mkL_5, limT_6, mkL_6, limT_7, mkL_7, limT_8, mkL_8, gAdd_ll, gAdd_tt, gMax2_i, gMin2_i, gIx_p0, gIx_p1, ev_rev, cutD_take, cutD_drop, gSortA_pair, some_or, some_and, bl_or, bl_and, gIx_t0, gIx_l0, gIx_t1, gIx_l1, gIx_t2, gIx_l2, gIx_t3, gIx_l3, gIx_t4, gIx_l4, gIx_t5, gIx_l5, ev_rgl, rgA'_i, h]
theorem run_rnear {vs : List (List Int)} {vec : List Int} {W : Way} {dist : Int → Int} {d2 : Int → Int → Int} (hd : ∀ p q, 0 ≤ p → p < (vs.length : Int) → 0 ≤ q → q < (vs.length : Int) → run_far [W.d, intT (nth vs p), intT (nth vs q)] = some (.int (d2 p q))) (hd1 : ∀ p, 0 ≤ p → p < (vs.length : Int) → run_far [W.d, intT vec, intT (nth vs p)] = some (.int (dist p))) (hz : vs.length ≤ 12) (k : Nat) (hk0 : 0 < k) (hk : k ≤ 1000) :
    run_ring_nearest [.tup (vs.map intT), intT vec, W.d, .int k] = some (.tup [.tup ((goIn dist k (rings d2 14 (rngN vs.length)) []).1.map pairD), .int (goIn dist k (rings d2 14 (rngN vs.length)) []).2]) := by
  have hs := run_rtree hd hz
  have hl := rngN_len vs.length
  obtain ⟨f1, f2⟩ := rings_facts (d2 := d2) (m := vs.length) 14 (rngN vs.length) (by omega) rng_in
  have hh := rings_ht (d2 := d2) 14 (rngN vs.length) (by omega)
  have hd := run_goin (d2 := d2) hd1 k hk0 hk 14 (rings d2 14 (rngN vs.length)) [] (by omega) f2 (by simp)
  refine runC_rt rfl ?_
  simp only [List.map_cons, List.map_nil, List.replicate, List.cons_append, List.nil_append, List.set_cons_succ, List.set_cons_zero]
  refine seq_asg (d := resD (goIn dist k (rings d2 14 (rngN vs.length)) [])) (by
    simp -implicitDefEqProofs (disch := first | assumption | omega | (simp only [List.length_map, rngN_len, sortI_len]; omega)) only [ev_asL, ev_lc, ev_rg1', ev_call, ev_cons, ev_nil, ev_op, ev_c, ev_bvar, ev_var, List.getElem?_cons_succ, List.getElem?_cons_zero, Option.bind_some, Option.map_some, slB_val, slV_val, slB_own, gLen_l, gLen_t, gLen_iT, List.length_map, rgA_1, rgO_ok, lim_ok, rngN_len, if_true, fltE_map, mapME_map, ev_gNm, ev_tYes, wipe_cons, wipe_nil, List.set_cons_succ, List.set_cons_zero, fltE_yes, fltE_p, fltP_some, fltE_rg, fltRg_p, fltRg_yes, fltRp_some, mapME_rg, mapRg_some, ev_iseq, itemsD_l, itemsD_t, mapME_some, gIx_lm, gIx_tm, Int.toNat_natCast, gAdd_i, gSub_i, map_i, ev_un, ev_asB, ev_asT, ev_not, ev_and, ev_or, ev_eif, ev_fcall, blD_bl, gEq_i, gNe_i, gLt_i, gLe_i, gGt_i, gGe_i, gNeg_i, truD_bl, ev_fn, gTuple_l, gTuple_t, gMod_i, gDiv_i, gMul_l, gMul_r, gMaxA_l', gMinA_l', gMaxA_t', gMinA_t', gSortA_l', sortI_len, gIx_last, truD_lm, truD_tm, ev_m1, gIndex_i, ev_oNo, ev_oYes, intO_i, ev_sl, gSl_l, gSl_t, cutD_map, gInt_i, gInt_b, gAbs_i, gSum_l, gSum_t, ev_isi, ev_eand, ev_eor, ev_enot, gIn_il, gIn_it, gNotIn_il, gNotIn_it, gIs_n, gIsNot_n, isNon_n, isNon_t, isNon_l, isNon_i, isNon_b, ev_tup, ev_lst, limT_0, mkL_0, limT_1, mkL_1, limT_2, mkL_2, limT_3, mkL_3, limT_4, mkL_4, limT_5, mkL_5, limT_6, mkL_6, limT_7, mkL_7, limT_8, mkL_8, gAdd_ll, gAdd_tt, gMax2_i, gMin2_i, gIx_p0, gIx_p1, ev_rev, cutD_take, cutD_drop, gSortA_pair, some_or, some_and, bl_or, bl_and, gIx_t0, gIx_l0, gIx_t1, gIx_l1, gIx_t2, gIx_l2, gIx_t3, gIx_l3, gIx_t4, gIx_l4, gIx_t5, gIx_l5, hs]
    exact hd) rfl ?_
  simp only [List.map_cons, List.map_nil, List.replicate, List.cons_append, List.nil_append, List.set_cons_succ, List.set_cons_zero]
  refine run_ret ?_
  simp -implicitDefEqProofs (disch := first | assumption | omega | (simp only [List.length_map, rngN_len, sortI_len]; omega)) only [ev_asL, ev_lc, ev_rg1', ev_call, ev_cons, ev_nil, ev_op, ev_c, ev_bvar, ev_var, List.getElem?_cons_succ, List.getElem?_cons_zero, Option.bind_some, Option.map_some, slB_val, slV_val, slB_own, gLen_l, gLen_t, gLen_iT, List.length_map, rgA_1, rgO_ok, lim_ok, rngN_len, if_true, fltE_map, mapME_map, ev_gNm, ev_tYes, wipe_cons, wipe_nil, List.set_cons_succ, List.set_cons_zero, fltE_yes, fltE_p, fltP_some, fltE_rg, fltRg_p, fltRg_yes, fltRp_some, mapME_rg, mapRg_some, ev_iseq, itemsD_l, itemsD_t, mapME_some, gIx_lm, gIx_tm, Int.toNat_natCast, gAdd_i, gSub_i, map_i, ev_un, ev_asB, ev_asT, ev_not, ev_and, ev_or, ev_eif, ev_fcall, blD_bl, gEq_i, gNe_i, gLt_i, gLe_i, gGt_i, gGe_i, gNeg_i, truD_bl, ev_fn, gTuple_l, gTuple_t, gMod_i, gDiv_i, gMul_l, gMul_r, gMaxA_l', gMinA_l', gMaxA_t', gMinA_t', gSortA_l', sortI_len, gIx_last, truD_lm, truD_tm, ev_m1, gIndex_i, ev_oNo, ev_oYes, intO_i, ev_sl, gSl_l, gSl_t, cutD_map, gInt_i, gInt_b, gAbs_i, gSum_l, gSum_t, ev_isi, ev_eand, ev_eor, ev_enot, gIn_il, gIn_it, gNotIn_il, gNotIn_it, gIs_n, gIsNot_n, isNon_n, isNon_t, isNon_l, isNon_i, isNon_b, ev_tup, ev_lst, limT_0, mkL_0, limT_1, mkL_1, limT_2, mkL_2, limT_3, mkL_3, limT_4, mkL_4, limT_5, mkL_5, limT_6, mkL_6, limT_7, mkL_7, limT_8, mkL_8, gAdd_ll, gAdd_tt, gMax2_i, gMin2_i, gIx_p0, gIx_p1, ev_rev, cutD_take, cutD_drop, gSortA_pair, some_or, some_and, bl_or, bl_and, gIx_t0, gIx_l0, gIx_t1, gIx_l1, gIx_t2, gIx_l2, gIx_t3, gIx_l3, gIx_t4, gIx_l4, gIx_t5, gIx_l5]
  first | done | exact rfl
end K06

set_option Elab.async false
set_option linter.all false
set_option maxRecDepth 100000
set_option maxHeartbeats 4000000
namespace K06
open PySem L2 PD
theorem okL_i {n : Nat} {i : Int} : okL (n + 1) (.int i) = true := by simp [okL]
theorem okL_n {n : Nat} : okL (n + 1) .non = true := by simp [okL]
theorem okL_ints {n : Nat} {ps : List Int} (h : ps.length ≤ 1000) : okL (n + 2) (intT ps) = true := by
  simp only [okL, intT, Bool.and_eq_true, List.all_eq_true]
  refine ⟨fun x hx => ?_, by simp [lim]; omega⟩
  obtain ⟨i, _, rfl⟩ := List.mem_map.mp hx
  exact okL_i
theorem okL_st {n m : Nat} : ∀ (t : ST) (f : Nat), t.ht ≤ f → t.ok n m → okL (f + 1) t.d = true
  | .non, f, _, _ => okL_n
  | .leaf ps, f, h, ⟨hz, _⟩ => by
    have : 1 ≤ f := h
    obtain ⟨g, rfl⟩ : ∃ g, f = g + 1 := ⟨f - 1, by omega⟩
    exact okL_ints hz
  | .node a v l h, f, hf, ⟨_, _, _, ol, oh⟩ => by
    have hf : 1 + max l.ht h.ht ≤ f := hf
    obtain ⟨g, rfl⟩ : ∃ g, f = g + 1 := ⟨f - 1, by omega⟩
    have i1 := okL_st l g (by omega) ol
    have i2 := okL_st h g (by omega) oh
    simp [ST.d, okL, i1, i2, lim]
theorem okL_rt {d2 : Int → Int → Int} : ∀ (t : RT) (f : Nat), t.ht ≤ f → okL (f + 1) t.d = true
  | .non, f, _ => okL_n
  | .one p, f, h => okL_i
  | .node p c i o, f, hf => by
    have hf : 1 + max i.ht o.ht ≤ f := hf
    obtain ⟨g, rfl⟩ : ∃ g, f = g + 1 := ⟨f - 1, by omega⟩
    have i1 := okL_rt (d2 := d2) i g (by omega)
    have i2 := okL_rt (d2 := d2) o g (by omega)
    simp [RT.d, okL, i1, i2, lim]
theorem e_row : K06.run_l_row = PD.run_l_row := rfl
theorem e_far : K06.run_far = PD.run_far := rfl
theorem e_lfar : K06.run_l_far = PD.run_l_far := rfl
theorem e_near : K06.run_nearest = PD.run_nearest := rfl
theorem e_cloud : K06.run_l_cloud = PD.run_l_cloud := rfl
theorem e_like : ∀ n, K06.run_l_like n = PD.run_l_like n
  | 0 => rfl
  | n + 1 => by
    show runC 2 1 (K06.b_l_like (K06.run_l_like n)) = runC 2 1 (PD.b_l_like (PD.run_l_like n))
    rw [e_like n]
    rfl
end K06

set_option Elab.async false
set_option linter.all false
set_option maxRecDepth 100000
set_option maxHeartbeats 4000000
namespace K06
open PySem L2 PD
open K01 (rooted addI subI_add far_tri far_even subI_neg)
theorem like_of {n : Nat} {d : D} (h : okL n d = true) : K06.run_l_like n [d, d] = some (.bl true) := by
  rw [e_like]
  exact like_refl n d h
def duePairs (vs : List (List Int)) (vec : List Int) (W : Way) (k : Nat) : List (Int × Int) := topk k (pairs (fun p => W.far (subI vec (nth vs p))) (rngN vs.length))
/-- going down finds what is due -/
theorem down_due {n : Nat} {vs : List (List Int)} {vec : List Int} {W : Way} (hW : W = .steps ∨ W = .air ∨ W = .widest) (hn : 0 < n) (hl : vec.length = n) (hv : ∀ v ∈ vs, v.length = n) (hb : ∀ v ∈ vs, ∀ x ∈ v, -1000 ≤ x ∧ x ≤ 1000) (hz : vs.length ≤ 12) (k : Nat) :
    (down vec (fun p => W.far (subI vec (nth vs p))) (gapW W) k (split vs n 14 (rngN vs.length)) []).1 = duePairs vs vec W k ∧ (down vec (fun p => W.far (subI vec (nth vs p))) (gapW W) k (split vs n 14 (rngN vs.length)) []).2 ≤ vs.length := by
  have hr := rngN_len vs.length
  obtain ⟨f1, f2, f3⟩ := split_facts hn hv hb 14 (rngN vs.length) (by omega) (by omega) rng_in
  obtain ⟨d1, d2⟩ := down_ok (gaps_of hW hl hv) k (split vs n 14 (rngN vs.length)) [] List.Pairwise.nil (Nat.zero_le _) f3 f2
  refine ⟨?_, ?_⟩
  · rw [d1]
    unfold duePairs
    refine topk_perm ?_
    rw [List.nil_append]
    exact f1.map _
  · rw [f1.length_eq, hr] at d2
    exact d2
theorem goin_due {n : Nat} {vs : List (List Int)} {vec : List Int} {W : Way} (hg : W.good n) (hr : rooted W = false) (hn : n = 1 ∨ n = 2 ∨ n = 3) (hl : vec.length = n) (hv : ∀ v ∈ vs, v.length = n) (hz : vs.length ≤ 12) (k : Nat) :
    (goIn (fun p => W.far (subI vec (nth vs p))) k (rings (fun p q => W.far (subI (nth vs p) (nth vs q))) 14 (rngN vs.length)) []).1 = duePairs vs vec W k := by
  have hrl := rngN_len vs.length
  obtain ⟨f1, f2⟩ := rings_facts (d2 := fun p q => W.far (subI (nth vs p) (nth vs q))) (m := vs.length) 14 (rngN vs.length) (by omega) rng_in
  have ln : ∀ p, 0 ≤ p → p < (vs.length : Int) → (nth vs p).length = n := fun p p0 p1 => hv _ (nth_mem p0 p1)
  have h1 : ∀ p x, 0 ≤ p → p < (vs.length : Int) → 0 ≤ x → x < (vs.length : Int) → W.far (subI vec (nth vs p)) ≤ W.far (subI vec (nth vs x)) + W.far (subI (nth vs p) (nth vs x)) := fun p x p0 p1 x0 x1 => by
    have lp := ln p p0 p1
    have lx := ln x x0 x1
    have e : subI vec (nth vs p) = addI (subI vec (nth vs x)) (subI (nth vs x) (nth vs p)) := subI_add (by omega) (by omega)
    have t := far_tri hg (p := subI vec (nth vs x)) (q := subI (nth vs x) (nth vs p)) (by rw [subI_len (by omega)]; exact hl) (by rw [subI_len (by omega)]; exact lx) (by omega) hr
    rw [← e] at t
    have ev : W.far (subI (nth vs x) (nth vs p)) = W.far (subI (nth vs p) (nth vs x)) := by
      rw [subI_neg (u := nth vs p) (v := nth vs x) (by omega)]
      exact far_even hg (by rw [subI_len (by omega)]; exact lp) hn
    omega
  have h2 : ∀ p x, 0 ≤ p → p < (vs.length : Int) → 0 ≤ x → x < (vs.length : Int) → W.far (subI (nth vs p) (nth vs x)) ≤ W.far (subI vec (nth vs p)) + W.far (subI vec (nth vs x)) := fun p x p0 p1 x0 x1 => by
    have lp := ln p p0 p1
    have lx := ln x x0 x1
    have e : subI (nth vs p) (nth vs x) = addI (subI (nth vs p) vec) (subI vec (nth vs x)) := subI_add (by omega) (by omega)
    have t := far_tri hg (p := subI (nth vs p) vec) (q := subI vec (nth vs x)) (by rw [subI_len (by omega)]; exact lp) (by rw [subI_len (by omega)]; exact hl) (by omega) hr
    rw [← e] at t
    have ev : W.far (subI (nth vs p) vec) = W.far (subI vec (nth vs p)) := by
      rw [subI_neg (u := vec) (v := nth vs p) (by omega)]
      exact far_even hg (by rw [subI_len (by omega)]; exact hl) hn
    omega
  have d1 := goIn_ok h1 h2 k _ f2 [] List.Pairwise.nil (Nat.zero_le _)
  rw [d1]
  unfold duePairs
  refine topk_perm ?_
  rw [List.nil_append]
  exact f1.map _
theorem small_of {u : List Int} (h : ∀ x ∈ u, -1000 ≤ x ∧ x ≤ 1000) : small u := fun x hx => by
  have := h x hx
  omega
theorem wd_of {n : Nat} {vs : List (List Int)} {vec : List Int} {W : Way} (hw : W.ok n) (hn : 0 < n) (hn3 : n ≤ 1000) (hl : vec.length = n) (hs : ∀ x ∈ vec, -1000 ≤ x ∧ x ≤ 1000) (hv : ∀ v ∈ vs, v.length = n) (hb : ∀ v ∈ vs, ∀ x ∈ v, -1000 ≤ x ∧ x ≤ 1000) : Wd n vs vec W (fun p => W.far (subI vec (nth vs p))) where
  n0 := hn
  ln := hl
  sm := hs
  fr := fun p p0 p1 => by
    have hm := nth_mem p0 p1
    rw [e_far]
    exact run_far_ok W vec (nth vs p) (by rw [hl, hv _ hm]) (by rw [hl]; exact hw) (by omega) (small_of hs) (small_of (hb _ hm))
  lf := fun p p0 p1 => by
    have hm := nth_mem p0 p1
    rw [e_lfar]
    exact run_l_far_ok W vec (nth vs p) (by rw [hl, hv _ hm]) (by rw [hl]; exact hw) (by omega) (small_of hs) (small_of (hb _ hm))
theorem law_true (ns : List Int) (h : ns.length ≤ 63) : run_law [.scr ns] = some (.bl true) := by
  obtain ⟨row, hrow, hlen, hb⟩ := run_row ns 60 (by omega)
  rw [← e_row] at hrow
  replace hrow : run_l_row [.scr ns, .int 60] = some (.lst (row.map D.int)) := hrow
  have b1 := mod_lt (a := nth row 1) (b := 3) (by omega)
  obtain ⟨n, hn⟩ : ∃ n : Nat, 1 + nth row 1 % 3 = (n : Int) := ⟨(1 + nth row 1 % 3).toNat, by omega⟩
  have n123 : n = 1 ∨ n = 2 ∨ n = 3 := by omega
  have b0 := mod_lt (a := nth row 0) (b := 2) (by omega)
  obtain ⟨top, ht, htop⟩ : ∃ top : Int, gIx (.tup [.int 3, .int 12]) (.int (nth row 0 % 2)) = some (.int top) ∧ 0 ≤ top ∧ top ≤ 12 := by
    rcases (show nth row 0 % 2 = 0 ∨ nth row 0 % 2 = 1 by omega) with e | e <;> rw [e]
    · exact ⟨3, rfl, by omega, by omega⟩
    · exact ⟨12, rfl, by omega, by omega⟩
  have hcl := run_cloud row 2 12 n top ⟨htop.1, by omega⟩ (by omega) (by omega) (by omega)
  rw [← e_cloud] at hcl
  replace hcl : run_l_cloud [.lst (row.map D.int), .int 2, .int 12, .int n, .int top] = some (.tup ((cloudL row 2 12 n top).map intT)) := hcl
  have cl := cloud_len (row := row) (a := 2) (n := n) (top := top) (most := 12)
  have cs := cloud_small (row := row) (a := 2) (n := n) (top := top) (most := 12) htop.1
  have cc := cloud_count (row := row) (a := 2) (n := n) (top := top) (most := 12)
  generalize cloudL row 2 12 n top = vs at hcl cl cs cc
  refine runC_rt rfl ?_
  simp only [List.map_cons, List.map_nil, List.replicate, List.cons_append, List.nil_append, List.set_cons_succ, List.set_cons_zero]
  refine seq_set (by
    simp -implicitDefEqProofs (disch := first | assumption | omega | (simp only [List.length_map, rngN_len, sortI_len]; omega)) only [ev_asL, ev_lc, ev_rg1', ev_call, ev_cons, ev_nil, ev_op, ev_c, ev_bvar, ev_var, List.getElem?_cons_succ, List.getElem?_cons_zero, Option.bind_some, Option.map_some, slB_val, slV_val, slB_own, gLen_l, gLen_t, gLen_iT, List.length_map, rgA_1, rgO_ok, lim_ok, rngN_len, if_true, fltE_map, mapME_map, ev_gNm, ev_tYes, wipe_cons, wipe_nil, List.set_cons_succ, List.set_cons_zero, fltE_yes, fltE_p, fltP_some, fltE_rg, fltRg_p, fltRg_yes, fltRp_some, mapME_rg, mapRg_some, ev_iseq, itemsD_l, itemsD_t, mapME_some, gIx_lm, gIx_tm, Int.toNat_natCast, gAdd_i, gSub_i, map_i, ev_un, ev_asB, ev_asT, ev_not, ev_and, ev_or, ev_eif, ev_fcall, blD_bl, gEq_i, gNe_i, gLt_i, gLe_i, gGt_i, gGe_i, gNeg_i, truD_bl, ev_fn, gTuple_l, gTuple_t, gMod_i, gDiv_i, gMul_l, gMul_r, gMaxA_l', gMinA_l', gMaxA_t', gMinA_t', gSortA_l', sortI_len, gIx_last, truD_lm, truD_tm, ev_m1, gIndex_i, ev_oNo, ev_oYes, intO_i, ev_sl, gSl_l, gSl_t, cutD_map, gInt_i, gInt_b, gAbs_i, gSum_l, gSum_t, ev_isi, ev_eand, ev_eor, ev_enot, gIn_il, gIn_it, gNotIn_il, gNotIn_it, gIs_n, gIsNot_n, isNon_n, isNon_t, isNon_l, isNon_i, isNon_b, ev_tup, ev_lst, limT_0, mkL_0, limT_1, mkL_1, limT_2, mkL_2, limT_3, mkL_3, limT_4, mkL_4, limT_5, mkL_5, limT_6, mkL_6, limT_7, mkL_7, limT_8, mkL_8, gAdd_ll, gAdd_tt, gMax2_i, gMin2_i, gIx_p0, gIx_p1, ev_rev, cutD_take, cutD_drop, gSortA_pair, some_or, some_and, bl_or, bl_and, gIx_t0, gIx_l0, gIx_t1, gIx_l1, gIx_t2, gIx_l2, gIx_t3, gIx_l3, gIx_t4, gIx_l4, gIx_t5, gIx_l5, hrow]
    first | done | exact rfl) ?_
  simp only [List.map_cons, List.map_nil, List.replicate, List.cons_append, List.nil_append, List.set_cons_succ, List.set_cons_zero]
  refine seq_set (d := .int n) (by
    simp -implicitDefEqProofs (disch := first | assumption | omega | (simp only [List.length_map, rngN_len, sortI_len]; omega)) only [ev_asL, ev_lc, ev_rg1', ev_call, ev_cons, ev_nil, ev_op, ev_c, ev_bvar, ev_var, List.getElem?_cons_succ, List.getElem?_cons_zero, Option.bind_some, Option.map_some, slB_val, slV_val, slB_own, gLen_l, gLen_t, gLen_iT, List.length_map, rgA_1, rgO_ok, lim_ok, rngN_len, if_true, fltE_map, mapME_map, ev_gNm, ev_tYes, wipe_cons, wipe_nil, List.set_cons_succ, List.set_cons_zero, fltE_yes, fltE_p, fltP_some, fltE_rg, fltRg_p, fltRg_yes, fltRp_some, mapME_rg, mapRg_some, ev_iseq, itemsD_l, itemsD_t, mapME_some, gIx_lm, gIx_tm, Int.toNat_natCast, gAdd_i, gSub_i, map_i, ev_un, ev_asB, ev_asT, ev_not, ev_and, ev_or, ev_eif, ev_fcall, blD_bl, gEq_i, gNe_i, gLt_i, gLe_i, gGt_i, gGe_i, gNeg_i, truD_bl, ev_fn, gTuple_l, gTuple_t, gMod_i, gDiv_i, gMul_l, gMul_r, gMaxA_l', gMinA_l', gMaxA_t', gMinA_t', gSortA_l', sortI_len, gIx_last, truD_lm, truD_tm, ev_m1, gIndex_i, ev_oNo, ev_oYes, intO_i, ev_sl, gSl_l, gSl_t, cutD_map, gInt_i, gInt_b, gAbs_i, gSum_l, gSum_t, ev_isi, ev_eand, ev_eor, ev_enot, gIn_il, gIn_it, gNotIn_il, gNotIn_it, gIs_n, gIsNot_n, isNon_n, isNon_t, isNon_l, isNon_i, isNon_b, ev_tup, ev_lst, limT_0, mkL_0, limT_1, mkL_1, limT_2, mkL_2, limT_3, mkL_3, limT_4, mkL_4, limT_5, mkL_5, limT_6, mkL_6, limT_7, mkL_7, limT_8, mkL_8, gAdd_ll, gAdd_tt, gMax2_i, gMin2_i, gIx_p0, gIx_p1, ev_rev, cutD_take, cutD_drop, gSortA_pair, some_or, some_and, bl_or, bl_and, gIx_t0, gIx_l0, gIx_t1, gIx_l1, gIx_t2, gIx_l2, gIx_t3, gIx_l3, gIx_t4, gIx_l4, gIx_t5, gIx_l5, hn]) ?_
  simp only [List.map_cons, List.map_nil, List.replicate, List.cons_append, List.nil_append, List.set_cons_succ, List.set_cons_zero]
  refine seq_set (by
    simp -implicitDefEqProofs (disch := first | assumption | omega | (simp only [List.length_map, rngN_len, sortI_len]; omega)) only [ev_asL, ev_lc, ev_rg1', ev_call, ev_cons, ev_nil, ev_op, ev_c, ev_bvar, ev_var, List.getElem?_cons_succ, List.getElem?_cons_zero, Option.bind_some, Option.map_some, slB_val, slV_val, slB_own, gLen_l, gLen_t, gLen_iT, List.length_map, rgA_1, rgO_ok, lim_ok, rngN_len, if_true, fltE_map, mapME_map, ev_gNm, ev_tYes, wipe_cons, wipe_nil, List.set_cons_succ, List.set_cons_zero, fltE_yes, fltE_p, fltP_some, fltE_rg, fltRg_p, fltRg_yes, fltRp_some, mapME_rg, mapRg_some, ev_iseq, itemsD_l, itemsD_t, mapME_some, gIx_lm, gIx_tm, Int.toNat_natCast, gAdd_i, gSub_i, map_i, ev_un, ev_asB, ev_asT, ev_not, ev_and, ev_or, ev_eif, ev_fcall, blD_bl, gEq_i, gNe_i, gLt_i, gLe_i, gGt_i, gGe_i, gNeg_i, truD_bl, ev_fn, gTuple_l, gTuple_t, gMod_i, gDiv_i, gMul_l, gMul_r, gMaxA_l', gMinA_l', gMaxA_t', gMinA_t', gSortA_l', sortI_len, gIx_last, truD_lm, truD_tm, ev_m1, gIndex_i, ev_oNo, ev_oYes, intO_i, ev_sl, gSl_l, gSl_t, cutD_map, gInt_i, gInt_b, gAbs_i, gSum_l, gSum_t, ev_isi, ev_eand, ev_eor, ev_enot, gIn_il, gIn_it, gNotIn_il, gNotIn_it, gIs_n, gIsNot_n, isNon_n, isNon_t, isNon_l, isNon_i, isNon_b, ev_tup, ev_lst, limT_0, mkL_0, limT_1, mkL_1, limT_2, mkL_2, limT_3, mkL_3, limT_4, mkL_4, limT_5, mkL_5, limT_6, mkL_6, limT_7, mkL_7, limT_8, mkL_8, gAdd_ll, gAdd_tt, gMax2_i, gMin2_i, gIx_p0, gIx_p1, ev_rev, cutD_take, cutD_drop, gSortA_pair, some_or, some_and, bl_or, bl_and, gIx_t0, gIx_l0, gIx_t1, gIx_l1, gIx_t2, gIx_l2, gIx_t3, gIx_l3, gIx_t4, gIx_l4, gIx_t5, gIx_l5, ht]
    exact hcl) ?_
  simp only [List.map_cons, List.map_nil, List.replicate, List.cons_append, List.nil_append, List.set_cons_succ, List.set_cons_zero]
  -- the vector
  have hk5 := mod_lt (a := nth row 53) (b := 4) (by omega)
  obtain ⟨k, hk⟩ : ∃ k : Nat, 1 + nth row 53 % 4 = (k : Int) := ⟨(1 + nth row 53 % 4).toNat, by omega⟩
  refine seq_set (d := intT ((rngN n).map fun j => nth row (50 + j) % 31 - 15)) (by
    simp -implicitDefEqProofs (disch := first | assumption | omega | (simp only [List.length_map, rngN_len, sortI_len]; omega)) only [ev_asL, ev_lc, ev_rg1', ev_call, ev_cons, ev_nil, ev_op, ev_c, ev_bvar, ev_var, List.getElem?_cons_succ, List.getElem?_cons_zero, Option.bind_some, Option.map_some, slB_val, slV_val, slB_own, gLen_l, gLen_t, gLen_iT, List.length_map, rgA_1, rgO_ok, lim_ok, rngN_len, if_true, fltE_map, mapME_map, ev_gNm, ev_tYes, wipe_cons, wipe_nil, List.set_cons_succ, List.set_cons_zero, fltE_yes, fltE_p, fltP_some, fltE_rg, fltRg_p, fltRg_yes, fltRp_some, mapME_rg, mapRg_some, ev_iseq, itemsD_l, itemsD_t, mapME_some, gIx_lm, gIx_tm, Int.toNat_natCast, gAdd_i, gSub_i, map_i, ev_un, ev_asB, ev_asT, ev_not, ev_and, ev_or, ev_eif, ev_fcall, blD_bl, gEq_i, gNe_i, gLt_i, gLe_i, gGt_i, gGe_i, gNeg_i, truD_bl, ev_fn, gTuple_l, gTuple_t, gMod_i, gDiv_i, gMul_l, gMul_r, gMaxA_l', gMinA_l', gMaxA_t', gMinA_t', gSortA_l', sortI_len, gIx_last, truD_lm, truD_tm, ev_m1, gIndex_i, ev_oNo, ev_oYes, intO_i, ev_sl, gSl_l, gSl_t, cutD_map, gInt_i, gInt_b, gAbs_i, gSum_l, gSum_t, ev_isi, ev_eand, ev_eor, ev_enot, gIn_il, gIn_it, gNotIn_il, gNotIn_it, gIs_n, gIsNot_n, isNon_n, isNon_t, isNon_l, isNon_i, isNon_b, ev_tup, ev_lst, limT_0, mkL_0, limT_1, mkL_1, limT_2, mkL_2, limT_3, mkL_3, limT_4, mkL_4, limT_5, mkL_5, limT_6, mkL_6, limT_7, mkL_7, limT_8, mkL_8, gAdd_ll, gAdd_tt, gMax2_i, gMin2_i, gIx_p0, gIx_p1, ev_rev, cutD_take, cutD_drop, gSortA_pair, some_or, some_and, bl_or, bl_and, gIx_t0, gIx_l0, gIx_t1, gIx_l1, gIx_t2, gIx_l2, gIx_t3, gIx_l3, gIx_t4, gIx_l4, gIx_t5, gIx_l5]
    first | done | exact rfl) ?_
  simp only [List.map_cons, List.map_nil, List.replicate, List.cons_append, List.nil_append, List.set_cons_succ, List.set_cons_zero]
  have lv : ((rngN n).map fun j => nth row (50 + j) % 31 - 15).length = n := by simp [rngN_len]
  have sv : ∀ x ∈ (rngN n).map fun j => nth row (50 + j) % 31 - 15, -15 ≤ x ∧ x ≤ 15 := fun x hx => by
    obtain ⟨j, _, rfl⟩ := List.mem_map.mp hx
    have := mod_lt (a := nth row (50 + j)) (b := 31) (by omega)
    omega
  generalize ((rngN n).map fun j => nth row (50 + j) % 31 - 15) = vec at lv sv
  refine seq_set (d := .int k) (by
    simp -implicitDefEqProofs (disch := first | assumption | omega | (simp only [List.length_map, rngN_len, sortI_len]; omega)) only [ev_asL, ev_lc, ev_rg1', ev_call, ev_cons, ev_nil, ev_op, ev_c, ev_bvar, ev_var, List.getElem?_cons_succ, List.getElem?_cons_zero, Option.bind_some, Option.map_some, slB_val, slV_val, slB_own, gLen_l, gLen_t, gLen_iT, List.length_map, rgA_1, rgO_ok, lim_ok, rngN_len, if_true, fltE_map, mapME_map, ev_gNm, ev_tYes, wipe_cons, wipe_nil, List.set_cons_succ, List.set_cons_zero, fltE_yes, fltE_p, fltP_some, fltE_rg, fltRg_p, fltRg_yes, fltRp_some, mapME_rg, mapRg_some, ev_iseq, itemsD_l, itemsD_t, mapME_some, gIx_lm, gIx_tm, Int.toNat_natCast, gAdd_i, gSub_i, map_i, ev_un, ev_asB, ev_asT, ev_not, ev_and, ev_or, ev_eif, ev_fcall, blD_bl, gEq_i, gNe_i, gLt_i, gLe_i, gGt_i, gGe_i, gNeg_i, truD_bl, ev_fn, gTuple_l, gTuple_t, gMod_i, gDiv_i, gMul_l, gMul_r, gMaxA_l', gMinA_l', gMaxA_t', gMinA_t', gSortA_l', sortI_len, gIx_last, truD_lm, truD_tm, ev_m1, gIndex_i, ev_oNo, ev_oYes, intO_i, ev_sl, gSl_l, gSl_t, cutD_map, gInt_i, gInt_b, gAbs_i, gSum_l, gSum_t, ev_isi, ev_eand, ev_eor, ev_enot, gIn_il, gIn_it, gNotIn_il, gNotIn_it, gIs_n, gIsNot_n, isNon_n, isNon_t, isNon_l, isNon_i, isNon_b, ev_tup, ev_lst, limT_0, mkL_0, limT_1, mkL_1, limT_2, mkL_2, limT_3, mkL_3, limT_4, mkL_4, limT_5, mkL_5, limT_6, mkL_6, limT_7, mkL_7, limT_8, mkL_8, gAdd_ll, gAdd_tt, gMax2_i, gMin2_i, gIx_p0, gIx_p1, ev_rev, cutD_take, cutD_drop, gSortA_pair, some_or, some_and, bl_or, bl_and, gIx_t0, gIx_l0, gIx_t1, gIx_l1, gIx_t2, gIx_l2, gIx_t3, gIx_l3, gIx_t4, gIx_l4, gIx_t5, gIx_l5, hk]) ?_
  simp only [List.map_cons, List.map_nil, List.replicate, List.cons_append, List.nil_append, List.set_cons_succ, List.set_cons_zero]
  have hn0 : 0 < n := by omega
  have hb3 : ∀ v ∈ vs, ∀ x ∈ v, -1000 ≤ x ∧ x ≤ 1000 := fun v hv x hx => by
    have := cs v hv x hx
    omega
  have hrl := rngN_len vs.length
  have hls := run_lsplit n vs hn0 (by omega) cl 14 (rngN vs.length) (by omega) (by omega) rng_in
  obtain ⟨f1, f2, f3⟩ := split_facts hn0 cl hb3 14 (rngN vs.length) (by omega) (by omega) rng_in
  have hh := split_ht (vs := vs) hn0 14 (rngN vs.length) (by omega)
  have hst := run_stree hn0 (by omega) cl cc
  have hdep := run_depth 14 (split vs n 14 (rngN vs.length)) (by omega)
  have hldep := run_ldepth 14 (split vs n 14 (rngN vs.length)) (by omega)
  have l1 : K06.run_l_like 18 [(split vs n 14 (rngN vs.length)).d, (split vs n 14 (rngN vs.length)).d] = some (.bl true) := like_of (okL_st (split vs n 14 (rngN vs.length)) 17 (by omega) f3)
  have l2 : K06.run_l_like 18 [.int (split vs n 14 (rngN vs.length)).depth, .int (split vs n 14 (rngN vs.length)).depth] = some (.bl true) := like_of okL_i
  refine seq_set (d := (split vs n 14 (rngN vs.length)).d) (by
    simp -implicitDefEqProofs (disch := first | assumption | omega | (simp only [List.length_map, rngN_len, sortI_len]; omega)) only [ev_asL, ev_lc, ev_rg1', ev_call, ev_cons, ev_nil, ev_op, ev_c, ev_bvar, ev_var, List.getElem?_cons_succ, List.getElem?_cons_zero, Option.bind_some, Option.map_some, slB_val, slV_val, slB_own, gLen_l, gLen_t, gLen_iT, List.length_map, rgA_1, rgO_ok, lim_ok, rngN_len, if_true, fltE_map, mapME_map, ev_gNm, ev_tYes, wipe_cons, wipe_nil, List.set_cons_succ, List.set_cons_zero, fltE_yes, fltE_p, fltP_some, fltE_rg, fltRg_p, fltRg_yes, fltRp_some, mapME_rg, mapRg_some, ev_iseq, itemsD_l, itemsD_t, mapME_some, gIx_lm, gIx_tm, Int.toNat_natCast, gAdd_i, gSub_i, map_i, ev_un, ev_asB, ev_asT, ev_not, ev_and, ev_or, ev_eif, ev_fcall, blD_bl, gEq_i, gNe_i, gLt_i, gLe_i, gGt_i, gGe_i, gNeg_i, truD_bl, ev_fn, gTuple_l, gTuple_t, gMod_i, gDiv_i, gMul_l, gMul_r, gMaxA_l', gMinA_l', gMaxA_t', gMinA_t', gSortA_l', sortI_len, gIx_last, truD_lm, truD_tm, ev_m1, gIndex_i, ev_oNo, ev_oYes, intO_i, ev_sl, gSl_l, gSl_t, cutD_map, gInt_i, gInt_b, gAbs_i, gSum_l, gSum_t, ev_isi, ev_eand, ev_eor, ev_enot, gIn_il, gIn_it, gNotIn_il, gNotIn_it, gIs_n, gIsNot_n, isNon_n, isNon_t, isNon_l, isNon_i, isNon_b, ev_tup, ev_lst, limT_0, mkL_0, limT_1, mkL_1, limT_2, mkL_2, limT_3, mkL_3, limT_4, mkL_4, limT_5, mkL_5, limT_6, mkL_6, limT_7, mkL_7, limT_8, mkL_8, gAdd_ll, gAdd_tt, gMax2_i, gMin2_i, gIx_p0, gIx_p1, ev_rev, cutD_take, cutD_drop, gSortA_pair, some_or, some_and, bl_or, bl_and, gIx_t0, gIx_l0, gIx_t1, gIx_l1, gIx_t2, gIx_l2, gIx_t3, gIx_l3, gIx_t4, gIx_l4, gIx_t5, gIx_l5, ev_rgl, rgA'_i, hls]) ?_
  simp only [List.map_cons, List.map_nil, List.replicate, List.cons_append, List.nil_append, List.set_cons_succ, List.set_cons_zero]
  refine seq_if0 (by
    simp -implicitDefEqProofs (disch := first | assumption | omega | (simp only [List.length_map, rngN_len, sortI_len]; omega)) only [ev_asL, ev_lc, ev_rg1', ev_call, ev_cons, ev_nil, ev_op, ev_c, ev_bvar, ev_var, List.getElem?_cons_succ, List.getElem?_cons_zero, Option.bind_some, Option.map_some, slB_val, slV_val, slB_own, gLen_l, gLen_t, gLen_iT, List.length_map, rgA_1, rgO_ok, lim_ok, rngN_len, if_true, fltE_map, mapME_map, ev_gNm, ev_tYes, wipe_cons, wipe_nil, List.set_cons_succ, List.set_cons_zero, fltE_yes, fltE_p, fltP_some, fltE_rg, fltRg_p, fltRg_yes, fltRp_some, mapME_rg, mapRg_some, ev_iseq, itemsD_l, itemsD_t, mapME_some, gIx_lm, gIx_tm, Int.toNat_natCast, gAdd_i, gSub_i, map_i, ev_un, ev_asB, ev_asT, ev_not, ev_and, ev_or, ev_eif, ev_fcall, blD_bl, gEq_i, gNe_i, gLt_i, gLe_i, gGt_i, gGe_i, gNeg_i, truD_bl, ev_fn, gTuple_l, gTuple_t, gMod_i, gDiv_i, gMul_l, gMul_r, gMaxA_l', gMinA_l', gMaxA_t', gMinA_t', gSortA_l', sortI_len, gIx_last, truD_lm, truD_tm, ev_m1, gIndex_i, ev_oNo, ev_oYes, intO_i, ev_sl, gSl_l, gSl_t, cutD_map, gInt_i, gInt_b, gAbs_i, gSum_l, gSum_t, ev_isi, ev_eand, ev_eor, ev_enot, gIn_il, gIn_it, gNotIn_il, gNotIn_it, gIs_n, gIsNot_n, isNon_n, isNon_t, isNon_l, isNon_i, isNon_b, ev_tup, ev_lst, limT_0, mkL_0, limT_1, mkL_1, limT_2, mkL_2, limT_3, mkL_3, limT_4, mkL_4, limT_5, mkL_5, limT_6, mkL_6, limT_7, mkL_7, limT_8, mkL_8, gAdd_ll, gAdd_tt, gMax2_i, gMin2_i, gIx_p0, gIx_p1, ev_rev, cutD_take, cutD_drop, gSortA_pair, some_or, some_and, bl_or, bl_and, gIx_t0, gIx_l0, gIx_t1, gIx_l1, gIx_t2, gIx_l2, gIx_t3, gIx_l3, gIx_t4, gIx_l4, gIx_t5, gIx_l5, hst, hdep, hldep, l1, l2]
    rfl) ?_
  have hshelf : ((rngN vs.length).map fun j => It3.mk j (nth vs j) 0).map It3.d = (rngN vs.length).map fun x => D.tup [.int x, intT (nth vs x), .int 0] := by
    rw [List.map_map]
    rfl
  refine seq_set (d := .tup (((rngN vs.length).map fun j => It3.mk j (nth vs j) 0).map It3.d)) (by
    rw [hshelf]
    simp -implicitDefEqProofs (disch := first | assumption | omega | (simp only [List.length_map, rngN_len, sortI_len]; omega)) only [ev_asL, ev_lc, ev_rg1', ev_call, ev_cons, ev_nil, ev_op, ev_c, ev_bvar, ev_var, List.getElem?_cons_succ, List.getElem?_cons_zero, Option.bind_some, Option.map_some, slB_val, slV_val, slB_own, gLen_l, gLen_t, gLen_iT, List.length_map, rgA_1, rgO_ok, lim_ok, rngN_len, if_true, fltE_map, mapME_map, ev_gNm, ev_tYes, wipe_cons, wipe_nil, List.set_cons_succ, List.set_cons_zero, fltE_yes, fltE_p, fltP_some, fltE_rg, fltRg_p, fltRg_yes, fltRp_some, mapME_rg, mapRg_some, ev_iseq, itemsD_l, itemsD_t, mapME_some, gIx_lm, gIx_tm, Int.toNat_natCast, gAdd_i, gSub_i, map_i, ev_un, ev_asB, ev_asT, ev_not, ev_and, ev_or, ev_eif, ev_fcall, blD_bl, gEq_i, gNe_i, gLt_i, gLe_i, gGt_i, gGe_i, gNeg_i, truD_bl, ev_fn, gTuple_l, gTuple_t, gMod_i, gDiv_i, gMul_l, gMul_r, gMaxA_l', gMinA_l', gMaxA_t', gMinA_t', gSortA_l', sortI_len, gIx_last, truD_lm, truD_tm, ev_m1, gIndex_i, ev_oNo, ev_oYes, intO_i, ev_sl, gSl_l, gSl_t, cutD_map, gInt_i, gInt_b, gAbs_i, gSum_l, gSum_t, ev_isi, ev_eand, ev_eor, ev_enot, gIn_il, gIn_it, gNotIn_il, gNotIn_it, gIs_n, gIsNot_n, isNon_n, isNon_t, isNon_l, isNon_i, isNon_b, ev_tup, ev_lst, limT_0, mkL_0, limT_1, mkL_1, limT_2, mkL_2, limT_3, mkL_3, limT_4, mkL_4, limT_5, mkL_5, limT_6, mkL_6, limT_7, mkL_7, limT_8, mkL_8, gAdd_ll, gAdd_tt, gMax2_i, gMin2_i, gIx_p0, gIx_p1, ev_rev, cutD_take, cutD_drop, gSortA_pair, some_or, some_and, bl_or, bl_and, gIx_t0, gIx_l0, gIx_t1, gIx_l1, gIx_t2, gIx_l2, gIx_t3, gIx_l3, gIx_t4, gIx_l4, gIx_t5, gIx_l5]) ?_
  simp only [List.set_cons_succ, List.set_cons_zero]
  have sv' : ∀ x ∈ vec, -1000 ≤ x ∧ x ≤ 1000 := fun x hx => by have := sv x hx; omega
  have hdue : ∀ W : Way, (rngN vs.length).map (fun x => D.tup [.int (W.far (subI vec (nth vs x))), .int x]) = (pairs (fun p => W.far (subI vec (nth vs p))) (rngN vs.length)).map pairD := fun W => by
    unfold pairs
    rw [List.map_map]
    rfl
  have hg : ∀ x : Int, 0 ≤ x → x < (vs.length : Int) → gIx (.tup (vs.map intT)) (.int x) = some (intT (nth vs x)) := fun x h0 h1 => gIx_tm h0 h1
  refine seq_for (xs := [Way.steps, .air, .widest]) (enc := Way.d) (fun ys => [.val (.scr ns), .val (.lst (row.map D.int)), .val (.int n), .val (.tup (vs.map intT)), .val (intT vec), .val (.int k), .val (split vs n 14 (rngN vs.length)).d, .val (.tup (((rngN vs.length).map fun j => It3.mk j (nth vs j) 0).map It3.d)), lastW (fun W => .val W.d) ys, lastW (fun W => .val (.tup ((duePairs vs vec W k).map pairD))) ys, lastW (fun W => .val (resD (down vec (fun p => W.far (subI vec (nth vs p))) (gapW W) k (split vs n 14 (rngN vs.length)) []))) ys, .un, .un]) rfl rfl (fun ys W zs hx => ?_) ?_
  · have hW : W = .steps ∨ W = .air ∨ W = .widest := by
      have : W ∈ [Way.steps, .air, .widest] := by rw [hx]; simp
      simpa using this
    have hok : W.ok n := by rcases hW with rfl | rfl | rfl <;> first | trivial | exact hn0
    have w := wd_of hok hn0 (by omega) lv sv' cl hb3
    obtain ⟨d1, d2⟩ := down_due hW hn0 lv cl hb3 cc k
    have hld := run_ldown w k (by omega) (by omega) 14 (split vs n 14 (rngN vs.length)) [] (by omega) f3 (Nat.zero_le _)
    have htn := run_tnear w (by omega) cl hb3 cc k (by omega) (by omega)
    refine ⟨_, rfl, .inl ?_⟩
    simp only [List.set_cons_succ, List.set_cons_zero]
    refine seq_set (d := .tup ((duePairs vs vec W k).map pairD)) (by
      simp -implicitDefEqProofs (disch := first | assumption | omega | (simp only [List.length_map, rngN_len, sortI_len]; omega)) only [ev_asL, ev_lc, ev_rg1', ev_call, ev_cons, ev_nil, ev_op, ev_c, ev_bvar, ev_var, List.getElem?_cons_succ, List.getElem?_cons_zero, Option.bind_some, Option.map_some, slB_val, slV_val, slB_own, gLen_l, gLen_t, gLen_iT, List.length_map, rgA_1, rgO_ok, lim_ok, rngN_len, if_true, fltE_map, mapME_map, ev_gNm, ev_tYes, wipe_cons, wipe_nil, List.set_cons_succ, List.set_cons_zero, fltE_yes, fltE_p, fltP_some, fltE_rg, fltRg_p, fltRg_yes, fltRp_some, mapME_rg, mapRg_some, ev_iseq, itemsD_l, itemsD_t, mapME_some, gIx_lm, gIx_tm, Int.toNat_natCast, gAdd_i, gSub_i, map_i, ev_un, ev_asB, ev_asT, ev_not, ev_and, ev_or, ev_eif, ev_fcall, blD_bl, gEq_i, gNe_i, gLt_i, gLe_i, gGt_i, gGe_i, gNeg_i, truD_bl, ev_fn, gTuple_l, gTuple_t, gMod_i, gDiv_i, gMul_l, gMul_r, gMaxA_l', gMinA_l', gMaxA_t', gMinA_t', gSortA_l', sortI_len, gIx_last, truD_lm, truD_tm, ev_m1, gIndex_i, ev_oNo, ev_oYes, intO_i, ev_sl, gSl_l, gSl_t, cutD_map, gInt_i, gInt_b, gAbs_i, gSum_l, gSum_t, ev_isi, ev_eand, ev_eor, ev_enot, gIn_il, gIn_it, gNotIn_il, gNotIn_it, gIs_n, gIsNot_n, isNon_n, isNon_t, isNon_l, isNon_i, isNon_b, ev_tup, ev_lst, limT_0, mkL_0, limT_1, mkL_1, limT_2, mkL_2, limT_3, mkL_3, limT_4, mkL_4, limT_5, mkL_5, limT_6, mkL_6, limT_7, mkL_7, limT_8, mkL_8, gAdd_ll, gAdd_tt, gMax2_i, gMin2_i, gIx_p0, gIx_p1, ev_rev, cutD_take, cutD_drop, gSortA_pair, some_or, some_and, bl_or, bl_and, gIx_t0, gIx_l0, gIx_t1, gIx_l1, gIx_t2, gIx_l2, gIx_t3, gIx_l3, gIx_t4, gIx_l4, gIx_t5, gIx_l5, hg, w.lf, hdue, ← List.map_take]
      first | done | exact rfl) ?_
    simp only [List.set_cons_succ, List.set_cons_zero]
    refine seq_set (d := resD (down vec (fun p => W.far (subI vec (nth vs p))) (gapW W) k (split vs n 14 (rngN vs.length)) [])) (by
      simp -implicitDefEqProofs (disch := first | assumption | omega | (simp only [List.length_map, rngN_len, sortI_len]; omega)) only [ev_asL, ev_lc, ev_rg1', ev_call, ev_cons, ev_nil, ev_op, ev_c, ev_bvar, ev_var, List.getElem?_cons_succ, List.getElem?_cons_zero, Option.bind_some, Option.map_some, slB_val, slV_val, slB_own, gLen_l, gLen_t, gLen_iT, List.length_map, rgA_1, rgO_ok, lim_ok, rngN_len, if_true, fltE_map, mapME_map, ev_gNm, ev_tYes, wipe_cons, wipe_nil, List.set_cons_succ, List.set_cons_zero, fltE_yes, fltE_p, fltP_some, fltE_rg, fltRg_p, fltRg_yes, fltRp_some, mapME_rg, mapRg_some, ev_iseq, itemsD_l, itemsD_t, mapME_some, gIx_lm, gIx_tm, Int.toNat_natCast, gAdd_i, gSub_i, map_i, ev_un, ev_asB, ev_asT, ev_not, ev_and, ev_or, ev_eif, ev_fcall, blD_bl, gEq_i, gNe_i, gLt_i, gLe_i, gGt_i, gGe_i, gNeg_i, truD_bl, ev_fn, gTuple_l, gTuple_t, gMod_i, gDiv_i, gMul_l, gMul_r, gMaxA_l', gMinA_l', gMaxA_t', gMinA_t', gSortA_l', sortI_len, gIx_last, truD_lm, truD_tm, ev_m1, gIndex_i, ev_oNo, ev_oYes, intO_i, ev_sl, gSl_l, gSl_t, cutD_map, gInt_i, gInt_b, gAbs_i, gSum_l, gSum_t, ev_isi, ev_eand, ev_eor, ev_enot, gIn_il, gIn_it, gNotIn_il, gNotIn_it, gIs_n, gIsNot_n, isNon_n, isNon_t, isNon_l, isNon_i, isNon_b, ev_tup, ev_lst, limT_0, mkL_0, limT_1, mkL_1, limT_2, mkL_2, limT_3, mkL_3, limT_4, mkL_4, limT_5, mkL_5, limT_6, mkL_6, limT_7, mkL_7, limT_8, mkL_8, gAdd_ll, gAdd_tt, gMax2_i, gMin2_i, gIx_p0, gIx_p1, ev_rev, cutD_take, cutD_drop, gSortA_pair, some_or, some_and, bl_or, bl_and, gIx_t0, gIx_l0, gIx_t1, gIx_l1, gIx_t2, gIx_l2, gIx_t3, gIx_l3, gIx_t4, gIx_l4, gIx_t5, gIx_l5]
      exact hld) ?_
    simp only [List.set_cons_succ, List.set_cons_zero, lastW_snoc]
    generalize hdn : down vec (fun p => W.far (subI vec (nth vs p))) (gapW W) k (split vs n 14 (rngN vs.length)) [] = r at d1 d2 htn
    have dl : (duePairs vs vec W k).length ≤ 16777216 := by
      have : (duePairs vs vec W k).length ≤ k := topk_len
      omega
    have lk : K06.run_l_like 18 [.tup [.tup ((duePairs vs vec W k).map pairD), .int r.2], .tup [.tup ((duePairs vs vec W k).map pairD), .int r.2]] = some (.bl true) := like_of (by
      have := okL_pairs 14 (duePairs vs vec W k) dl
      show (([.tup ((duePairs vs vec W k).map pairD), .int r.2] : List D).all (okL 17) && lim 2) = true
      rw [List.all_cons, this]
      rfl)
    have g0 : gIx (resD r) (.int 0) = some (.lst ((duePairs vs vec W k).map pairD)) := by
      rw [← d1]
      rfl
    have g1 : gIx (resD r) (.int 1) = some (.int r.2) := rfl
    rw [d1] at htn
    refine seq_if0 (by
      simp -implicitDefEqProofs (disch := first | assumption | omega | (simp only [List.length_map, rngN_len, sortI_len]; omega)) only [ev_asL, ev_lc, ev_rg1', ev_call, ev_cons, ev_nil, ev_op, ev_c, ev_bvar, ev_var, List.getElem?_cons_succ, List.getElem?_cons_zero, Option.bind_some, Option.map_some, slB_val, slV_val, slB_own, gLen_l, gLen_t, gLen_iT, List.length_map, rgA_1, rgO_ok, lim_ok, rngN_len, if_true, fltE_map, mapME_map, ev_gNm, ev_tYes, wipe_cons, wipe_nil, List.set_cons_succ, List.set_cons_zero, fltE_yes, fltE_p, fltP_some, fltE_rg, fltRg_p, fltRg_yes, fltRp_some, mapME_rg, mapRg_some, ev_iseq, itemsD_l, itemsD_t, mapME_some, gIx_lm, gIx_tm, Int.toNat_natCast, gAdd_i, gSub_i, map_i, ev_un, ev_asB, ev_asT, ev_not, ev_and, ev_or, ev_eif, ev_fcall, blD_bl, gEq_i, gNe_i, gLt_i, gLe_i, gGt_i, gGe_i, gNeg_i, truD_bl, ev_fn, gTuple_l, gTuple_t, gMod_i, gDiv_i, gMul_l, gMul_r, gMaxA_l', gMinA_l', gMaxA_t', gMinA_t', gSortA_l', sortI_len, gIx_last, truD_lm, truD_tm, ev_m1, gIndex_i, ev_oNo, ev_oYes, intO_i, ev_sl, gSl_l, gSl_t, cutD_map, gInt_i, gInt_b, gAbs_i, gSum_l, gSum_t, ev_isi, ev_eand, ev_eor, ev_enot, gIn_il, gIn_it, gNotIn_il, gNotIn_it, gIs_n, gIsNot_n, isNon_n, isNon_t, isNon_l, isNon_i, isNon_b, ev_tup, ev_lst, limT_0, mkL_0, limT_1, mkL_1, limT_2, mkL_2, limT_3, mkL_3, limT_4, mkL_4, limT_5, mkL_5, limT_6, mkL_6, limT_7, mkL_7, limT_8, mkL_8, gAdd_ll, gAdd_tt, gMax2_i, gMin2_i, gIx_p0, gIx_p1, ev_rev, cutD_take, cutD_drop, gSortA_pair, some_or, some_and, bl_or, bl_and, gIx_t0, gIx_l0, gIx_t1, gIx_l1, gIx_t2, gIx_l2, gIx_t3, gIx_l3, gIx_t4, gIx_l4, gIx_t5, gIx_l5, g0, g1, htn, lk, gNe_pairs]
      rw [decide_eq_false (by omega)]
      rfl) ?_
    have hpo : pairsOf W vec ((rngN vs.length).map fun j => It3.mk j (nth vs j) 0) = pairs (fun p => W.far (subI vec (nth vs p))) (rngN vs.length) := by
      unfold pairsOf pairs
      rw [List.map_map]
      rfl
    have hnr := run_near W vec ((rngN vs.length).map fun j => It3.mk j (nth vs j) 0) k (by rw [lv]; exact hok) (by omega) (small_of sv') (fun x hx => by
      obtain ⟨j, hj, rfl⟩ := List.mem_map.mp hx
      obtain ⟨j0, j1⟩ := mem_rngN hj
      exact ⟨(cl _ (nth_mem j0 j1)).trans lv.symm, small_of (hb3 _ (nth_mem j0 j1))⟩) (by rw [List.length_map]; omega)
    rw [hpo, cutD_take (by omega), Int.toNat_natCast, ← List.map_take, ← e_near] at hnr
    replace hnr : run_nearest [.tup (((rngN vs.length).map fun j => It3.mk j (nth vs j) 0).map It3.d), intT vec, W.d, .int k] = some (.tup ((duePairs vs vec W k).map pairD)) := hnr
    refine run_if0 (by
      simp only [ev_asB, ev_op, ev_fn, ev_cons, ev_nil, ev_var, ev_bvar, List.getElem?_cons_succ, List.getElem?_cons_zero, Option.bind_some, slV_val, slB_val, hnr, gNe_pairs, blD_bl]) ?_
    rfl
  have b54 := mod_lt (a := nth row 54) (b := 4) (by omega)
  obtain ⟨W, hW, hgd, hro⟩ : ∃ W : Way, gIx (.tup [sS "steps", sS "widest", sS "unlike", .tup [sS "weights", .tup (cutD [.int 2, .int 1, .int 3] none (some (n : Int)))]]) (.int (nth row 54 % 4)) = some W.d ∧ W.good n ∧ rooted W = false := by
    have e4 : nth row 54 % 4 = 0 ∨ nth row 54 % 4 = 1 ∨ nth row 54 % 4 = 2 ∨ nth row 54 % 4 = 3 := by omega
    rcases e4 with e | e | e | e <;> rw [e]
    · exact ⟨.steps, rfl, hn0, rfl⟩
    · exact ⟨.widest, rfl, hn0, rfl⟩
    · exact ⟨.unlike, rfl, hn0, rfl⟩
    · refine ⟨.weights ([2, 1, 3].take n), ?_, ?_, rfl⟩
      · rw [cutD_take (by omega), Int.toNat_natCast]
        rcases n123 with rfl | rfl | rfl <;> rfl
      · rcases n123 with rfl | rfl | rfl <;> simp [Way.good]
  have w := wd_of (Way.good_ok hgd hn0) hn0 (by omega) lv sv' cl hb3
  have hfar : ∀ p q, 0 ≤ p → p < (vs.length : Int) → 0 ≤ q → q < (vs.length : Int) → run_far [W.d, intT (nth vs p), intT (nth vs q)] = some (.int (W.far (subI (nth vs p) (nth vs q)))) := fun p q p0 p1 q0 q1 => by
    have mp := nth_mem p0 p1
    exact (wd_of (Way.good_ok hgd hn0) hn0 (by omega) (cl _ mp) (hb3 _ mp) cl hb3).fr q q0 q1
  have hlfar : ∀ p q, 0 ≤ p → p < (vs.length : Int) → 0 ≤ q → q < (vs.length : Int) → run_l_far [W.d, intT (nth vs p), intT (nth vs q)] = some (.int (W.far (subI (nth vs p) (nth vs q)))) := fun p q p0 p1 q0 q1 => by
    have mp := nth_mem p0 p1
    exact (wd_of (Way.good_ok hgd hn0) hn0 (by omega) (cl _ mp) (hb3 _ mp) cl hb3).lf q q0 q1
  have gd := goin_due hgd hro n123 lv cl cc k
  obtain ⟨r1, r2⟩ := rings_facts (d2 := fun p q => W.far (subI (nth vs p) (nth vs q))) (m := vs.length) 14 (rngN vs.length) (by omega) rng_in
  have rh := rings_ht (d2 := fun p q => W.far (subI (nth vs p) (nth vs q))) 14 (rngN vs.length) (by omega)
  have hlr := run_lrings hlfar 14 (rngN vs.length) (by omega) (by omega) rng_in
  have hrt := run_rtree hfar cc
  have hrn := run_rnear hfar w.fr cc k (by omega) (by omega)
  have hli := run_lin (d2 := fun p q => W.far (subI (nth vs p) (nth vs q))) w.lf k (by omega) (by omega) 14 (rings (fun p q => W.far (subI (nth vs p) (nth vs q))) 14 (rngN vs.length)) [] (by omega) r2 (Nat.zero_le _)
  have l3 : K06.run_l_like 18 [(rings (fun p q => W.far (subI (nth vs p) (nth vs q))) 14 (rngN vs.length)).d, (rings (fun p q => W.far (subI (nth vs p) (nth vs q))) 14 (rngN vs.length)).d] = some (.bl true) := like_of (okL_rt (d2 := fun p q => W.far (subI (nth vs p) (nth vs q))) _ 17 (by omega))
  generalize hdn : goIn (fun p => W.far (subI vec (nth vs p))) k (rings (fun p q => W.far (subI (nth vs p) (nth vs q))) 14 (rngN vs.length)) [] = r at gd hrn hli
  generalize rings (fun p q => W.far (subI (nth vs p) (nth vs q))) 14 (rngN vs.length) = t at hlr hrt hli l3
  rw [gd] at hrn
  have dl : (duePairs vs vec W k).length ≤ 16777216 := by
    have : (duePairs vs vec W k).length ≤ k := topk_len
    omega
  have lk : K06.run_l_like 18 [.tup [.tup ((duePairs vs vec W k).map pairD), .int r.2], .tup [.tup ((duePairs vs vec W k).map pairD), .int r.2]] = some (.bl true) := like_of (by
    have := okL_pairs 14 (duePairs vs vec W k) dl
    show (([.tup ((duePairs vs vec W k).map pairD), .int r.2] : List D).all (okL 17) && lim 2) = true
    rw [List.all_cons, this]
    rfl)
  have g0 : gIx (resD r) (.int 0) = some (.lst ((duePairs vs vec W k).map pairD)) := by
    rw [← gd]
    rfl
  have g1 : gIx (resD r) (.int 1) = some (.int r.2) := rfl
  refine seq_set (d := W.d) (by
    simp (disch := omega) only [ev_op, ev_tup, ev_cons, ev_nil, ev_c, ev_sl, ev_oNo, ev_oYes, ev_call, ev_bvar, List.getElem?_cons_succ, List.getElem?_cons_zero, Option.bind_some, slB_val, limT_3, limT_2, limT_4, intO_i, gSl_t, gIx_lm, gInt_i, gMod_i]
    exact hW) ?_
  simp only [List.set_cons_succ, List.set_cons_zero]
  refine seq_set (d := t.d) (by
    simp -implicitDefEqProofs (disch := first | assumption | omega | (simp only [List.length_map, rngN_len, sortI_len]; omega)) only [ev_asL, ev_lc, ev_rg1', ev_call, ev_cons, ev_nil, ev_op, ev_c, ev_bvar, ev_var, List.getElem?_cons_succ, List.getElem?_cons_zero, Option.bind_some, Option.map_some, slB_val, slV_val, slB_own, gLen_l, gLen_t, gLen_iT, List.length_map, rgA_1, rgO_ok, lim_ok, rngN_len, if_true, fltE_map, mapME_map, ev_gNm, ev_tYes, wipe_cons, wipe_nil, List.set_cons_succ, List.set_cons_zero, fltE_yes, fltE_p, fltP_some, fltE_rg, fltRg_p, fltRg_yes, fltRp_some, mapME_rg, mapRg_some, ev_iseq, itemsD_l, itemsD_t, mapME_some, gIx_lm, gIx_tm, Int.toNat_natCast, gAdd_i, gSub_i, map_i, ev_un, ev_asB, ev_asT, ev_not, ev_and, ev_or, ev_eif, ev_fcall, blD_bl, gEq_i, gNe_i, gLt_i, gLe_i, gGt_i, gGe_i, gNeg_i, truD_bl, ev_fn, gTuple_l, gTuple_t, gMod_i, gDiv_i, gMul_l, gMul_r, gMaxA_l', gMinA_l', gMaxA_t', gMinA_t', gSortA_l', sortI_len, gIx_last, truD_lm, truD_tm, ev_m1, gIndex_i, ev_oNo, ev_oYes, intO_i, ev_sl, gSl_l, gSl_t, cutD_map, gInt_i, gInt_b, gAbs_i, gSum_l, gSum_t, ev_isi, ev_eand, ev_eor, ev_enot, gIn_il, gIn_it, gNotIn_il, gNotIn_it, gIs_n, gIsNot_n, isNon_n, isNon_t, isNon_l, isNon_i, isNon_b, ev_tup, ev_lst, limT_0, mkL_0, limT_1, mkL_1, limT_2, mkL_2, limT_3, mkL_3, limT_4, mkL_4, limT_5, mkL_5, limT_6, mkL_6, limT_7, mkL_7, limT_8, mkL_8, gAdd_ll, gAdd_tt, gMax2_i, gMin2_i, gIx_p0, gIx_p1, ev_rev, cutD_take, cutD_drop, gSortA_pair, some_or, some_and, bl_or, bl_and, gIx_t0, gIx_l0, gIx_t1, gIx_l1, gIx_t2, gIx_l2, gIx_t3, gIx_l3, gIx_t4, gIx_l4, gIx_t5, gIx_l5, ev_rgl, rgA'_i, hlr]) ?_
  simp only [List.set_cons_succ, List.set_cons_zero]
  refine seq_set (d := .tup ((duePairs vs vec W k).map pairD)) (by
    simp -implicitDefEqProofs (disch := first | assumption | omega | (simp only [List.length_map, rngN_len, sortI_len]; omega)) only [ev_asL, ev_lc, ev_rg1', ev_call, ev_cons, ev_nil, ev_op, ev_c, ev_bvar, ev_var, List.getElem?_cons_succ, List.getElem?_cons_zero, Option.bind_some, Option.map_some, slB_val, slV_val, slB_own, gLen_l, gLen_t, gLen_iT, List.length_map, rgA_1, rgO_ok, lim_ok, rngN_len, if_true, fltE_map, mapME_map, ev_gNm, ev_tYes, wipe_cons, wipe_nil, List.set_cons_succ, List.set_cons_zero, fltE_yes, fltE_p, fltP_some, fltE_rg, fltRg_p, fltRg_yes, fltRp_some, mapME_rg, mapRg_some, ev_iseq, itemsD_l, itemsD_t, mapME_some, gIx_lm, gIx_tm, Int.toNat_natCast, gAdd_i, gSub_i, map_i, ev_un, ev_asB, ev_asT, ev_not, ev_and, ev_or, ev_eif, ev_fcall, blD_bl, gEq_i, gNe_i, gLt_i, gLe_i, gGt_i, gGe_i, gNeg_i, truD_bl, ev_fn, gTuple_l, gTuple_t, gMod_i, gDiv_i, gMul_l, gMul_r, gMaxA_l', gMinA_l', gMaxA_t', gMinA_t', gSortA_l', sortI_len, gIx_last, truD_lm, truD_tm, ev_m1, gIndex_i, ev_oNo, ev_oYes, intO_i, ev_sl, gSl_l, gSl_t, cutD_map, gInt_i, gInt_b, gAbs_i, gSum_l, gSum_t, ev_isi, ev_eand, ev_eor, ev_enot, gIn_il, gIn_it, gNotIn_il, gNotIn_it, gIs_n, gIsNot_n, isNon_n, isNon_t, isNon_l, isNon_i, isNon_b, ev_tup, ev_lst, limT_0, mkL_0, limT_1, mkL_1, limT_2, mkL_2, limT_3, mkL_3, limT_4, mkL_4, limT_5, mkL_5, limT_6, mkL_6, limT_7, mkL_7, limT_8, mkL_8, gAdd_ll, gAdd_tt, gMax2_i, gMin2_i, gIx_p0, gIx_p1, ev_rev, cutD_take, cutD_drop, gSortA_pair, some_or, some_and, bl_or, bl_and, gIx_t0, gIx_l0, gIx_t1, gIx_l1, gIx_t2, gIx_l2, gIx_t3, gIx_l3, gIx_t4, gIx_l4, gIx_t5, gIx_l5, hg, w.lf, hdue, ← List.map_take]
    first | done | exact rfl) ?_
  simp only [List.set_cons_succ, List.set_cons_zero]
  refine seq_set (d := resD r) (by
    simp -implicitDefEqProofs (disch := first | assumption | omega | (simp only [List.length_map, rngN_len, sortI_len]; omega)) only [ev_asL, ev_lc, ev_rg1', ev_call, ev_cons, ev_nil, ev_op, ev_c, ev_bvar, ev_var, List.getElem?_cons_succ, List.getElem?_cons_zero, Option.bind_some, Option.map_some, slB_val, slV_val, slB_own, gLen_l, gLen_t, gLen_iT, List.length_map, rgA_1, rgO_ok, lim_ok, rngN_len, if_true, fltE_map, mapME_map, ev_gNm, ev_tYes, wipe_cons, wipe_nil, List.set_cons_succ, List.set_cons_zero, fltE_yes, fltE_p, fltP_some, fltE_rg, fltRg_p, fltRg_yes, fltRp_some, mapME_rg, mapRg_some, ev_iseq, itemsD_l, itemsD_t, mapME_some, gIx_lm, gIx_tm, Int.toNat_natCast, gAdd_i, gSub_i, map_i, ev_un, ev_asB, ev_asT, ev_not, ev_and, ev_or, ev_eif, ev_fcall, blD_bl, gEq_i, gNe_i, gLt_i, gLe_i, gGt_i, gGe_i, gNeg_i, truD_bl, ev_fn, gTuple_l, gTuple_t, gMod_i, gDiv_i, gMul_l, gMul_r, gMaxA_l', gMinA_l', gMaxA_t', gMinA_t', gSortA_l', sortI_len, gIx_last, truD_lm, truD_tm, ev_m1, gIndex_i, ev_oNo, ev_oYes, intO_i, ev_sl, gSl_l, gSl_t, cutD_map, gInt_i, gInt_b, gAbs_i, gSum_l, gSum_t, ev_isi, ev_eand, ev_eor, ev_enot, gIn_il, gIn_it, gNotIn_il, gNotIn_it, gIs_n, gIsNot_n, isNon_n, isNon_t, isNon_l, isNon_i, isNon_b, ev_tup, ev_lst, limT_0, mkL_0, limT_1, mkL_1, limT_2, mkL_2, limT_3, mkL_3, limT_4, mkL_4, limT_5, mkL_5, limT_6, mkL_6, limT_7, mkL_7, limT_8, mkL_8, gAdd_ll, gAdd_tt, gMax2_i, gMin2_i, gIx_p0, gIx_p1, ev_rev, cutD_take, cutD_drop, gSortA_pair, some_or, some_and, bl_or, bl_and, gIx_t0, gIx_l0, gIx_t1, gIx_l1, gIx_t2, gIx_l2, gIx_t3, gIx_l3, gIx_t4, gIx_l4, gIx_t5, gIx_l5]
    exact hli) ?_
  simp only [List.set_cons_succ, List.set_cons_zero]
  refine seq_if0 (by
    simp -implicitDefEqProofs (disch := first | assumption | omega | (simp only [List.length_map, rngN_len, sortI_len]; omega)) only [ev_asL, ev_lc, ev_rg1', ev_call, ev_cons, ev_nil, ev_op, ev_c, ev_bvar, ev_var, List.getElem?_cons_succ, List.getElem?_cons_zero, Option.bind_some, Option.map_some, slB_val, slV_val, slB_own, gLen_l, gLen_t, gLen_iT, List.length_map, rgA_1, rgO_ok, lim_ok, rngN_len, if_true, fltE_map, mapME_map, ev_gNm, ev_tYes, wipe_cons, wipe_nil, List.set_cons_succ, List.set_cons_zero, fltE_yes, fltE_p, fltP_some, fltE_rg, fltRg_p, fltRg_yes, fltRp_some, mapME_rg, mapRg_some, ev_iseq, itemsD_l, itemsD_t, mapME_some, gIx_lm, gIx_tm, Int.toNat_natCast, gAdd_i, gSub_i, map_i, ev_un, ev_asB, ev_asT, ev_not, ev_and, ev_or, ev_eif, ev_fcall, blD_bl, gEq_i, gNe_i, gLt_i, gLe_i, gGt_i, gGe_i, gNeg_i, truD_bl, ev_fn, gTuple_l, gTuple_t, gMod_i, gDiv_i, gMul_l, gMul_r, gMaxA_l', gMinA_l', gMaxA_t', gMinA_t', gSortA_l', sortI_len, gIx_last, truD_lm, truD_tm, ev_m1, gIndex_i, ev_oNo, ev_oYes, intO_i, ev_sl, gSl_l, gSl_t, cutD_map, gInt_i, gInt_b, gAbs_i, gSum_l, gSum_t, ev_isi, ev_eand, ev_eor, ev_enot, gIn_il, gIn_it, gNotIn_il, gNotIn_it, gIs_n, gIsNot_n, isNon_n, isNon_t, isNon_l, isNon_i, isNon_b, ev_tup, ev_lst, limT_0, mkL_0, limT_1, mkL_1, limT_2, mkL_2, limT_3, mkL_3, limT_4, mkL_4, limT_5, mkL_5, limT_6, mkL_6, limT_7, mkL_7, limT_8, mkL_8, gAdd_ll, gAdd_tt, gMax2_i, gMin2_i, gIx_p0, gIx_p1, ev_rev, cutD_take, cutD_drop, gSortA_pair, some_or, some_and, bl_or, bl_and, gIx_t0, gIx_l0, gIx_t1, gIx_l1, gIx_t2, gIx_l2, gIx_t3, gIx_l3, gIx_t4, gIx_l4, gIx_t5, gIx_l5, hrt, l3, g0, gNe_pairs]
    rfl) ?_
  refine run_ret ?_
  simp -implicitDefEqProofs (disch := first | assumption | omega | (simp only [List.length_map, rngN_len, sortI_len]; omega)) only [ev_asL, ev_lc, ev_rg1', ev_call, ev_cons, ev_nil, ev_op, ev_c, ev_bvar, ev_var, List.getElem?_cons_succ, List.getElem?_cons_zero, Option.bind_some, Option.map_some, slB_val, slV_val, slB_own, gLen_l, gLen_t, gLen_iT, List.length_map, rgA_1, rgO_ok, lim_ok, rngN_len, if_true, fltE_map, mapME_map, ev_gNm, ev_tYes, wipe_cons, wipe_nil, List.set_cons_succ, List.set_cons_zero, fltE_yes, fltE_p, fltP_some, fltE_rg, fltRg_p, fltRg_yes, fltRp_some, mapME_rg, mapRg_some, ev_iseq, itemsD_l, itemsD_t, mapME_some, gIx_lm, gIx_tm, Int.toNat_natCast, gAdd_i, gSub_i, map_i, ev_un, ev_asB, ev_asT, ev_not, ev_and, ev_or, ev_eif, ev_fcall, blD_bl, gEq_i, gNe_i, gLt_i, gLe_i, gGt_i, gGe_i, gNeg_i, truD_bl, ev_fn, gTuple_l, gTuple_t, gMod_i, gDiv_i, gMul_l, gMul_r, gMaxA_l', gMinA_l', gMaxA_t', gMinA_t', gSortA_l', sortI_len, gIx_last, truD_lm, truD_tm, ev_m1, gIndex_i, ev_oNo, ev_oYes, intO_i, ev_sl, gSl_l, gSl_t, cutD_map, gInt_i, gInt_b, gAbs_i, gSum_l, gSum_t, ev_isi, ev_eand, ev_eor, ev_enot, gIn_il, gIn_it, gNotIn_il, gNotIn_it, gIs_n, gIsNot_n, isNon_n, isNon_t, isNon_l, isNon_i, isNon_b, ev_tup, ev_lst, limT_0, mkL_0, limT_1, mkL_1, limT_2, mkL_2, limT_3, mkL_3, limT_4, mkL_4, limT_5, mkL_5, limT_6, mkL_6, limT_7, mkL_7, limT_8, mkL_8, gAdd_ll, gAdd_tt, gMax2_i, gMin2_i, gIx_p0, gIx_p1, ev_rev, cutD_take, cutD_drop, gSortA_pair, some_or, some_and, bl_or, bl_and, gIx_t0, gIx_l0, gIx_t1, gIx_l1, gIx_t2, gIx_l2, gIx_t3, gIx_l3, gIx_t4, gIx_l4, gIx_t5, gIx_l5, hrn, g1, lk]
end K06
open PySem PySem.W PyProof.Rows
set_option maxHeartbeats 0 in
theorem PySem.Challenge.cw_farkept_k06_whole_splits_holds : PySem.Challenge.rw_farkept_k06_whole_splits.Holds := by
  w_on; o_law; k_head; (case hw => w_witness2)
  k_fill
  refine L2.walk_of (l := PySem.Challenge.rw_farkept_k06_whole_splits) (n := 63) (k := 20) (x := "script") (CX := fun _ => L2.CX0) (sp := fun w => PD.spD _ K06.run_law 1) rfl (by decide) rfl ⟨rfl, by decide, by decide⟩ (fun w h Y => PySem.W.kIn_of Y) ?F (fun _ _ a ns hl _ hS => PD.law_sp (K06.law_true ns hl) hS) (fun _ _ _ _ _ h => h)
  case F =>
    intro w mg fa h KX G hmg
    refine' K06.all_mk KX G hmg ?a0 ?l0 ?c0 ?k0 ?a1 ?l1 ?c1 ?k1 ?a2 ?l2 ?c2 ?k2 ?a3 ?l3 ?c3 ?k3 ?a4 ?l4 ?c4 ?k4 ?a5 ?l5 ?c5 ?k5 ?a6 ?l6 ?c6 ?k6 ?a7 ?l7 ?c7 ?k7 ?a8 ?l8 ?c8 ?k8 ?a9 ?l9 ?c9 ?k9 ?a10 ?l10 ?c10 ?k10 ?a11 ?l11 ?c11 ?k11 ?a12 ?l12 ?c12 ?k12 ?a13 ?l13 ?c13 ?k13 ?a14 ?l14 ?c14 ?k14 ?a15 ?l15 ?c15 ?k15 ?a16 ?l16 ?c16 ?k16 ?a17 ?l17 ?c17 ?k17 ?a18 ?l18 ?c18 ?k18 ?a19 ?l19 ?c19 ?k19 ?a20 ?l20 ?c20 ?k20 ?a21 ?l21 ?c21 ?k21 ?a22 ?l22 ?c22 ?k22 ?a23 ?l23 ?c23 ?k23 ?a24 ?l24 ?c24 ?k24 ?a25 ?l25 ?c25 ?k25 ?a26 ?l26 ?c26 ?k26 ?a27 ?l27 ?c27 ?k27 ?a28 ?l28 ?c28 ?k28 ?gcn0 ?z0 ?z1 ?z2 ?z3 ?z4 ?z5 ?z6 ?z7 ?z8 ?z9 ?z10 ?z11 ?z12 ?z13 ?z14
    (case a0 => k_is); (case l0 => k_is); (case c0 => k_is); (case k0 => k_is); (case a1 => k_is); (case l1 => k_is); (case c1 => k_is); (case k1 => k_is); (case a2 => k_is); (case l2 => k_is); (case c2 => k_is); (case k2 => k_is); (case a3 => k_is); (case l3 => k_is); (case c3 => k_is); (case k3 => k_is); (case a4 => k_is); (case l4 => k_is); (case c4 => k_is); (case k4 => k_is); (case a5 => k_is); (case l5 => k_is); (case c5 => k_is); (case k5 => k_is); (case a6 => k_is); (case l6 => k_is); (case c6 => k_is); (case k6 => k_is); (case a7 => k_is); (case l7 => k_is); (case c7 => k_is); (case k7 => k_is); (case a8 => k_is); (case l8 => k_is); (case c8 => k_is); (case k8 => k_is); (case a9 => k_is); (case l9 => k_is); (case c9 => k_is); (case k9 => k_is); (case a10 => k_is); (case l10 => k_is); (case c10 => k_is); (case k10 => k_is); (case a11 => k_is); (case l11 => k_is); (case c11 => k_is); (case k11 => k_is); (case a12 => k_is); (case l12 => k_is); (case c12 => k_is); (case k12 => k_is); (case a13 => k_is); (case l13 => k_is); (case c13 => k_is); (case k13 => k_is); (case a14 => k_is); (case l14 => k_is); (case c14 => k_is); (case k14 => k_is); (case a15 => k_is); (case l15 => k_is); (case c15 => k_is); (case k15 => k_is); (case a16 => k_is); (case l16 => k_is); (case c16 => k_is); (case k16 => k_is); (case a17 => k_is); (case l17 => k_is); (case c17 => k_is); (case k17 => k_is); (case a18 => k_is); (case l18 => k_is); (case c18 => k_is); (case k18 => k_is); (case a19 => k_is); (case l19 => k_is); (case c19 => k_is); (case k19 => k_is); (case a20 => k_is); (case l20 => k_is); (case c20 => k_is); (case k20 => k_is); (case a21 => k_is); (case l21 => k_is); (case c21 => k_is); (case k21 => k_is); (case a22 => k_is); (case l22 => k_is); (case c22 => k_is); (case k22 => k_is); (case a23 => k_is); (case l23 => k_is); (case c23 => k_is); (case k23 => k_is); (case a24 => k_is); (case l24 => k_is); (case c24 => k_is); (case k24 => k_is); (case a25 => k_is); (case l25 => k_is); (case c25 => k_is); (case k25 => k_is); (case a26 => k_is); (case l26 => k_is); (case c26 => k_is); (case k26 => k_is); (case a27 => k_is); (case l27 => k_is); (case c27 => k_is); (case k27 => k_is); (case a28 => k_is); (case l28 => k_is); (case c28 => k_is); (case k28 => k_is); (case gcn0 => k_is); (case z0 => k_is); (case z1 => k_is); (case z2 => k_is); (case z3 => k_is); (case z4 => k_is); (case z5 => k_is); (case z6 => k_is); (case z7 => k_is); (case z8 => k_is); (case z9 => k_is); (case z10 => k_is); (case z11 => k_is); (case z12 => k_is); (case z13 => k_is); (case z14 => k_is)

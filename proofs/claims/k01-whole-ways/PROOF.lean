import PyProof.Rows.All
import Wide.All
import OpenK.AllK
import Wide.FinOn
import HandS.ForMost
import HandS.TupAny
import HandS.SortInts
import HandS.IsInst
import HandS.Conv
import HandS.Deep
import HandS.Zip
import HandS.Rev
import HandS.TupMul
import HandS.Style
import HandS.Walk
import HandS.NoneIn
import HandS.TupLe
import KE.SortData
import PySem.Challenge.RW_farkept_k01_whole_ways
set_option Elab.async false
set_option linter.all false
set_option maxRecDepth 100000
namespace PD
open PySem PySem.Spec PyProof.Rows L2

/-- a value as plain data -/
inductive D where
  | non | bl (b : Bool) | int (i : Int) | str (x : Str) | tup (xs : List D) | lst (xs : List D) | dic (kvs : List (D × D)) | scr (ns : List Int)
instance : Inhabited D := ⟨.non⟩
def kD : Key → D
  | .inl i => .int i
  | .inr x => .str x
def kTD (ks : List Key) : D := .tup (ks.map kD)

mutual
def Rp (K : PySem.W.Frag) (G : Hp) : D → V → Prop
  | .non, v => v = .non
  | .bl b, v => v = .bl b
  | .int i, v => v = .int i
  | .str x, v => v = .str x
  | .tup ds, v => ∃ a xs, v = .ref a ∧ SqT K G a xs ∧ RpL K G ds xs
  | .lst ds, v => ∃ a xs, v = .ref a ∧ G a = some (.lst xs) ∧ RpL K G ds xs
  | .dic ds, v => ∃ a, v = .ref a ∧ ((∃ ks, G a = some (.dK ks) ∧ RpK K G ds ks) ∨ (∃ ks, G a = some (.dT ks) ∧ RpT K G ds ks))
  | .scr ns, v => ∃ a, v = .ref a ∧ SqL K G a (ns.map V.int)
def RpL (K : PySem.W.Frag) (G : Hp) : List D → List V → Prop
  | [], xs => xs = []
  | d :: ds, xs => ∃ x r, xs = x :: r ∧ Rp K G d x ∧ RpL K G ds r
def RpK (K : PySem.W.Frag) (G : Hp) : List (D × D) → List (Key × V) → Prop
  | [], xs => xs = []
  | (kd, d) :: ds, xs => ∃ k x r, xs = (k, x) :: r ∧ kd = kD k ∧ Rp K G d x ∧ RpK K G ds r
def RpT (K : PySem.W.Frag) (G : Hp) : List (D × D) → List (List Key × V) → Prop
  | [], xs => xs = []
  | (kd, d) :: ds, xs => ∃ k x r, xs = (k, x) :: r ∧ kd = kTD k ∧ Rp K G d x ∧ RpT K G ds r
end

theorem Same.tup {K : PySem.W.Frag} {H H' : Hp} {a : Addr} {xs : List V} (e : Same H H') (h : SqT K H a xs) : SqT K H' a xs := by
  rcases h with (h | ⟨o, h⟩) | h
  · exact .inl (.inl (e _ _ h))
  · exact .inl (.inr ⟨o, e _ _ h⟩)
  · exact .inr h

section
variable {K : PySem.W.Frag} {G G' : Hp}
mutual
theorem Rp.mono (e : Same G G') : ∀ (d : D) (v : V), Rp K G d v → Rp K G' d v
  | .non, _, h => by simp only [Rp] at h ⊢; exact h
  | .bl _, _, h => by simp only [Rp] at h ⊢; exact h
  | .int _, _, h => by simp only [Rp] at h ⊢; exact h
  | .str _, _, h => by simp only [Rp] at h ⊢; exact h
  | .tup ds, _, h => by
    simp only [Rp] at h ⊢
    obtain ⟨a, xs, e1, e2, e3⟩ := h
    exact ⟨a, xs, e1, Same.tup e e2, RpL.mono e ds xs e3⟩
  | .lst ds, _, h => by
    simp only [Rp] at h ⊢
    obtain ⟨a, xs, e1, e2, e3⟩ := h
    exact ⟨a, xs, e1, e _ _ e2, RpL.mono e ds xs e3⟩
  | .dic ds, _, h => by
    simp only [Rp] at h ⊢
    obtain ⟨a, e1, h⟩ := h
    refine ⟨a, e1, ?_⟩
    rcases h with ⟨ks, e2, e3⟩ | ⟨ks, e2, e3⟩
    · exact .inl ⟨ks, e _ _ e2, RpK.mono e ds ks e3⟩
    · exact .inr ⟨ks, e _ _ e2, RpT.mono e ds ks e3⟩
  | .scr _, _, h => by
    simp only [Rp] at h ⊢
    obtain ⟨a, e1, e2⟩ := h
    exact ⟨a, e1, e.seq e2⟩
theorem RpL.mono (e : Same G G') : ∀ (ds : List D) (xs : List V), RpL K G ds xs → RpL K G' ds xs
  | [], _, h => by simp only [RpL] at h ⊢; exact h
  | d :: ds, _, h => by
    simp only [RpL] at h ⊢
    obtain ⟨x, r, e1, e2, e3⟩ := h
    exact ⟨x, r, e1, Rp.mono e d x e2, RpL.mono e ds r e3⟩
theorem RpK.mono (e : Same G G') : ∀ (ds : List (D × D)) (xs : List (Key × V)), RpK K G ds xs → RpK K G' ds xs
  | [], _, h => by simp only [RpK] at h ⊢; exact h
  | (kd, d) :: ds, _, h => by
    simp only [RpK] at h ⊢
    obtain ⟨k, x, r, e1, e0, e2, e3⟩ := h
    exact ⟨k, x, r, e1, e0, Rp.mono e d x e2, RpK.mono e ds r e3⟩
theorem RpT.mono (e : Same G G') : ∀ (ds : List (D × D)) (xs : List (List Key × V)), RpT K G ds xs → RpT K G' ds xs
  | [], _, h => by simp only [RpT] at h ⊢; exact h
  | (kd, d) :: ds, _, h => by
    simp only [RpT] at h ⊢
    obtain ⟨k, x, r, e1, e0, e2, e3⟩ := h
    exact ⟨k, x, r, e1, e0, Rp.mono e d x e2, RpT.mono e ds r e3⟩
end
end

section
variable {K : PySem.W.Frag} {G : Hp}
theorem RpL.len : ∀ {ds : List D} {xs : List V}, RpL K G ds xs → ds.length = xs.length
  | [], _, h => by
    simp only [RpL] at h
    subst h
    rfl
  | d :: ds, _, h => by
    simp only [RpL] at h
    obtain ⟨x, r, e1, e2, e3⟩ := h
    subst e1
    simp only [List.length_cons, RpL.len e3]
theorem RpL.get : ∀ {ds : List D} {xs : List V}, RpL K G ds xs → ∀ {i : Nat} {d : D} {x : V}, ds[i]? = some d → xs[i]? = some x → Rp K G d x
  | [], _, h, i, d, x, e, _ => by simp at e
  | d :: ds, _, h, i, d', x', e, e' => by
    simp only [RpL] at h
    obtain ⟨x, r, e1, e2, e3⟩ := h
    subst e1
    cases i with
    | zero =>
      simp only [List.getElem?_cons_zero, Option.some.injEq] at e e'
      subst e e'
      exact e2
    | succ i =>
      simp only [List.getElem?_cons_succ] at e e'
      exact RpL.get e3 e e'
theorem RpL.mk : ∀ {ds : List D} {xs : List V}, ds.length = xs.length → (∀ (i : Nat) (d : D) (x : V), ds[i]? = some d → xs[i]? = some x → Rp K G d x) → RpL K G ds xs
  | [], xs, h, _ => by
    simp only [RpL]
    cases xs with
    | nil => rfl
    | cons x r => simp at h
  | d :: ds, xs, h, w => by
    cases xs with
    | nil => simp at h
    | cons x r =>
      simp only [RpL]
      refine ⟨x, r, rfl, w 0 d x rfl rfl, RpL.mk (by simpa using h) fun i d' x' e e' => w (i + 1) d' x' (by simpa using e) (by simpa using e')⟩
theorem RpL.nil : RpL K G [] [] := by simp only [RpL]
theorem RpL.cons {d : D} {ds : List D} {x : V} {xs : List V} (h : Rp K G d x) (h' : RpL K G ds xs) : RpL K G (d :: ds) (x :: xs) := by
  simp only [RpL]
  exact ⟨x, xs, rfl, h, h'⟩
theorem RpL.append : ∀ {ds es : List D} {xs ys : List V}, RpL K G ds xs → RpL K G es ys → RpL K G (ds ++ es) (xs ++ ys)
  | [], es, _, ys, h, h' => by
    simp only [RpL] at h
    subst h
    exact h'
  | d :: ds, es, _, ys, h, h' => by
    simp only [RpL] at h
    obtain ⟨x, r, e1, e2, e3⟩ := h
    subst e1
    exact RpL.cons e2 (RpL.append e3 h')
theorem RpL.snoc {ds : List D} {d : D} {xs : List V} {x : V} (h : RpL K G ds xs) (h' : Rp K G d x) : RpL K G (ds ++ [d]) (xs ++ [x]) := h.append (RpL.cons h' RpL.nil)
theorem RpL.drop : ∀ {ds : List D} {xs : List V} (n : Nat), RpL K G ds xs → RpL K G (ds.drop n) (xs.drop n)
  | ds, xs, 0, h => h
  | [], _, n + 1, h => by
    simp only [RpL] at h
    subst h
    exact RpL.nil
  | d :: ds, _, n + 1, h => by
    simp only [RpL] at h
    obtain ⟨x, r, e1, e2, e3⟩ := h
    subst e1
    exact RpL.drop n e3
theorem RpL.take : ∀ {ds : List D} {xs : List V} (n : Nat), RpL K G ds xs → RpL K G (ds.take n) (xs.take n)
  | ds, xs, 0, h => by
    simp only [List.take_zero]
    exact RpL.nil
  | [], _, n + 1, h => by
    simp only [RpL] at h
    subst h
    exact RpL.nil
  | d :: ds, _, n + 1, h => by
    simp only [RpL] at h
    obtain ⟨x, r, e1, e2, e3⟩ := h
    subst e1
    exact RpL.cons e2 (RpL.take n e3)
theorem RpL.set {d : D} {x : V} (r : Rp K G d x) : ∀ {ds : List D} {xs : List V} (n : Nat), RpL K G ds xs → RpL K G (ds.set n d) (xs.set n x)
  | [], _, n, h => by
    simp only [RpL] at h
    subst h
    exact RpL.nil
  | d' :: ds, _, 0, h => by
    simp only [RpL] at h
    obtain ⟨x', r', e1, e2, e3⟩ := h
    subst e1
    exact RpL.cons r e3
  | d' :: ds, _, n + 1, h => by
    simp only [RpL] at h
    obtain ⟨x', r', e1, e2, e3⟩ := h
    subst e1
    exact RpL.cons e2 (RpL.set r n e3)
theorem RpL.reverse : ∀ {ds : List D} {xs : List V}, RpL K G ds xs → RpL K G ds.reverse xs.reverse
  | [], _, h => by
    simp only [RpL] at h
    subst h
    exact RpL.nil
  | d :: ds, _, h => by
    simp only [RpL] at h
    obtain ⟨x, r, e1, e2, e3⟩ := h
    subst e1
    simp only [List.reverse_cons]
    exact RpL.append (RpL.reverse e3) (RpL.cons e2 RpL.nil)
theorem RpL.at {ds : List D} {xs : List V} (h : RpL K G ds xs) {i : Nat} {d : D} (e : ds[i]? = some d) : ∃ x, xs[i]? = some x ∧ Rp K G d x := by
  obtain ⟨hi, e1⟩ := List.getElem?_eq_some_iff.mp e
  have hl := h.len
  have hx : xs[i]? = some (xs[i]'(by omega)) := List.getElem?_eq_getElem (by omega)
  exact ⟨_, hx, h.get e hx⟩
theorem RpL.ints : ∀ {ns : List Int} {xs : List V}, RpL K G (ns.map D.int) xs → xs = ns.map V.int
  | [], _, h => by
    simp only [List.map_nil, RpL] at h
    exact h
  | n :: ns, _, h => by
    simp only [List.map_cons, RpL, Rp] at h
    obtain ⟨x, r, e1, e2, e3⟩ := h
    subst e1 e2
    rw [RpL.ints e3]
    rfl
theorem RpL.of_ints : ∀ (ns : List Int), RpL K G (ns.map D.int) (ns.map V.int)
  | [] => RpL.nil
  | n :: ns => RpL.cons (by simp only [Rp]) (RpL.of_ints ns)
theorem RpL.bls : ∀ {ns : List Bool} {xs : List V}, RpL K G (ns.map D.bl) xs → xs = ns.map V.bl
  | [], _, h => by
    simp only [List.map_nil, RpL] at h
    exact h
  | n :: ns, _, h => by
    simp only [List.map_cons, RpL, Rp] at h
    obtain ⟨x, r, e1, e2, e3⟩ := h
    subst e1 e2
    rw [RpL.bls e3]
    rfl
end

/-! ### the whole heap H, its settled part G -/
def Hid : HO → Bool
  | .lst _ => true
  | .dK _ => true
  | .dT _ => true
  | .set _ _ => true
  | .frz _ u => Hid u
  | .ext _ => true
  | _ => false
structure Wf (H G : Hp) : Prop where
  sub : Same G H
  tin : ∀ b o, H b = some o → Hid o = false → G b = some o
structure Ext (H G H' G' : Hp) : Prop where
  hh : Same H H'
  gg : Same G G'
  wf : Wf H' G'
  new : ∀ b o, G' b = some o → G b = some o ∨ H b = none
theorem Ext.refl {H G : Hp} (w : Wf H G) : Ext H G H G := ⟨Same.refl H, Same.refl G, w, fun _ _ e => .inl e⟩
theorem Ext.trans {H G H1 G1 H2 G2 : Hp} (a : Ext H G H1 G1) (b : Ext H1 G1 H2 G2) : Ext H G H2 G2 := by
  refine ⟨a.hh.trans b.hh, a.gg.trans b.gg, b.wf, fun c o e => ?_⟩
  rcases b.new c o e with h | h
  · exact a.new c o h
  · exact .inr (a.hh.free h)
theorem wf_none {H G : Hp} (w : Wf H G) {p : Addr} (h : H p = none) : G p = none := w.sub.free h
theorem same_updN {H : Hp} {p : Addr} {o : HO} (h : H p = none) : Same H (upd H p o) := fun b x e => by
  rw [upd_ne (ne_of_none e h)]
  exact e
/-- a new settled object -/
theorem Ext.alloc {H G : Hp} (w : Wf H G) {p : Addr} {o : HO} (h : H p = none) : Ext H G (upd H p o) (upd G p o) := by
  refine ⟨same_updN h, same_updN (wf_none w h), ⟨fun b x e => ?_, fun b x e hh => ?_⟩, fun b x e => ?_⟩
  · by_cases hb : b = p
    · subst hb
      rw [upd_same] at e ⊢
      exact e
    · rw [upd_ne hb] at e ⊢
      exact w.sub b x e
  · by_cases hb : b = p
    · subst hb
      rw [upd_same] at e ⊢
      exact e
    · rw [upd_ne hb] at e ⊢
      exact w.tin b x e hh
  · by_cases hb : b = p
    · subst hb
      exact .inr h
    · rw [upd_ne hb] at e
      exact .inl e

/-- a new object that may still change -/
theorem Ext.fresh {H G : Hp} (w : Wf H G) {p : Addr} {o : HO} (h : H p = none) (ho : Hid o = true) : Ext H G (upd H p o) G := by
  refine ⟨same_updN h, Same.refl G, ⟨fun b x e => ?_, fun b x e hh => ?_⟩, fun b x e => .inl e⟩
  · have hb : b ≠ p := ne_of_none e (wf_none w h)
    rw [upd_ne hb]
    exact w.sub b x e
  · by_cases hb : b = p
    · subst hb
      rw [upd_same] at e
      cases e
      rw [ho] at hh
      cases hh
    · rw [upd_ne hb] at e
      exact w.tin b x e hh
/-- a value that is looked at: a list may be one that still changes -/
def RpB (K : PySem.W.Frag) (H G : Hp) : D → V → Prop
  | .lst ds, v => ∃ a xs, v = .ref a ∧ H a = some (.lst xs) ∧ RpL K G ds xs
  | .dic ds, v => ∃ a, v = .ref a ∧ ((∃ ks, H a = some (.dK ks) ∧ RpK K G ds ks) ∨ (∃ ks, H a = some (.dT ks) ∧ RpT K G ds ks))
  | d, v => Rp K G d v
theorem RpB.of {K : PySem.W.Frag} {H G : Hp} (w : Wf H G) {d : D} {v : V} (h : Rp K G d v) : RpB K H G d v := by
  cases d with
  | lst ds =>
    simp only [Rp] at h
    obtain ⟨a, xs, e1, e2, e3⟩ := h
    exact ⟨a, xs, e1, w.sub _ _ e2, e3⟩
  | dic ds =>
    simp only [Rp] at h
    obtain ⟨a, e1, h⟩ := h
    refine ⟨a, e1, ?_⟩
    rcases h with ⟨ks, e2, e3⟩ | ⟨ks, e2, e3⟩
    · exact .inl ⟨ks, w.sub _ _ e2, e3⟩
    · exact .inr ⟨ks, w.sub _ _ e2, e3⟩
  | _ => exact h
theorem RpB.ext {K : PySem.W.Frag} {H G H' G' : Hp} (x : Ext H G H' G') {d : D} {v : V} (h : RpB K H G d v) : RpB K H' G' d v := by
  cases d with
  | lst ds =>
    obtain ⟨a, xs, e1, e2, e3⟩ := h
    exact ⟨a, xs, e1, x.hh _ _ e2, RpL.mono x.gg _ _ e3⟩
  | dic ds =>
    obtain ⟨a, e1, h⟩ := h
    refine ⟨a, e1, ?_⟩
    rcases h with ⟨ks, e2, e3⟩ | ⟨ks, e2, e3⟩
    · exact .inl ⟨ks, x.hh _ _ e2, RpK.mono x.gg _ _ e3⟩
    · exact .inr ⟨ks, x.hh _ _ e2, RpT.mono x.gg _ _ e3⟩
  | non => exact Rp.mono (K := K) x.gg .non v h
  | bl b => exact Rp.mono (K := K) x.gg (.bl b) v h
  | int b => exact Rp.mono (K := K) x.gg (.int b) v h
  | str b => exact Rp.mono (K := K) x.gg (.str b) v h
  | tup b => exact Rp.mono (K := K) x.gg (.tup b) v h
  | scr b => exact Rp.mono (K := K) x.gg (.scr b) v h
/-- looked at as a whole, over the whole heap -/
theorem RpB.all {K : PySem.W.Frag} {H G : Hp} (w : Wf H G) {d : D} {v : V} (h : RpB K H G d v) : Rp K H d v := by
  cases d with
  | lst ds =>
    obtain ⟨a, xs, e1, e2, e3⟩ := h
    simp only [Rp]
    exact ⟨a, xs, e1, e2, RpL.mono w.sub _ _ e3⟩
  | dic ds =>
    obtain ⟨a, e1, h⟩ := h
    simp only [Rp]
    refine ⟨a, e1, ?_⟩
    rcases h with ⟨ks, e2, e3⟩ | ⟨ks, e2, e3⟩
    · exact .inl ⟨ks, e2, RpK.mono w.sub _ _ e3⟩
    · exact .inr ⟨ks, e2, RpT.mono w.sub _ _ e3⟩
  | non => exact Rp.mono (K := K) w.sub .non v h
  | bl b => exact Rp.mono (K := K) w.sub (.bl b) v h
  | int b => exact Rp.mono (K := K) w.sub (.int b) v h
  | str b => exact Rp.mono (K := K) w.sub (.str b) v h
  | tup b => exact Rp.mono (K := K) w.sub (.tup b) v h
  | scr b => exact Rp.mono (K := K) w.sub (.scr b) v h
def RpBL (K : PySem.W.Frag) (H G : Hp) : List D → List V → Prop
  | [], xs => xs = []
  | d :: ds, xs => ∃ x r, xs = x :: r ∧ RpB K H G d x ∧ RpBL K H G ds r
theorem RpBL.ext {K : PySem.W.Frag} {H G H' G' : Hp} (x : Ext H G H' G') : ∀ {ds : List D} {vs : List V}, RpBL K H G ds vs → RpBL K H' G' ds vs
  | [], _, h => h
  | d :: ds, _, h => by
    obtain ⟨y, r, e1, e2, e3⟩ := h
    exact ⟨y, r, e1, e2.ext x, RpBL.ext x e3⟩
theorem RpBL.of {K : PySem.W.Frag} {H G : Hp} (w : Wf H G) : ∀ {ds : List D} {vs : List V}, RpL K G ds vs → RpBL K H G ds vs
  | [], _, h => by
    simp only [RpL] at h
    exact h
  | d :: ds, _, h => by
    simp only [RpL] at h
    obtain ⟨y, r, e1, e2, e3⟩ := h
    exact ⟨y, r, e1, RpB.of w e2, RpBL.of w e3⟩

/-! ### slots -/
inductive Sl where
  | un | val (d : D) | own (ds : List D) | ownD (kvs : List (D × D))
abbrev Env' := List Sl
def Sl.isOwn : Sl → Bool
  | .own _ => true
  | .ownD _ => true
  | _ => false
def SlOk (K : PySem.W.Frag) (H0 H G : Hp) : Sl → Option V → Prop
  | .un, _ => True
  | .val d, x => ∃ v, x = some v ∧ Rp K G d v
  | .own ds, x => ∃ a xs, x = some (.ref a) ∧ H a = some (.lst xs) ∧ G a = none ∧ H0 a = none ∧ RpL K G ds xs
  | .ownD ds, x => ∃ a, x = some (.ref a) ∧ G a = none ∧ H0 a = none ∧ ((∃ ks, H a = some (.dK ks) ∧ RpK K G ds ks) ∨ (∃ ks, H a = some (.dT ks) ∧ RpT K G ds ks))
structure Ste (K : PySem.W.Frag) (H0 G0 H G : Hp) (σ : L2.St) (env : List Sl) : Prop where
  x0 : Ext H0 G0 H G
  len : σ.length = env.length
  sl : ∀ (i : Nat) (s : Sl) (x : Option V), env[i]? = some s → σ[i]? = some x → SlOk K H0 H G s x
  dis : ∀ (i j : Nat) (s t : Sl) (a : Addr), env[i]? = some s → env[j]? = some t → s.isOwn = true → t.isOwn = true → σ[i]? = some (some (.ref a)) → σ[j]? = some (some (.ref a)) → i = j
theorem Ste.wf {K : PySem.W.Frag} {H0 G0 H G : Hp} {σ : L2.St} {env : List Sl} (S : Ste K H0 G0 H G σ env) : Wf H G := S.x0.wf
theorem ext_none {H G H' G' : Hp} (x : Ext H G H' G') {a : Addr} {o : HO} (h : H a = some o) (g : G a = none) : G' a = none := by
  cases e : G' a with
  | none => rfl
  | some u =>
    rcases x.new a u e with h1 | h1
    · rw [g] at h1
      cases h1
    · rw [h] at h1
      cases h1
theorem SlOk.ext {K : PySem.W.Frag} {H0 H G H' G' : Hp} (x : Ext H G H' G') {s : Sl} {v : Option V} (h : SlOk K H0 H G s v) : SlOk K H0 H' G' s v := by
  cases s with
  | un => trivial
  | val d =>
    obtain ⟨y, e1, e2⟩ := h
    exact ⟨y, e1, Rp.mono x.gg _ _ e2⟩
  | own ds =>
    obtain ⟨a, xs, e1, e2, e3, e4, e5⟩ := h
    exact ⟨a, xs, e1, x.hh _ _ e2, ext_none x e2 e3, e4, RpL.mono x.gg _ _ e5⟩
  | ownD ds =>
    obtain ⟨a, e1, e3, e4, h⟩ := h
    rcases h with ⟨ks, e2, e5⟩ | ⟨ks, e2, e5⟩
    · exact ⟨a, e1, ext_none x e2 e3, e4, .inl ⟨ks, x.hh _ _ e2, RpK.mono x.gg _ _ e5⟩⟩
    · exact ⟨a, e1, ext_none x e2 e3, e4, .inr ⟨ks, x.hh _ _ e2, RpT.mono x.gg _ _ e5⟩⟩
theorem Ste.ext {K : PySem.W.Frag} {H0 G0 H G H' G' : Hp} {σ : L2.St} {env : List Sl} (S : Ste K H0 G0 H G σ env) (x : Ext H G H' G') : Ste K H0 G0 H' G' σ env :=
  ⟨S.x0.trans x, S.len, fun i s v e1 e2 => (S.sl i s v e1 e2).ext x, S.dis⟩
theorem Ste.at {K : PySem.W.Frag} {H0 G0 H G : Hp} {σ : L2.St} {env : List Sl} (S : Ste K H0 G0 H G σ env) {i : Nat} {s : Sl} (e : env[i]? = some s) : ∃ x, σ[i]? = some x ∧ SlOk K H0 H G s x := by
  obtain ⟨hi, e1⟩ := List.getElem?_eq_some_iff.mp e
  have hl := S.len
  have hx : σ[i]? = some (σ[i]'(by omega)) := List.getElem?_eq_getElem (by omega)
  exact ⟨_, hx, S.sl i s _ e hx⟩
/-- a slot is given a settled value (or forgotten) -/
theorem Ste.setV {K : PySem.W.Frag} {H0 G0 H G : Hp} {σ : L2.St} {env : List Sl} (S : Ste K H0 G0 H G σ env) (i : Nat) {s : Sl} {x : Option V} (ns : s.isOwn = false) (h : SlOk K H0 H G s x) : Ste K H0 G0 H G (σ.set i x) (env.set i s) := by
  refine ⟨S.x0, by simpa using S.len, fun j t y e1 e2 => ?_, fun j k s1 s2 a e1 e2 o1 o2 v1 v2 => ?_⟩
  · by_cases hj : i = j
    · subst hj
      obtain ⟨hi, e1'⟩ := List.getElem?_eq_some_iff.mp e1
      obtain ⟨hi2, e2'⟩ := List.getElem?_eq_some_iff.mp e2
      rw [List.getElem_set_self] at e1' e2'
      subst e1' e2'
      exact h
    · rw [List.getElem?_set_ne hj] at e1 e2
      exact S.sl j t y e1 e2
  · by_cases hj : i = j
    · subst hj
      obtain ⟨hi, e1'⟩ := List.getElem?_eq_some_iff.mp e1
      rw [List.getElem_set_self] at e1'
      subst e1'
      rw [ns] at o1
      cases o1
    · by_cases hk : i = k
      · subst hk
        obtain ⟨hi, e2'⟩ := List.getElem?_eq_some_iff.mp e2
        rw [List.getElem_set_self] at e2'
        subst e2'
        rw [ns] at o2
        cases o2
      · rw [List.getElem?_set_ne hj] at e1 v1
        rw [List.getElem?_set_ne hk] at e2 v2
        exact S.dis j k s1 s2 a e1 e2 o1 o2 v1 v2
/-- a slot is given a new object that is its own -/
theorem Ste.setO {K : PySem.W.Frag} {H0 G0 H G : Hp} {σ : L2.St} {env : List Sl} (S : Ste K H0 G0 H G σ env) (i : Nat) {s : Sl} {a : Addr} (h : SlOk K H0 H G s (some (.ref a)))
    (fr : ∀ (j : Nat) (t : Sl), j ≠ i → env[j]? = some t → t.isOwn = true → σ[j]? ≠ some (some (.ref a))) : Ste K H0 G0 H G (σ.set i (some (.ref a))) (env.set i s) := by
  refine ⟨S.x0, by simpa using S.len, fun j t y e1 e2 => ?_, fun j k s1 s2 b e1 e2 o1 o2 v1 v2 => ?_⟩
  · by_cases hj : i = j
    · subst hj
      obtain ⟨hi, e1'⟩ := List.getElem?_eq_some_iff.mp e1
      obtain ⟨hi2, e2'⟩ := List.getElem?_eq_some_iff.mp e2
      rw [List.getElem_set_self] at e1' e2'
      subst e1' e2'
      exact h
    · rw [List.getElem?_set_ne hj] at e1 e2
      exact S.sl j t y e1 e2
  · by_cases hj : i = j
    · by_cases hk : i = k
      · rw [← hj, ← hk]
      · subst hj
        obtain ⟨hi2, e2'⟩ := List.getElem?_eq_some_iff.mp v1
        rw [List.getElem_set_self] at e2'
        cases e2'
        rw [List.getElem?_set_ne hk] at e2 v2
        exact absurd v2 (fr k s2 (fun q => hk q.symm) e2 o2)
    · by_cases hk : i = k
      · subst hk
        obtain ⟨hi2, e2'⟩ := List.getElem?_eq_some_iff.mp v2
        rw [List.getElem_set_self] at e2'
        cases e2'
        rw [List.getElem?_set_ne hj] at e1 v1
        exact absurd v1 (fr j s1 (fun q => hj q.symm) e1 o1)
      · rw [List.getElem?_set_ne hj] at e1 v1
        rw [List.getElem?_set_ne hk] at e2 v2
        exact S.dis j k s1 s2 b e1 e2 o1 o2 v1 v2
end PD

set_option Elab.async false
set_option linter.all false
set_option maxRecDepth 100000
namespace PD
open PySem PySem.Spec PyProof.Rows L2

/-! ### what an expression gives -/
abbrev Fe := List Sl → Option D
abbrev Fb := List Sl → Option Bool
abbrev Fl := List Sl → Option (List D)
def tD (K : PySem.W.Frag) (f : Fe) : TE := fun σ H Q => ∃ H0 G0 G env d, Ste K H0 G0 H G σ env ∧ f env = some d ∧ ∀ v H' G', Ext H G H' G' → Rp K G' d v → Q v H'
def tB (K : PySem.W.Frag) (f : Fe) : TE := fun σ H Q => ∃ H0 G0 G env d, Ste K H0 G0 H G σ env ∧ f env = some d ∧ ∀ v H' G', Ext H G H' G' → RpB K H' G' d v → Q v H'
def tT (K : PySem.W.Frag) (f : Fb) : TT := fun σ H Q => ∃ H0 G0 G env b, Ste K H0 G0 H G σ env ∧ f env = some b ∧ ∀ H' G', Ext H G H' G' → Q b H'
def tA (K : PySem.W.Frag) (f : Fl) : TA := fun σ H Q => ∃ H0 G0 G env ds, Ste K H0 G0 H G σ env ∧ f env = some ds ∧ ∀ vs H' G', Ext H G H' G' → RpL K G' ds vs → Q vs H'
def tAB (K : PySem.W.Frag) (f : Fl) : TA := fun σ H Q => ∃ H0 G0 G env ds, Ste K H0 G0 H G σ env ∧ f env = some ds ∧ ∀ vs H' G', Ext H G H' G' → RpBL K H' G' ds vs → Q vs H'
abbrev EX (X : Cx) (e : Expr) (f : Fe) : Prop := PE X e (tD X.K f)
abbrev BX (X : Cx) (e : Expr) (f : Fe) : Prop := PE X e (tB X.K f)
abbrev TX (X : Cx) (e : Expr) (f : Fb) : Prop := PT X e (tT X.K f)
abbrev AX (X : Cx) (es : List Expr) (f : Fl) : Prop := PA X es (tA X.K f)
abbrev ABX (X : Cx) (es : List Expr) (f : Fl) : Prop := PA X es (tAB X.K f)
theorem pe_imp {X : Cx} {e : Expr} {t t' : TE} (h : PE X e t) (i : ∀ σ H Q, t' σ H Q → t σ H Q) : PE X e t' := ⟨fun pins s σ H Q I q => h.run pins s σ H Q I (i σ H Q q)⟩
theorem pt_imp {X : Cx} {e : Expr} {t t' : TT} (h : PT X e t) (i : ∀ σ H Q, t' σ H Q → t σ H Q) : PT X e t' := ⟨fun pins s σ H Q I q => h.run pins s σ H Q I (i σ H Q q)⟩
theorem pa_imp {X : Cx} {es : List Expr} {t t' : TA} (h : PA X es t) (i : ∀ σ H Q, t' σ H Q → t σ H Q) : PA X es t' := ⟨fun pos pins s σ H Q I q => h.run pos pins s σ H Q I (i σ H Q q)⟩
theorem _root_.L2.OpR.imp {X : Cx} {f : Value → Value → Sem Value} {r r' : R2} (h : OpR X f r) (i : ∀ x y H Q, r' x y H Q → r x y H Q) : OpR X f r' := fun pins s σ H x y v u Q I rx ry q => h pins s σ H x y v u Q I rx ry (i x y H Q q)
theorem _root_.L2.CallR.imp {X : Cx} {f : Value} {r r' : List V → Hp → VK → Prop} (h : CallR X f r) (i : ∀ xs H Q, r' xs H Q → r xs H Q) : CallR X f r' := fun pins s σ H xs us Q I rx q => h pins s σ H xs us Q I rx (i xs H Q q)

section
variable {X : Cx} {e a b : Expr} {fa fb : Fe} {pos : Pos}
theorem bx (h : EX X e fa) : BX X e fa := by
  refine pe_imp h fun σ H Q q => ?_
  obtain ⟨H0, G0, G, env, d, S, e1, q⟩ := q
  exact ⟨H0, G0, G, env, d, S, e1, fun v H' G' x r => q v H' G' x (RpB.of x.wf r)⟩
def eVar (i : Nat) : Fe := fun env => match env[i]? with
  | some (.val d) => some d
  | _ => none
def bVar (i : Nat) : Fe := fun env => match env[i]? with
  | some (.val d) => some d
  | some (.own ds) => some (.lst ds)
  | some (.ownD ds) => some (.dic ds)
  | _ => none
def eC (d : D) : Fe := fun _ => some d
theorem ex_var {i : Nat} {x : Str} (hN : X.N[i]? = some x) (hv : Vis X.env.scope x) (hd : (x == ("__debug__" : Str)) = false := by decide) (hcd : (x == ("__classdict__" : Str)) = false := by decide) : EX X (.Name x pos) (eVar i) := by
  refine pe_imp (pe_var hN hv hd hcd) fun σ H Q q => ?_
  obtain ⟨H0, G0, G, env, d, S, e1, q⟩ := q
  unfold eVar at e1
  cases hs : env[i]? with
  | none => rw [hs] at e1; cases e1
  | some s =>
    rw [hs] at e1
    cases s with
    | val d' =>
      simp only [Option.some.injEq] at e1
      subst e1
      obtain ⟨y, h1, v, h2, h3⟩ := S.at hs
      subst h2
      exact ⟨v, h1, q v H G (Ext.refl S.wf) h3⟩
    | _ => cases e1
theorem bx_var {i : Nat} {x : Str} (hN : X.N[i]? = some x) (hv : Vis X.env.scope x) (hd : (x == ("__debug__" : Str)) = false := by decide) (hcd : (x == ("__classdict__" : Str)) = false := by decide) : BX X (.Name x pos) (bVar i) := by
  refine pe_imp (pe_var hN hv hd hcd) fun σ H Q q => ?_
  obtain ⟨H0, G0, G, env, d, S, e1, q⟩ := q
  unfold bVar at e1
  cases hs : env[i]? with
  | none => rw [hs] at e1; cases e1
  | some s =>
    rw [hs] at e1
    obtain ⟨y, h1, h4⟩ := S.at hs
    cases s with
    | val d' =>
      simp only [Option.some.injEq] at e1
      subst e1
      obtain ⟨v, h2, h3⟩ := h4
      subst h2
      exact ⟨v, h1, q v H G (Ext.refl S.wf) (RpB.of S.wf h3)⟩
    | own ds =>
      simp only [Option.some.injEq] at e1
      subst e1
      obtain ⟨a, xs, h2, h3, h5, h6, h7⟩ := h4
      subst h2
      exact ⟨_, h1, q _ H G (Ext.refl S.wf) ⟨a, xs, rfl, h3, h7⟩⟩
    | ownD ds =>
      simp only [Option.some.injEq] at e1
      subst e1
      obtain ⟨a, h2, h5, h6, h7⟩ := h4
      subst h2
      exact ⟨_, h1, q _ H G (Ext.refl S.wf) ⟨a, rfl, h7⟩⟩
    | un => cases e1
theorem ex_c {d : D} {v : V} (h : PE X e (tC v)) (r : ∀ K G, Rp K G d v) : EX X e (eC d) := by
  refine pe_imp h fun σ H Q q => ?_
  obtain ⟨H0, G0, G, env, d', S, e1, q⟩ := q
  cases e1
  exact q v H G (Ext.refl S.wf) (r _ _)
theorem ex_int {i j} : EX X (.Constant (.int i) j pos) (eC (.int i)) := ex_c pe_int fun _ _ => by simp only [Rp]
theorem ex_bl {i j} : EX X (.Constant (.bool i) j pos) (eC (.bl i)) := ex_c pe_bl fun _ _ => by simp only [Rp]
theorem ex_non {j} : EX X (.Constant .none j pos) (eC .non) := ex_c pe_non fun _ _ => by simp only [Rp]
theorem ex_str {x j} : EX X (.Constant (.str x) j pos) (eC (.str x)) := ex_c pe_str fun _ _ => by simp only [Rp]
/-- a constant of the module -/
theorem ex_globI {x : Str} {i : Int} {u : Value} (hg : Gl X x) (hm : X.mg x = some u) (r : RelV (.int i) u) (hd : (x == ("__debug__" : Str)) = false := by decide) : EX X (.Name x pos) (eC (.int i)) := ex_c (pe_glob hg hm r hd) fun _ _ => by simp only [Rp]

/-! ### two-place operations -/
def rD (K : PySem.W.Frag) (g : D → D → Option D) : R2 := fun x y H Q => ∃ G dx dy d, Wf H G ∧ RpB K H G dx x ∧ RpB K H G dy y ∧ g dx dy = some d ∧ ∀ v H' G', Ext H G H' G' → Rp K G' d v → Q v H'
def eOp (g : D → D → Option D) (fa fb : Fe) : Fe := fun env => (fa env).bind fun x => (fb env).bind fun y => g x y
theorem tOp_imp {g : D → D → Option D} {σ : L2.St} {H : Hp} {Q : VK} (q : tD X.K (eOp g fa fb) σ H Q) : tOp (rD X.K g) (tB X.K fa) (tB X.K fb) σ H Q := by
  obtain ⟨H0, G0, G, env, d, S, e1, q⟩ := q
  obtain ⟨dx, h1, e1⟩ := Option.bind_eq_some_iff.mp e1
  obtain ⟨dy, h2, e1⟩ := Option.bind_eq_some_iff.mp e1
  exact ⟨H0, G0, G, env, dx, S, h1, fun v H1 G1 x1 r1 => ⟨H0, G0, G1, env, dy, S.ext x1, h2, fun w H2 G2 x2 r2 =>
    ⟨G2, dx, dy, d, x2.wf, r1.ext x2, r2, e1, fun u H3 G3 x3 r3 => q u H3 G3 (x1.trans (x2.trans x3)) r3⟩⟩⟩
theorem ex_op {op : Operator} {g : D → D → Option D} (ho : OpR X (binaryOp op) (rD X.K g)) (ha : BX X a fa) (hb : BX X b fb) : EX X (.BinOp a op b pos) (eOp g fa fb) :=
  pe_imp (pe_op ho ha hb) fun _ _ _ q => tOp_imp q
theorem ex_cmp {op : CmpOp} {g : D → D → Option D} (ho : OpR X (compareOp op) (rD X.K g)) (ha : BX X a fa) (hb : BX X b fb) (hm : behindInMarks op b = false) : EX X (.Compare a [op] [b] pos) (eOp g fa fb) :=
  pe_imp (pe_cmpR ho ha hb hm) fun _ _ _ q => tOp_imp q
/-- a truth value as a test -/
def asB (f : Fe) : Fb := fun env => match f env with
  | some (.bl b) => some b
  | _ => none
theorem asB_imp {f : Fe} {σ : L2.St} {H : Hp} {Q : Bool → Hp → Prop} (q : tT X.K (asB f) σ H Q) : tD X.K f σ H fun x H' => ∃ k, x = .bl k ∧ Q k H' := by
  obtain ⟨H0, G0, G, env, k, S, e1, q⟩ := q
  unfold asB at e1
  cases hf : f env with
  | none => rw [hf] at e1; cases e1
  | some d =>
    rw [hf] at e1
    cases d with
    | bl b' =>
      simp only [Option.some.injEq] at e1
      subst e1
      refine ⟨H0, G0, G, env, _, S, hf, fun v H' G' x r => ?_⟩
      simp only [Rp] at r
      exact ⟨_, r, q H' G' x⟩
    | _ => cases e1
theorem tx_cmp {op : CmpOp} {g : D → D → Option D} (ho : OpR X (compareOp op) (rD X.K g)) (ha : BX X a fa) (hb : BX X b fb) (hm : behindInMarks op b = false) : TX X (.Compare a [op] [b] pos) (asB (eOp g fa fb)) :=
  pt_imp (pt_cmpR ho ha hb hm) fun _ _ _ q => by
    have q := asB_imp q
    exact tOp_imp (Q := fun x H' => ∃ k, x = .bl k ∧ _) q
theorem tx_val {f : Fe} (h : EX X e f) (he : ∀ whole, isTrue e X.env whole = (do let v ← whole; standAt e.pos; holding [v] (truthy v)) := by intro _; rfl) : TX X e (asB f) :=
  pt_imp (pt_val h he) fun _ _ _ q => asB_imp q
/-- truth of any value -/
def truD : D → Option Bool
  | .non => some false
  | .bl b => some b
  | .int i => some (i != 0)
  | .lst xs => some (!xs.isEmpty)
  | .tup xs => some (!xs.isEmpty)
  | .str x => if x.length ≤ 16777216 then some ((x.length : Int) != 0) else none
  | _ => none
def asT (f : Fe) : Fb := fun env => (f env).bind truD
theorem rpl_isEmpty {K : PySem.W.Frag} {G : Hp} {ds : List D} {xs : List V} (h : RpL K G ds xs) : ds.isEmpty = xs.isEmpty := by
  have := h.len
  cases ds <;> cases xs <;> simp_all
theorem tx_tru {f : Fe} (h : BX X e f) (he : ∀ whole, isTrue e X.env whole = (do let v ← whole; standAt e.pos; holding [v] (truthy v)) := by intro _; rfl) : TX X e (asT f) :=
  pt_imp (pt_truth h he) fun σ H Q q => by
    obtain ⟨H0, G0, G, env, k, S, e1, q⟩ := q
    obtain ⟨d, h1, e1⟩ := Option.bind_eq_some_iff.mp e1
    refine ⟨H0, G0, G, env, d, S, h1, fun v H' G' x r => ?_⟩
    have q := q H' G' x
    have sub := x.wf.sub
    cases d with
    | non =>
      have r : v = .non := by simpa only [RpB, Rp] using r
      subst r
      cases e1
      exact ⟨_, rfl, q⟩
    | bl b =>
      have r : v = .bl b := by simpa only [RpB, Rp] using r
      subst r
      cases e1
      exact ⟨_, rfl, q⟩
    | int b =>
      have r : v = .int b := by simpa only [RpB, Rp] using r
      subst r
      cases e1
      exact ⟨_, rfl, q⟩
    | str y =>
      have r : v = .str y := by simpa only [RpB, Rp] using r
      subst r
      simp only [truD] at e1
      split at e1
      · rename_i hy
        cases e1
        exact ⟨_, ⟨by rw [sizeLine_eq]; exact hy, rfl⟩, q⟩
      · cases e1
    | lst ds =>
      obtain ⟨a, xs, rfl, h2, h3⟩ := r
      cases e1
      exact ⟨_, .inl ⟨xs, SqL.of h2, by rw [rpl_isEmpty h3]⟩, q⟩
    | tup ds =>
      obtain ⟨a, xs, rfl, h2, h3⟩ : ∃ a xs, v = .ref a ∧ SqT X.K G' a xs ∧ RpL X.K G' ds xs := by simpa only [RpB, Rp] using r
      cases e1
      exact ⟨_, .inr (.inl ⟨xs, Same.tup sub h2, by rw [rpl_isEmpty h3]⟩), q⟩
    | dic ds => cases e1
    | scr ns => cases e1

/-! ### and, or, not, if -/
variable {f g h : Fb} {rest : List Expr}
def tAndF (f g : Fb) : Fb := fun env => (f env).bind fun k => if k then g env else some false
def tOrF (f g : Fb) : Fb := fun env => (f env).bind fun k => if k then some true else g env
def tNotF (f : Fb) : Fb := fun env => (f env).bind fun k => some (!k)
abbrev WX (X : Cx) (e : Expr) (f : Fb) : Prop := PW X e (tT X.K f)
theorem pw_imp {X : Cx} {e : Expr} {t t' : TT} (h : PW X e t) (i : ∀ σ H Q, t' σ H Q → t σ H Q) : PW X e t' := ⟨fun wh pins s σ H Q I q => h.run wh pins s σ H Q I (i σ H Q q)⟩
theorem wx_and1 (ha : TX X a f) : WX X (.BoolOp .And [a] pos) f := pw_and1 ha
theorem wx_or1 (ha : TX X a f) : WX X (.BoolOp .Or [a] pos) f := pw_or1 ha
theorem wx_and (ha : TX X a f) (hb : WX X (.BoolOp .And (b :: rest) pos) g) : WX X (.BoolOp .And (a :: b :: rest) pos) (tAndF f g) :=
  pw_imp (pw_and ha hb) fun σ H Q q => by
    obtain ⟨H0, G0, G, env, k, S, e1, q⟩ := q
    obtain ⟨c, h1, e1⟩ := Option.bind_eq_some_iff.mp e1
    refine ⟨H0, G0, G, env, c, S, h1, fun H1 G1 x1 => ?_⟩
    cases c with
    | true => exact ⟨H0, G0, G1, env, k, S.ext x1, e1, fun H2 G2 x2 => q H2 G2 (x1.trans x2)⟩
    | false =>
      cases e1
      exact q H1 G1 x1
theorem wx_or (ha : TX X a f) (hb : WX X (.BoolOp .Or (b :: rest) pos) g) : WX X (.BoolOp .Or (a :: b :: rest) pos) (tOrF f g) :=
  pw_imp (pw_or ha hb) fun σ H Q q => by
    obtain ⟨H0, G0, G, env, k, S, e1, q⟩ := q
    obtain ⟨c, h1, e1⟩ := Option.bind_eq_some_iff.mp e1
    refine ⟨H0, G0, G, env, c, S, h1, fun H1 G1 x1 => ?_⟩
    cases c with
    | false => exact ⟨H0, G0, G1, env, k, S.ext x1, e1, fun H2 G2 x2 => q H2 G2 (x1.trans x2)⟩
    | true =>
      cases e1
      exact q H1 G1 x1
theorem tx_not (ha : TX X a f) : TX X (.UnaryOp .Not a pos) (tNotF f) :=
  pt_imp (pt_not ha) fun σ H Q q => by
    obtain ⟨H0, G0, G, env, k, S, e1, q⟩ := q
    obtain ⟨c, h1, e1⟩ := Option.bind_eq_some_iff.mp e1
    cases e1
    exact ⟨H0, G0, G, env, c, S, h1, fun H1 G1 x1 => q H1 G1 x1⟩
/-- and, or, not of truth values, as values -/
def eAnd (f g : Fe) : Fe := fun env => match f env with
  | some (.bl true) => g env
  | some (.bl false) => some (.bl false)
  | _ => none
def eOr (f g : Fe) : Fe := fun env => match f env with
  | some (.bl true) => some (.bl true)
  | some (.bl false) => g env
  | _ => none
def eNot (f : Fe) : Fe := fun env => match f env with
  | some (.bl b) => some (.bl !b)
  | _ => none
variable {ff fg : Fe}
theorem ex_one {op} (h : EX X a ff) : EX X (.BoolOp op [a] pos) ff := pe_one h
theorem ex_and (ha : EX X a ff) (hb : EX X (.BoolOp .And (b :: rest) pos) fg) : EX X (.BoolOp .And (a :: b :: rest) pos) (eAnd ff fg) :=
  pe_imp (pe_and ha hb) fun σ H Q q => by
    obtain ⟨H0, G0, G, env, d, S, e1, q⟩ := q
    unfold eAnd at e1
    cases hf : ff env with
    | none => rw [hf] at e1; cases e1
    | some c =>
      rw [hf] at e1
      cases c with
      | bl k =>
        refine ⟨H0, G0, G, env, _, S, hf, fun v H1 G1 x1 r1 => ?_⟩
        simp only [Rp] at r1
        refine ⟨k, r1, ?_⟩
        cases k with
        | true => exact ⟨H0, G0, G1, env, d, S.ext x1, e1, fun w H2 G2 x2 r2 => q w H2 G2 (x1.trans x2) r2⟩
        | false =>
          cases e1
          exact q _ H1 G1 x1 (by simp only [Rp])
      | _ => cases e1
theorem ex_or (ha : EX X a ff) (hb : EX X (.BoolOp .Or (b :: rest) pos) fg) : EX X (.BoolOp .Or (a :: b :: rest) pos) (eOr ff fg) :=
  pe_imp (pe_or ha hb) fun σ H Q q => by
    obtain ⟨H0, G0, G, env, d, S, e1, q⟩ := q
    unfold eOr at e1
    cases hf : ff env with
    | none => rw [hf] at e1; cases e1
    | some c =>
      rw [hf] at e1
      cases c with
      | bl k =>
        refine ⟨H0, G0, G, env, _, S, hf, fun v H1 G1 x1 r1 => ?_⟩
        simp only [Rp] at r1
        refine ⟨k, r1, ?_⟩
        cases k with
        | false => exact ⟨H0, G0, G1, env, d, S.ext x1, e1, fun w H2 G2 x2 r2 => q w H2 G2 (x1.trans x2) r2⟩
        | true =>
          cases e1
          exact q _ H1 G1 x1 (by simp only [Rp])
      | _ => cases e1
theorem ex_not (ha : EX X a ff) : EX X (.UnaryOp .Not a pos) (eNot ff) :=
  pe_imp (pe_not ha) fun σ H Q q => by
    obtain ⟨H0, G0, G, env, d, S, e1, q⟩ := q
    unfold eNot at e1
    cases hf : ff env with
    | none => rw [hf] at e1; cases e1
    | some c =>
      rw [hf] at e1
      cases c with
      | bl k =>
        simp only [Option.some.injEq] at e1
        subst e1
        refine ⟨H0, G0, G, env, _, S, hf, fun v H1 G1 x1 r1 => ?_⟩
        simp only [Rp] at r1
        exact ⟨k, r1, q _ H1 G1 x1 (by simp only [Rp])⟩
      | _ => cases e1
def eIf (c : Fb) (f g : Fe) : Fe := fun env => (c env).bind fun k => if k then f env else g env
theorem ex_if {c : Expr} (hc : TX X c f) (ha : EX X a ff) (hb : EX X b fg) : EX X (.IfExp c a b pos) (eIf f ff fg) :=
  pe_imp (pe_ifExp hc ha hb) fun σ H Q q => by
    obtain ⟨H0, G0, G, env, d, S, e1, q⟩ := q
    obtain ⟨k, h1, e1⟩ := Option.bind_eq_some_iff.mp e1
    refine ⟨H0, G0, G, env, k, S, h1, fun H1 G1 x1 => ?_⟩
    cases k with
    | true => exact ⟨H0, G0, G1, env, d, S.ext x1, e1, fun w H2 G2 x2 r2 => q w H2 G2 (x1.trans x2) r2⟩
    | false => exact ⟨H0, G0, G1, env, d, S.ext x1, e1, fun w H2 G2 x2 r2 => q w H2 G2 (x1.trans x2) r2⟩

/-! ### argument lists, displays -/
def aNil : Fl := fun _ => some []
def aCons (f : Fe) (g : Fl) : Fl := fun env => (f env).bind fun d => (g env).bind fun ds => some (d :: ds)
variable {es : List Expr} {fl : Fl}
theorem ax_nil : AX X [] aNil := pa_imp pa_nil fun σ H Q q => by
  obtain ⟨H0, G0, G, env, ds, S, e1, q⟩ := q
  cases e1
  exact q _ H G (Ext.refl S.wf) RpL.nil
theorem abx_nil : ABX X [] aNil := pa_imp pa_nil fun σ H Q q => by
  obtain ⟨H0, G0, G, env, ds, S, e1, q⟩ := q
  cases e1
  exact q _ H G (Ext.refl S.wf) rfl
theorem ax_cons (ha : EX X e ff) (hr : AX X es fl) (hs : starEach (e :: es) X.env = (false, eval e X.env) :: starEach es X.env := by rfl) : AX X (e :: es) (aCons ff fl) :=
  pa_imp (pa_cons ha hr hs) fun σ H Q q => by
    obtain ⟨H0, G0, G, env, ds, S, e1, q⟩ := q
    obtain ⟨d, h1, e1⟩ := Option.bind_eq_some_iff.mp e1
    obtain ⟨r, h2, e1⟩ := Option.bind_eq_some_iff.mp e1
    cases e1
    exact ⟨H0, G0, G, env, d, S, h1, fun v H1 G1 x1 r1 => ⟨H0, G0, G1, env, r, S.ext x1, h2, fun vs H2 G2 x2 r2 => q _ H2 G2 (x1.trans x2) (RpL.cons (Rp.mono x2.gg _ _ r1) r2)⟩⟩
theorem abx_cons (ha : BX X e ff) (hr : ABX X es fl) (hs : starEach (e :: es) X.env = (false, eval e X.env) :: starEach es X.env := by rfl) : ABX X (e :: es) (aCons ff fl) :=
  pa_imp (pa_cons ha hr hs) fun σ H Q q => by
    obtain ⟨H0, G0, G, env, ds, S, e1, q⟩ := q
    obtain ⟨d, h1, e1⟩ := Option.bind_eq_some_iff.mp e1
    obtain ⟨r, h2, e1⟩ := Option.bind_eq_some_iff.mp e1
    cases e1
    exact ⟨H0, G0, G, env, d, S, h1, fun v H1 G1 x1 r1 => ⟨H0, G0, G1, env, r, S.ext x1, h2, fun vs H2 G2 x2 r2 => q _ H2 G2 (x1.trans x2) ⟨_, _, rfl, r1.ext x2, r2⟩⟩⟩
/-- a size that the machine takes -/
def lim (n : Nat) : Bool := decide (n ≤ 16777216)
theorem lim_le {n : Nat} (h : lim n = true) : n ≤ sizeLine := by
  rw [sizeLine_eq]
  exact of_decide_eq_true h
def mkT (ds : List D) : Option D := if lim ds.length then some (.tup ds) else none
def mkL (ds : List D) : Option D := if lim ds.length then some (.lst ds) else none
def eTup (f : Fl) : Fe := fun env => (f env).bind mkT
def eLst (f : Fl) : Fe := fun env => (f env).bind mkL
theorem mkT_some {ds : List D} {d : D} (h : mkT ds = some d) : ds.length ≤ sizeLine ∧ d = .tup ds := by
  unfold mkT at h
  split at h
  · cases h
    exact ⟨lim_le (by assumption), rfl⟩
  · cases h
theorem mkL_some {ds : List D} {d : D} (h : mkL ds = some d) : ds.length ≤ sizeLine ∧ d = .lst ds := by
  unfold mkL at h
  split at h
  · cases h
    exact ⟨lim_le (by assumption), rfl⟩
  · cases h
/-- a new tuple, a new list -/
theorem new_tup {K : PySem.W.Frag} {H G : Hp} {ds : List D} {xs : List V} {Q : VK} (w : Wf H G) (r : RpL K G ds xs) (q : ∀ v H' G', Ext H G H' G' → Rp K G' (.tup ds) v → Q v H') : ∀ p, H p = none → Q (.ref p) (upd H p (.tup xs)) := fun p hp => by
  have x : Ext H G (upd H p (.tup xs)) (upd G p (.tup xs)) := Ext.alloc w hp
  refine q _ _ _ x ?_
  simp only [Rp]
  exact ⟨p, xs, rfl, SqT.of upd_same, RpL.mono x.gg _ _ r⟩
theorem new_lst {K : PySem.W.Frag} {H G : Hp} {ds : List D} {xs : List V} {Q : VK} (w : Wf H G) (r : RpL K G ds xs) (q : ∀ v H' G', Ext H G H' G' → Rp K G' (.lst ds) v → Q v H') : ∀ p, H p = none → Q (.ref p) (upd H p (.lst xs)) := fun p hp => by
  have x : Ext H G (upd H p (.lst xs)) (upd G p (.lst xs)) := Ext.alloc w hp
  refine q _ _ _ x ?_
  simp only [Rp]
  exact ⟨p, xs, rfl, upd_same, RpL.mono x.gg _ _ r⟩
theorem ex_tup {x1} (h : AX X es fl) : EX X (.Tuple es x1 pos) (eTup fl) :=
  pe_imp (pe_tup h) fun σ H Q q => by
    obtain ⟨H0, G0, G, env, d, S, e1, q⟩ := q
    obtain ⟨ds, h1, e1⟩ := Option.bind_eq_some_iff.mp e1
    obtain ⟨hz, rfl⟩ := mkT_some e1
    exact ⟨H0, G0, G, env, ds, S, h1, fun vs H1 G1 x1 r1 => ⟨by rw [← r1.len]; exact hz, new_tup x1.wf r1 fun v H2 G2 x2 r2 => q v H2 G2 (x1.trans x2) r2⟩⟩
theorem ex_lst (h : AX X es fl) : EX X (.List es pos) (eLst fl) :=
  pe_imp (pe_lst h) fun σ H Q q => by
    obtain ⟨H0, G0, G, env, d, S, e1, q⟩ := q
    obtain ⟨ds, h1, e1⟩ := Option.bind_eq_some_iff.mp e1
    obtain ⟨hz, rfl⟩ := mkL_some e1
    exact ⟨H0, G0, G, env, ds, S, h1, fun vs H1 G1 x1 r1 => ⟨by rw [← r1.len]; exact hz, new_lst x1.wf r1 fun v H2 G2 x2 r2 => q v H2 G2 (x1.trans x2) r2⟩⟩
end
end PD

set_option Elab.async false
set_option linter.all false
set_option maxRecDepth 100000
namespace PD
open PySem PySem.Spec PyProof.Rows L2

theorem rpb_int {K : PySem.W.Frag} {H G : Hp} {i : Int} {v : V} (r : RpB K H G (.int i) v) : v = .int i := by simpa only [RpB, Rp] using r
theorem rpb_bl {K : PySem.W.Frag} {H G : Hp} {i : Bool} {v : V} (r : RpB K H G (.bl i) v) : v = .bl i := by simpa only [RpB, Rp] using r
theorem rpb_str {K : PySem.W.Frag} {H G : Hp} {i : Str} {v : V} (r : RpB K H G (.str i) v) : v = .str i := by simpa only [RpB, Rp] using r
theorem rpb_non {K : PySem.W.Frag} {H G : Hp} {v : V} (r : RpB K H G .non v) : v = .non := by simpa only [RpB, Rp] using r
theorem rpb_tup {K : PySem.W.Frag} {H G : Hp} {ds : List D} {v : V} (r : RpB K H G (.tup ds) v) : ∃ a xs, v = .ref a ∧ SqT K G a xs ∧ RpL K G ds xs := by simpa only [RpB, Rp] using r
theorem rpb_scr {K : PySem.W.Frag} {H G : Hp} {ns : List Int} {v : V} (r : RpB K H G (.scr ns) v) : ∃ a, v = .ref a ∧ SqL K G a (ns.map V.int) := by simpa only [RpB, Rp] using r
theorem rp_int {K : PySem.W.Frag} {G : Hp} (i : Int) : Rp K G (.int i) (.int i) := by simp only [Rp]
theorem rp_bl {K : PySem.W.Frag} {G : Hp} (i : Bool) : Rp K G (.bl i) (.bl i) := by simp only [Rp]
theorem rp_str {K : PySem.W.Frag} {G : Hp} (i : Str) : Rp K G (.str i) (.str i) := by simp only [Rp]
theorem rp_non {K : PySem.W.Frag} {G : Hp} : Rp K G .non .non := by simp only [Rp]

section
variable {X : Cx}
/-- ints to a value, under a test -/
def gI (c : Int → Int → Bool) (g : Int → Int → D) : D → D → Option D
  | .int i, .int j => if c i j then some (g i j) else none
  | _, _ => none
theorem gI_some {c : Int → Int → Bool} {g : Int → Int → D} {x y d : D} (h : gI c g x y = some d) : ∃ i j, x = .int i ∧ y = .int j ∧ c i j = true ∧ d = g i j := by
  unfold gI at h
  split at h
  · split at h
    · cases h
      exact ⟨_, _, rfl, rfl, by assumption, rfl⟩
    · cases h
  · cases h
theorem op_gI {f : Value → Value → Sem Value} {C : Int → Int → Prop} {c : Int → Int → Bool} {k : Int → Int → V} {g : Int → Int → D} (h : OpR X f (rI C k)) (hc : ∀ i j, c i j = true → C i j) (hk : ∀ K G i j, Rp K G (g i j) (k i j)) : OpR X f (rD X.K (gI c g)) :=
  h.imp fun x y H Q q => by
    obtain ⟨G, dx, dy, d, w, rx, ry, e, q⟩ := q
    obtain ⟨i, j, rfl, rfl, hcc, rfl⟩ := gI_some e
    exact ⟨i, j, rpb_int rx, rpb_int ry, hc i j hcc, q _ H G (Ext.refl w) (hk _ _ _ _)⟩
theorem op_gI0 {f : Value → Value → Sem Value} {k : Int → Int → V} {g : Int → Int → D} (h : OpR X f (rI0 k)) (hk : ∀ K G i j, Rp K G (g i j) (k i j)) : OpR X f (rD X.K (gI (fun _ _ => true) g)) :=
  h.imp fun x y H Q q => by
    obtain ⟨G, dx, dy, d, w, rx, ry, e, q⟩ := q
    obtain ⟨i, j, rfl, rfl, hcc, rfl⟩ := gI_some e
    exact ⟨i, j, rpb_int rx, rpb_int ry, q _ H G (Ext.refl w) (hk _ _ _ _)⟩
/-- two ways for one operation -/
def gOr (g g' : D → D → Option D) : D → D → Option D := fun x y => match g x y with
  | some d => some d
  | none => g' x y
theorem op_or {f : Value → Value → Sem Value} {g g' : D → D → Option D} (h : OpR X f (rD X.K g)) (h' : OpR X f (rD X.K g')) : OpR X f (rD X.K (gOr g g')) :=
  (h.or h').imp fun x y H Q q => by
    obtain ⟨G, dx, dy, d, w, rx, ry, e, q⟩ := q
    unfold gOr at e
    cases hg : g dx dy with
    | some d' =>
      rw [hg] at e
      cases e
      exact .inl ⟨G, dx, dy, d, w, rx, ry, hg, q⟩
    | none =>
      rw [hg] at e
      exact .inr ⟨G, dx, dy, d, w, rx, ry, e, q⟩

/-! ### + -/
def gAdd : D → D → Option D
  | .int i, .int j => some (.int (i + j))
  | .str x, .str y => if lim (x.length + y.length) then some (.str (x ++ y)) else none
  | .lst xs, .lst ys => mkL (xs ++ ys)
  | .tup xs, .tup ys => mkT (xs ++ ys)
  | _, _ => none
theorem oadd : OpR X (binaryOp .Add) (rD X.K gAdd) := by
  refine ((op_add (X := X)).or (op_add_str.or (op_cat.or op_catA))).imp fun x y H Q q => ?_
  obtain ⟨G, dx, dy, d, w, rx, ry, e, q⟩ := q
  cases dx with
  | int i =>
    cases dy with
    | int j =>
      cases e
      exact .inl ⟨i, j, rpb_int rx, rpb_int ry, q _ H G (Ext.refl w) (rp_int _)⟩
    | _ => cases e
  | str i =>
    cases dy with
    | str j =>
      simp only [gAdd] at e
      split at e
      · rename_i hz
        cases e
        exact .inr (.inl ⟨i, j, rpb_str rx, rpb_str ry, lim_le hz, q _ H G (Ext.refl w) (rp_str _)⟩)
      · cases e
    | _ => cases e
  | lst ds =>
    cases dy with
    | lst es =>
      obtain ⟨hz, rfl⟩ := mkL_some (show mkL (ds ++ es) = some d from e)
      obtain ⟨a, xs, rfl, h1, h2⟩ := rx
      obtain ⟨b, ys, rfl, h3, h4⟩ := ry
      refine .inr (.inr (.inl ⟨a, b, xs, ys, rfl, rfl, h1, h3, ?_, new_lst w (h2.append h4) q⟩))
      rw [List.length_append, h2.len, h4.len] at hz
      exact hz
    | _ => cases e
  | tup ds =>
    cases dy with
    | tup es =>
      obtain ⟨hz, rfl⟩ := mkT_some (show mkT (ds ++ es) = some d from e)
      obtain ⟨a, xs, rfl, h1, h2⟩ := rpb_tup rx
      obtain ⟨b, ys, rfl, h3, h4⟩ := rpb_tup ry
      rw [List.length_append, h2.len, h4.len] at hz
      have hl := h2.len
      have hl4 := h4.len
      refine .inr (.inr (.inr ⟨a, b, xs, ys, rfl, rfl, Same.tup w.sub h1, Same.tup w.sub h3, hz, fun e1 => ?_, fun e1 e2 => ?_, fun e1 e2 => new_tup w (h2.append h4) q⟩))
      · subst e1
        have : ds = [] := by simpa using hl
        subst this
        refine q _ H G (Ext.refl w) ?_
        simp only [Rp, List.nil_append]
        exact ⟨b, ys, rfl, h3, h4⟩
      · subst e2
        have : es = [] := by simpa using hl4
        subst this
        refine q _ H G (Ext.refl w) ?_
        simp only [Rp, List.append_nil]
        exact ⟨a, xs, rfl, h1, h2⟩
    | _ => cases e
  | _ => cases e

/-! ### - * // % ** << >> & ^ and the bar -/
def gSub : D → D → Option D := gI (fun _ _ => true) fun i j => .int (i - j)
theorem osub : OpR X (binaryOp .Sub) (rD X.K gSub) := op_gI0 op_sub fun _ _ _ _ => rp_int _
def mulOk (i j : Int) : Bool := (decide (-18446744073709551616 < i) && decide (i < 18446744073709551616)) || (decide (-18446744073709551616 < j) && decide (j < 18446744073709551616))
theorem mulOk_C {i j : Int} (h : mulOk i j = true) : CMul i j := by
  unfold mulOk at h
  simp only [Bool.or_eq_true, Bool.and_eq_true, decide_eq_true_eq] at h
  unfold CMul
  omega
theorem RpL.rep {K : PySem.W.Frag} {G : Hp} {ds : List D} {xs : List V} (h : RpL K G ds xs) : ∀ k : Nat, RpL K G (List.replicate k ds).flatten (List.replicate k xs).flatten
  | 0 => RpL.nil
  | k + 1 => by
    rw [List.replicate_succ, List.replicate_succ, List.flatten_cons, List.flatten_cons]
    exact h.append (RpL.rep h k)
def gMul : D → D → Option D
  | .int i, .int j => if mulOk i j then some (.int (i * j)) else none
  | .lst xs, .int k => if decide (-1000000000 ≤ k) && decide (k ≤ 1000000000) && lim (xs.length * k.toNat) then some (.lst (List.replicate k.toNat xs).flatten) else none
  | .tup xs, .int k => if !xs.isEmpty && decide (2 ≤ k) && decide (k ≤ 1000) && decide (xs.length ≤ 1000) then some (.tup (List.replicate k.toNat xs).flatten) else none
  | _, _ => none
theorem omul : OpR X (binaryOp .Mult) (rD X.K gMul) := by
  refine ((op_mul (X := X)).or (op_rep.or op_repT)).imp fun x y H Q q => ?_
  obtain ⟨G, dx, dy, d, w, rx, ry, e, q⟩ := q
  cases dx with
  | int i =>
    cases dy with
    | int j =>
      simp only [gMul] at e
      split at e
      · rename_i hz
        cases e
        exact .inl ⟨i, j, rpb_int rx, rpb_int ry, mulOk_C hz, q _ H G (Ext.refl w) (rp_int _)⟩
      · cases e
    | _ => cases e
  | lst ds =>
    cases dy with
    | int k =>
      simp only [gMul] at e
      split at e
      · rename_i hz
        cases e
        simp only [Bool.and_eq_true, decide_eq_true_eq] at hz
        obtain ⟨⟨h5, h6⟩, h7⟩ := hz
        obtain ⟨a, xs, rfl, h1, h2⟩ := rx
        refine .inr (.inl ⟨a, k, xs, rfl, rpb_int ry, h1, by omega, by omega, ?_, new_lst w (h2.rep _) q⟩)
        rw [← h2.len]
        exact lim_le h7
      · cases e
    | _ => cases e
  | tup ds =>
    cases dy with
    | int k =>
      simp only [gMul] at e
      split at e
      · rename_i hz
        cases e
        simp only [Bool.and_eq_true, decide_eq_true_eq, Bool.not_eq_true'] at hz
        obtain ⟨⟨⟨h5, h6⟩, h7⟩, h8⟩ := hz
        obtain ⟨a, xs, rfl, h1, h2⟩ := rpb_tup rx
        refine .inr (.inr ⟨a, k, xs, rfl, rpb_int ry, Same.tup w.sub h1, ?_, h6, h7, ?_, new_tup w (h2.rep _) q⟩)
        · intro z
          subst z
          have := h2.len
          simp at this
          subst this
          cases h5
        · rw [← h2.len]
          exact h8
      · cases e
    | _ => cases e
  | _ => cases e
def gDiv : D → D → Option D := gI (fun _ j => decide (0 < j) && decide (j < 1073741824)) fun i j => .int (i / j)
theorem odiv : OpR X (binaryOp .FloorDiv) (rD X.K gDiv) := op_gI op_fdiv (fun i j h => by
  simp only [Bool.and_eq_true, decide_eq_true_eq] at h
  exact h) fun _ _ _ _ => rp_int _
def gMod : D → D → Option D := gI (fun _ j => decide (0 < j)) fun i j => .int (i % j)
theorem omod : OpR X (binaryOp .Mod) (rD X.K gMod) := op_gI op_mod (fun i j h => of_decide_eq_true h) fun _ _ _ _ => rp_int _
def powOk (i j : Int) : Bool := decide (0 ≤ j) && decide (j ≤ 1000000) && decide (i.natAbs < 18446744073709551616)
theorem powOk_C {i j : Int} (h : powOk i j = true) : CPow i j := by
  unfold powOk at h
  simp only [Bool.and_eq_true, decide_eq_true_eq] at h
  exact ⟨h.1.1, h.1.2, by omega⟩
def gPow : D → D → Option D := gI powOk fun i j => .int (i ^ j.toNat)
theorem opow : OpR X (binaryOp .Pow) (rD X.K gPow) := op_gI op_pow (fun i j h => powOk_C h) fun _ _ _ _ => rp_int _
def gShl : D → D → Option D := gI powOk fun i j => .int (i * 2 ^ j.toNat)
theorem oshl : OpR X (binaryOp .LShift) (rD X.K gShl) := op_gI op_shl (fun i j h => powOk_C h) fun _ _ _ _ => rp_int _
def gShr : D → D → Option D := gI (fun _ j => decide (0 ≤ j)) fun i j => .int (i / 2 ^ j.toNat)
theorem oshr : OpR X (binaryOp .RShift) (rD X.K gShr) := op_gI op_shr (fun i j h => of_decide_eq_true h) fun _ _ _ _ => rp_int _
def gAnd : D → D → Option D := gI (fun _ _ => true) fun i j => .int (Builtin.bitAnd i j)
theorem oand : OpR X (binaryOp .BitAnd) (rD X.K gAnd) := op_gI0 op_and fun _ _ _ _ => rp_int _
def gXor : D → D → Option D := gI (fun _ _ => true) fun i j => .int (Builtin.bitXor i j)
theorem oxor : OpR X (binaryOp .BitXor) (rD X.K gXor) := op_gI0 op_xor fun _ _ _ _ => rp_int _
def gBor : D → D → Option D := gI (fun _ _ => true) fun i j => .int (Builtin.bitOr i j)
theorem obor : OpR X (binaryOp .BitOr) (rD X.K gBor) := op_gI0 L2.op_or fun _ _ _ _ => rp_int _

/-! ### == of data -/
mutual
def py : D → PyData
  | .non => .none
  | .bl b => .bool b
  | .int i => .int i
  | .str x => .str x
  | .tup xs => .tuple (pyL xs)
  | .lst xs => .list (pyL xs)
  | .dic _ => .none
  | .scr ns => .list (ns.map PyData.int)
def pyL : List D → List PyData
  | [] => []
  | x :: xs => py x :: pyL xs
end
def okN : Nat → D → Bool
  | _, .non => true
  | _, .bl _ => true
  | _, .int _ => true
  | _, .str x => PyData.strOk x
  | n + 1, .tup xs => xs.all (okN n)
  | n + 1, .lst xs => xs.all (okN n)
  | _, _ => false
theorem okN_lay : ∀ (n : Nat) (d : D), okN n d = true → (py d).canLay0 = true ∧ (py d).depth ≤ n
  | n, .non, _ => by simp [py, PyData.canLay0, PyData.depth]
  | n, .bl _, _ => by simp [py, PyData.canLay0, PyData.depth]
  | n, .int _, _ => by simp [py, PyData.canLay0, PyData.depth]
  | n, .str x, h => by
    have h' : PyData.strOk x = true := by cases n <;> simpa [okN] using h
    simp [py, PyData.canLay0, PyData.depth, h']
  | 0, .tup xs, h => by simp [okN] at h
  | 0, .lst xs, h => by simp [okN] at h
  | 0, .dic xs, h => by simp [okN] at h
  | 0, .scr xs, h => by simp [okN] at h
  | n + 1, .dic xs, h => by simp [okN] at h
  | n + 1, .scr xs, h => by simp [okN] at h
  | n + 1, .tup xs, h => by
    have all : ∀ ys : List D, ys.all (okN n) = true → PyData.canLayAll0 (pyL ys) = true ∧ PyData.depthAll (pyL ys) ≤ n := by
      intro ys
      induction ys with
      | nil => intro _; simp [pyL, PyData.canLayAll0, PyData.depthAll]
      | cons y ys ih =>
        intro q
        rw [List.all_cons, Bool.and_eq_true] at q
        have h1 := okN_lay n y q.1
        have h2 := ih q.2
        simp only [pyL, PyData.canLayAll0, PyData.depthAll, Bool.and_eq_true]
        exact ⟨⟨h1.1, h2.1⟩, by omega⟩
    have h' := all xs (by simpa [okN] using h)
    simp only [py, PyData.canLay0, PyData.depth]
    exact ⟨h'.1, by omega⟩
  | n + 1, .lst xs, h => by
    have all : ∀ ys : List D, ys.all (okN n) = true → PyData.canLayAll0 (pyL ys) = true ∧ PyData.depthAll (pyL ys) ≤ n := by
      intro ys
      induction ys with
      | nil => intro _; simp [pyL, PyData.canLayAll0, PyData.depthAll]
      | cons y ys ih =>
        intro q
        rw [List.all_cons, Bool.and_eq_true] at q
        have h1 := okN_lay n y q.1
        have h2 := ih q.2
        simp only [pyL, PyData.canLayAll0, PyData.depthAll, Bool.and_eq_true]
        exact ⟨⟨h1.1, h2.1⟩, by omega⟩
    have h' := all xs (by simpa [okN] using h)
    simp only [py, PyData.canLay0, PyData.depth]
    exact ⟨h'.1, by omega⟩
theorem okN_shaped {d : D} (h : okN 64 d = true) : SeqAt.shaped (py d) = true := by
  have := okN_lay 64 d h
  unfold SeqAt.shaped
  rw [Bool.and_eq_true]
  exact ⟨this.1, decide_eq_true this.2⟩
mutual
theorem Rp.dp {K : PySem.W.Frag} {H : Hp} : ∀ (d : D) (v : V) (n : Nat), okN n d = true → Rp K H d v → Dp K H v (py d)
  | .non, v, _, _, h => by
    simp only [Rp] at h
    subst h
    exact .non
  | .bl b, v, _, _, h => by
    simp only [Rp] at h
    subst h
    exact .bl b
  | .int b, v, _, _, h => by
    simp only [Rp] at h
    subst h
    exact .int b
  | .str b, v, _, _, h => by
    simp only [Rp] at h
    subst h
    exact .str b
  | .tup ds, v, n, o, h => by
    simp only [Rp] at h
    obtain ⟨a, xs, rfl, h1, h2⟩ := h
    cases n with
    | zero => simp [okN] at o
    | succ n => exact .tup h1 (RpL.dp ds xs n (by simpa [okN] using o) h2)
  | .lst ds, v, n, o, h => by
    simp only [Rp] at h
    obtain ⟨a, xs, rfl, h1, h2⟩ := h
    cases n with
    | zero => simp [okN] at o
    | succ n => exact .lst (SqL.of h1) (RpL.dp ds xs n (by simpa [okN] using o) h2)
  | .dic ds, v, n, o, h => by cases n <;> simp [okN] at o
  | .scr ds, v, n, o, h => by cases n <;> simp [okN] at o
theorem RpL.dp {K : PySem.W.Frag} {H : Hp} : ∀ (ds : List D) (vs : List V) (n : Nat), (∀ x ∈ ds, okN n x = true) → RpL K H ds vs → DpAll K H vs (pyL ds)
  | [], _, _, _, h => by
    simp only [RpL] at h
    subst h
    exact .nil
  | d :: ds, _, n, o, h => by
    simp only [RpL] at h
    obtain ⟨x, r, rfl, h1, h2⟩ := h
    exact .cons (Rp.dp d x n (o d List.mem_cons_self) h1) (RpL.dp ds r n (fun y hy => o y (List.mem_cons_of_mem _ hy)) h2)
end
def eqD (x y : D) : Bool := PyData.eqv (py x) (py y)
def gEq : D → D → Option D := fun x y => if okN 64 x && okN 64 y then some (.bl (eqD x y)) else none
def gNe : D → D → Option D := fun x y => if okN 64 x && okN 64 y then some (.bl (!eqD x y)) else none
theorem oeq (hu : X.A.units + 64 < cLine) : OpR X (compareOp .Eq) (rD X.K gEq) := (op_eqD hu).imp fun x y H Q q => by
  obtain ⟨G, dx, dy, d, w, rx, ry, e, q⟩ := q
  unfold gEq at e
  split at e
  · rename_i hz
    rw [Bool.and_eq_true] at hz
    cases e
    exact ⟨py dx, py dy, Rp.dp dx x 64 hz.1 (rx.all w), Rp.dp dy y 64 hz.2 (ry.all w), okN_shaped hz.1, okN_shaped hz.2, q _ H G (Ext.refl w) (rp_bl _)⟩
  · cases e
theorem one (hu : X.A.units + 64 < cLine) : OpR X (compareOp .NotEq) (rD X.K gNe) := (op_neD hu).imp fun x y H Q q => by
  obtain ⟨G, dx, dy, d, w, rx, ry, e, q⟩ := q
  unfold gNe at e
  split at e
  · rename_i hz
    rw [Bool.and_eq_true] at hz
    cases e
    exact ⟨py dx, py dy, Rp.dp dx x 64 hz.1 (rx.all w), Rp.dp dy y 64 hz.2 (ry.all w), okN_shaped hz.1, okN_shaped hz.2, q _ H G (Ext.refl w) (rp_bl _)⟩
  · cases e

/-! ### < <= > >= of ints -/
def gLt : D → D → Option D := gI (fun _ _ => true) fun i j => .bl (decide (i < j))
theorem olt : OpR X (compareOp .Lt) (rD X.K gLt) := op_gI0 op_lt fun _ _ _ _ => rp_bl _
def gLe : D → D → Option D := gI (fun _ _ => true) fun i j => .bl (decide (i ≤ j))
theorem ole : OpR X (compareOp .LtE) (rD X.K gLe) := op_gI0 op_le fun _ _ _ _ => rp_bl _
def gGt : D → D → Option D := gI (fun _ _ => true) fun i j => .bl (decide (j < i))
theorem ogt : OpR X (compareOp .Gt) (rD X.K gGt) := op_gI0 op_gt fun _ _ _ _ => rp_bl _
def gGe : D → D → Option D := gI (fun _ _ => true) fun i j => .bl (decide (j ≤ i))
theorem oge : OpR X (compareOp .GtE) (rD X.K gGe) := op_gI0 op_ge fun _ _ _ _ => rp_bl _

/-! ### is None -/
def isNon : D → Bool
  | .non => true
  | _ => false
theorem rpb_isNon {K : PySem.W.Frag} {H G : Hp} {d : D} {v : V} (r : RpB K H G d v) : decide (v = .non) = isNon d := by
  cases d with
  | non =>
    have := rpb_non r
    subst this
    rfl
  | bl _ =>
    have := rpb_bl r
    subst this
    rfl
  | int _ =>
    have := rpb_int r
    subst this
    rfl
  | str _ =>
    have := rpb_str r
    subst this
    rfl
  | tup _ =>
    obtain ⟨a, xs, rfl, _⟩ := rpb_tup r
    rfl
  | lst _ =>
    obtain ⟨a, xs, rfl, _⟩ := r
    rfl
  | dic _ =>
    obtain ⟨a, rfl, _⟩ := r
    rfl
  | scr _ =>
    obtain ⟨a, rfl, _⟩ := rpb_scr r
    rfl
def gIs : D → D → Option D := fun x y => match y with
  | .non => some (.bl (isNon x))
  | _ => none
def gIsNot : D → D → Option D := fun x y => match y with
  | .non => some (.bl (!isNon x))
  | _ => none
theorem ois : OpR X (compareOp .Is) (rD X.K gIs) := (op_isN (X := X)).imp fun x y H Q q => by
  obtain ⟨G, dx, dy, d, w, rx, ry, e, q⟩ := q
  cases dy with
  | non =>
    cases e
    refine ⟨rpb_non ry, ?_⟩
    rw [rpb_isNon rx]
    exact q _ H G (Ext.refl w) (rp_bl _)
  | _ => cases e
theorem oisn : OpR X (compareOp .IsNot) (rD X.K gIsNot) := (op_notN (X := X)).imp fun x y H Q q => by
  obtain ⟨G, dx, dy, d, w, rx, ry, e, q⟩ := q
  cases dy with
  | non =>
    cases e
    refine ⟨rpb_non ry, ?_⟩
    rw [rpb_isNon rx]
    exact q _ H G (Ext.refl w) (rp_bl _)
  | _ => cases e

/-! ### in, not in -/
theorem op_inT (hu : X.A.units + 65 < cLine) : OpR X (compareOp .In) (fun x y H Q => ∃ d ds, Dp X.K H x d ∧ Dp X.K H y (.tuple ds) ∧ SeqAt.shaped d = true ∧ SeqAt.shaped (.tuple ds) = true ∧ Q (.bl (ds.any fun z => PyData.eqv z d)) H) := by
  intro pins s σ H x y v u Q I rx ry h
  obtain ⟨d, ds, hd, he, sd, se, q⟩ := h
  obtain ⟨as, r1⟩ := Dp.reads I d x v hd rx
  obtain ⟨bs, r2⟩ := Dp.reads I (.tuple ds) y u he ry
  exact SeqAt.in_tuple_reads r2 r1 (SeqAt.canLay_of_shaped se) (SeqAt.canLay_of_shaped sd) (room_in_shaped sd hu) ⟨.bl _, H, I, rfl, q⟩
theorem op_notInT (hu : X.A.units + 65 < cLine) : OpR X (compareOp .NotIn) (fun x y H Q => ∃ d ds, Dp X.K H x d ∧ Dp X.K H y (.tuple ds) ∧ SeqAt.shaped d = true ∧ SeqAt.shaped (.tuple ds) = true ∧ Q (.bl (!ds.any fun z => PyData.eqv z d)) H) := by
  intro pins s σ H x y v u Q I rx ry h
  obtain ⟨d, ds, hd, he, sd, se, q⟩ := h
  obtain ⟨as, r1⟩ := Dp.reads I d x v hd rx
  obtain ⟨bs, r2⟩ := Dp.reads I (.tuple ds) y u he ry
  exact SeqAt.notIn_tuple_reads r2 r1 (SeqAt.canLay_of_shaped se) (SeqAt.canLay_of_shaped sd) (room_in_shaped sd hu) ⟨.bl _, H, I, rfl, q⟩
def inD (x : D) (ys : List D) : Bool := ys.any fun y => eqD y x
theorem any_py (x : D) : ∀ ys : List D, ((pyL ys).any fun z => PyData.eqv z (py x)) = inD x ys
  | [] => rfl
  | y :: ys => by
    have := any_py x ys
    simp only [pyL, List.any_cons, inD] at this ⊢
    rw [this]
    rfl
def gIn : D → D → Option D
  | x, .lst ys => if okN 64 x && okN 64 (.lst ys) then some (.bl (inD x ys)) else none
  | x, .tup ys => if okN 64 x && okN 64 (.tup ys) then some (.bl (inD x ys)) else none
  | _, _ => none
def gNotIn : D → D → Option D
  | x, .lst ys => if okN 64 x && okN 64 (.lst ys) then some (.bl (!inD x ys)) else none
  | x, .tup ys => if okN 64 x && okN 64 (.tup ys) then some (.bl (!inD x ys)) else none
  | _, _ => none
theorem oin (hu : X.A.units + 65 < cLine) : OpR X (compareOp .In) (rD X.K gIn) := ((op_inD hu).or (op_inT hu)).imp fun x y H Q q => by
  obtain ⟨G, dx, dy, d, w, rx, ry, e, q⟩ := q
  cases dy with
  | lst ys =>
    simp only [gIn] at e
    split at e
    · rename_i hz
      rw [Bool.and_eq_true] at hz
      cases e
      refine .inl ⟨py dx, pyL ys, Rp.dp dx x 64 hz.1 (rx.all w), Rp.dp (.lst ys) y 64 hz.2 (ry.all w), okN_shaped hz.1, okN_shaped hz.2, ?_⟩
      rw [any_py]
      exact q _ H G (Ext.refl w) (rp_bl _)
    · cases e
  | tup ys =>
    simp only [gIn] at e
    split at e
    · rename_i hz
      rw [Bool.and_eq_true] at hz
      cases e
      refine .inr ⟨py dx, pyL ys, Rp.dp dx x 64 hz.1 (rx.all w), Rp.dp (.tup ys) y 64 hz.2 (ry.all w), okN_shaped hz.1, okN_shaped hz.2, ?_⟩
      rw [any_py]
      exact q _ H G (Ext.refl w) (rp_bl _)
    · cases e
  | _ => cases dx <;> cases e
theorem onotin (hu : X.A.units + 65 < cLine) : OpR X (compareOp .NotIn) (rD X.K gNotIn) := ((op_notInD hu).or (op_notInT hu)).imp fun x y H Q q => by
  obtain ⟨G, dx, dy, d, w, rx, ry, e, q⟩ := q
  cases dy with
  | lst ys =>
    simp only [gNotIn] at e
    split at e
    · rename_i hz
      rw [Bool.and_eq_true] at hz
      cases e
      refine .inl ⟨py dx, pyL ys, Rp.dp dx x 64 hz.1 (rx.all w), Rp.dp (.lst ys) y 64 hz.2 (ry.all w), okN_shaped hz.1, okN_shaped hz.2, ?_⟩
      rw [any_py]
      exact q _ H G (Ext.refl w) (rp_bl _)
    · cases e
  | tup ys =>
    simp only [gNotIn] at e
    split at e
    · rename_i hz
      rw [Bool.and_eq_true] at hz
      cases e
      refine .inr ⟨py dx, pyL ys, Rp.dp dx x 64 hz.1 (rx.all w), Rp.dp (.tup ys) y 64 hz.2 (ry.all w), okN_shaped hz.1, okN_shaped hz.2, ?_⟩
      rw [any_py]
      exact q _ H G (Ext.refl w) (rp_bl _)
    · cases e
  | _ => cases dx <;> cases e
/-- -x -/
def eUn (g : D → Option D) (f : Fe) : Fe := fun env => (f env).bind g
def gNeg : D → Option D
  | .int i => some (.int (-i))
  | _ => none
theorem ex_neg {a : Expr} {f : Fe} {pos : Pos} (ha : BX X a f) : EX X (.UnaryOp .USub a pos) (eUn gNeg f) := pe_imp (pe_un un_neg ha) fun σ H Q q => by
  obtain ⟨H0, G0, G, env, d, S, e1, q⟩ := q
  obtain ⟨c, h1, e1⟩ := Option.bind_eq_some_iff.mp e1
  refine ⟨H0, G0, G, env, c, S, h1, fun v H1 G1 x1 r1 => ?_⟩
  cases c with
  | int i =>
    cases e1
    exact ⟨i, rpb_int r1, q _ H1 G1 x1 (rp_int _)⟩
  | _ => cases e1
end
end PD

set_option Elab.async false
set_option linter.all false
set_option maxRecDepth 100000
namespace PD
open PySem PySem.Spec PyProof.Rows L2

section
variable {X : Cx} {a b e : Expr} {fa fb f : Fe} {pos : Pos} {es : List Expr} {fl : Fl}
/-! ### places -/
theorem atI_rp {K : PySem.W.Frag} {G : Hp} {ds : List D} {xs : List V} (h : RpL K G ds xs) {i : Int} {d : D} (e : atI ds i = some d) : ∃ x, atI xs i = some x ∧ Rp K G d x := by
  unfold atI at e ⊢
  obtain ⟨j, h1, h2⟩ := Option.bind_eq_some_iff.mp e
  rw [h.len] at h1
  obtain ⟨x, h3, h4⟩ := h.at h2
  exact ⟨x, by rw [h1]; exact h3, h4⟩
def gIx : D → D → Option D
  | .lst xs, .int i => atI xs i
  | .tup xs, .int i => atI xs i
  | .scr ns, .int i => (atI ns i).map D.int
  | .str z, .int i => if lim z.length then (atI z.cps.toList i).map fun c => D.str ⟨#[c]⟩ else none
  | _, _ => none
theorem atI_map {α β : Type} (g : α → β) (xs : List α) (i : Int) : atI (xs.map g) i = (atI xs i).map g := by
  unfold atI
  rw [List.length_map]
  cases ixN xs.length i with
  | none => rfl
  | some j => simp
theorem _root_.L2.IxR.imp {r r' : R2} (h : IxR X r) (i : ∀ x y H Q, r' x y H Q → r x y H Q) : IxR X r' := fun value slice pins s σ H x y v u Q I rx ry q hs => h value slice pins s σ H x y v u Q I rx ry (i x y H Q q) hs
theorem ixd : IxR X (rD X.K gIx) := (ix_seq (X := X)).imp fun x y H Q q => by
  obtain ⟨G, dx, dy, d, w, rx, ry, e, q⟩ := q
  cases dy with
  | int i =>
    have hy := rpb_int ry
    subst hy
    cases dx with
    | lst ds =>
      obtain ⟨a, xs, rfl, h1, h2⟩ := rx
      obtain ⟨z, h3, h4⟩ := atI_rp h2 (show atI ds i = some d from e)
      exact .inl ⟨a, xs, i, z, rfl, rfl, SqL.of h1, h3, q z H G (Ext.refl w) h4⟩
    | tup ds =>
      obtain ⟨a, xs, rfl, h1, h2⟩ := rpb_tup rx
      obtain ⟨z, h3, h4⟩ := atI_rp h2 (show atI ds i = some d from e)
      exact .inr (.inl ⟨a, xs, i, z, rfl, rfl, Same.tup w.sub h1, h3, q z H G (Ext.refl w) h4⟩)
    | scr ns =>
      obtain ⟨a, rfl, h1⟩ := rpb_scr rx
      obtain ⟨n, h2, rfl⟩ := Option.map_eq_some_iff.mp (show (atI ns i).map D.int = some d from e)
      exact .inl ⟨a, _, i, .int n, rfl, rfl, w.sub.seq h1, by rw [atI_map, h2]; rfl, q _ H G (Ext.refl w) (rp_int _)⟩
    | str z =>
      have hx := rpb_str rx
      subst hx
      simp only [gIx] at e
      split at e
      · rename_i hz
        obtain ⟨c, h2, rfl⟩ := Option.map_eq_some_iff.mp e
        exact .inr (.inr ⟨z, i, c, rfl, rfl, lim_le hz, h2, q _ H G (Ext.refl w) (rp_str _)⟩)
      · cases e
    | _ => cases e
  | _ => cases dx <;> cases e
theorem ex_ix (ha : BX X a fa) (hb : BX X b fb) (hs : PlainIx b) : EX X (.Subscript a b pos) (eOp gIx fa fb) := pe_imp (pe_ix ixd ha hb hs) fun _ _ _ q => tOp_imp q

/-! ### slices -/
abbrev Fo := List Sl → Option (Option Int)
def oNo : Fo := fun _ => some none
def oYes (f : Fe) : Fo := fun env => match f env with
  | some (.int i) => some (some i)
  | _ => none
def tO (K : PySem.W.Frag) (f : Fo) : TO := fun σ H Q => ∃ H0 G0 G env d, Ste K H0 G0 H G σ env ∧ f env = some d ∧ ∀ H' G', Ext H G H' G' → Q d H'
theorem po_imp {e : Option Expr} {t t' : TO} (h : PO X e t) (i : ∀ σ H Q, t' σ H Q → t σ H Q) : PO X e t' := ⟨fun pins s σ H Q I q => h.run pins s σ H Q I (i σ H Q q)⟩
abbrev OX (X : Cx) (e : Option Expr) (f : Fo) : Prop := PO X e (tO X.K f)
theorem ox_no : OX X none oNo := po_imp po_none fun σ H Q q => by
  obtain ⟨H0, G0, G, env, d, S, e1, q⟩ := q
  cases e1
  exact q H G (Ext.refl S.wf)
theorem ox_yes (h : BX X e f) : OX X (some e) (oYes f) := po_imp (po_some h) fun σ H Q q => by
  obtain ⟨H0, G0, G, env, d, S, e1, q⟩ := q
  unfold oYes at e1
  cases hf : f env with
  | none => rw [hf] at e1; cases e1
  | some c =>
    rw [hf] at e1
    cases c with
    | int i =>
      cases e1
      exact ⟨H0, G0, G, env, _, S, hf, fun v H1 G1 x1 r1 => ⟨i, rpb_int r1, q H1 G1 x1⟩⟩
    | _ => cases e1
def cutD {α : Type} (xs : List α) (lo hi : Option Int) : List α := (xs.drop (HT.sIx xs.length 0 lo)).take (HT.sIx xs.length xs.length hi - HT.sIx xs.length 0 lo)
theorem RpL.cut {K : PySem.W.Frag} {G : Hp} {ds : List D} {xs : List V} (h : RpL K G ds xs) (lo hi : Option Int) : RpL K G (cutD ds lo hi) (cutV xs lo hi) := by
  unfold cutD cutV
  rw [h.len]
  exact (h.drop _).take _
def gSl : D → Option Int → Option Int → Option D
  | .lst xs, lo, hi => some (.lst (cutD xs lo hi))
  | .tup xs, lo, hi => some (.tup (cutD xs lo hi))
  | .str z, lo, hi => if lim z.length then some (.str (cutS z lo hi)) else none
  | _, _, _ => none
def eSl (f : Fe) (lo hi : Fo) : Fe := fun env => (f env).bind fun x => (lo env).bind fun l => (hi env).bind fun h => gSl x l h
theorem _root_.L2.SlR.imp {r r' : V → Option Int → Option Int → Hp → VK → Prop} (h : SlR X r) (i : ∀ x lo hi H Q, r' x lo hi H Q → r x lo hi H Q) : SlR X r' := fun pins s σ H x v vl vu lo hi sl Q I rx hs pl pu q => h pins s σ H x v vl vu lo hi sl Q I rx hs pl pu (i x lo hi H Q q)
theorem cut_all {α : Type} {xs : List α} {lo hi : Option Int} (h : HT.sIx xs.length 0 lo = 0 ∧ HT.sIx xs.length xs.length hi = xs.length) : cutD xs lo hi = xs := by
  unfold cutD
  rw [h.1, h.2]
  simp
def rSlD (K : PySem.W.Frag) : V → Option Int → Option Int → Hp → VK → Prop := fun x lo hi H Q => ∃ G dx d, Wf H G ∧ RpB K H G dx x ∧ gSl dx lo hi = some d ∧ ∀ v H' G', Ext H G H' G' → Rp K G' d v → Q v H'
theorem sld : SlR X (rSlD X.K) := ((sl_list (X := X)).or (sl_tupA.or sl_str)).imp fun x lo hi H Q q => by
  obtain ⟨G, dx, d, w, rx, e, q⟩ := q
  cases dx with
  | lst ds =>
    obtain ⟨a, xs, rfl, h1, h2⟩ := rx
    cases e
    exact .inl ⟨a, xs, rfl, SqL.of h1, new_lst w (h2.cut lo hi) q⟩
  | tup ds =>
    obtain ⟨a, xs, rfl, h1, h2⟩ := rpb_tup rx
    cases e
    refine .inr (.inl ⟨a, xs, rfl, Same.tup w.sub h1, fun hw => ?_, fun hw => new_tup w (h2.cut lo hi) q⟩)
    refine q _ H G (Ext.refl w) ?_
    rw [← h2.len] at hw
    rw [cut_all hw]
    simp only [Rp]
    exact ⟨a, xs, rfl, h1, h2⟩
  | str z =>
    have hx := rpb_str rx
    subst hx
    simp only [gSl] at e
    split at e
    · rename_i hz
      cases e
      exact .inr (.inr ⟨z, rfl, lim_le hz, q _ H G (Ext.refl w) (rp_str _)⟩)
    · cases e
  | _ => cases e
variable {lo hi : Option Expr} {fo fh : Fo} {p2 : Pos}
theorem ex_sl (ha : BX X a fa) (hl : OX X lo fo) (hh : OX X hi fh) : EX X (.Subscript a (.Slice lo hi none p2) pos) (eSl fa fo fh) := pe_imp (pe_slice sld ha hl hh) fun σ H Q q => by
  obtain ⟨H0, G0, G, env, d, S, e1, q⟩ := q
  obtain ⟨dx, h1, e1⟩ := Option.bind_eq_some_iff.mp e1
  obtain ⟨l, h2, e1⟩ := Option.bind_eq_some_iff.mp e1
  obtain ⟨u, h3, e1⟩ := Option.bind_eq_some_iff.mp e1
  exact ⟨H0, G0, G, env, dx, S, h1, fun v H1 G1 x1 r1 => ⟨H0, G0, G1, env, l, S.ext x1, h2, fun H2 G2 x2 => ⟨H0, G0, G2, env, u, (S.ext x1).ext x2, h3, fun H3 G3 x3 =>
    ⟨G3, dx, d, x3.wf, (r1.ext x2).ext x3, e1, fun w H4 G4 x4 r4 => q w H4 G4 (x1.trans (x2.trans (x3.trans x4))) r4⟩⟩⟩⟩

/-! ### calls of built-ins -/
def rC (K : PySem.W.Frag) (g : List D → Option D) : List V → Hp → VK → Prop := fun vs H Q => ∃ G ds d, Wf H G ∧ RpBL K H G ds vs ∧ g ds = some d ∧ ∀ v H' G', Ext H G H' G' → Rp K G' d v → Q v H'
def eCall (g : List D → Option D) (fl : Fl) : Fe := fun env => (fl env).bind g
theorem tCB_imp {g : List D → Option D} {σ : L2.St} {H : Hp} {Q : VK} (q : tD X.K (eCall g fl) σ H Q) : tCB (rC X.K g) (tAB X.K fl) σ H Q := by
  obtain ⟨H0, G0, G, env, d, S, e1, q⟩ := q
  obtain ⟨ds, h1, e1⟩ := Option.bind_eq_some_iff.mp e1
  exact ⟨H0, G0, G, env, ds, S, h1, fun vs H1 G1 x1 r1 => ⟨G1, ds, d, x1.wf, r1, e1, fun v H2 G2 x2 r2 => q v H2 G2 (x1.trans x2) r2⟩⟩
variable {x : Str} {p : Pos} {id T : String} {g : List D → Option D}
theorem ex_callB (hc : CallR X (.builtin id) (rC X.K g)) (hg : Gl X x) (hm : X.mg x = none) (hv : bootBuiltins x = some (.builtin id)) (ha : ABX X (e :: es) fl) (hn : x ≠ "__name__" := by decide) (hdb : (x == ("__debug__" : Str)) = false := by decide)
    (he : starEach (e :: es) X.env = (false, eval e X.env) :: starEach es X.env := by rfl) (hpl : (backTo pos (starEach es X.env)).any (·.1) = false := by rfl) : EX X (.Call (.Name x p) (e :: es) [] pos) (eCall g fl) :=
  pe_imp (pe_callB hc hg hm hv ha hn hdb he hpl) fun _ _ _ q => tCB_imp q
theorem ex_callTy (hc : CallR X (.type T) (rC X.K g)) (hg : Gl X x) (hm : X.mg x = none) (hv : bootBuiltins x = some (.type T)) (ha : ABX X (e :: es) fl) (hn : x ≠ "__name__" := by decide) (hdb : (x == ("__debug__" : Str)) = false := by decide)
    (he : starEach (e :: es) X.env = (false, eval e X.env) :: starEach es X.env := by rfl) (hpl : (backTo pos (starEach es X.env)).any (·.1) = false := by rfl) : EX X (.Call (.Name x p) (e :: es) [] pos) (eCall g fl) :=
  pe_imp (pe_callTy hc hg hm hv ha hn hdb he hpl) fun _ _ _ q => tCB_imp q
theorem rpbl1 {K : PySem.W.Frag} {H G : Hp} {d : D} {vs : List V} (h : RpBL K H G [d] vs) : ∃ v, vs = [v] ∧ RpB K H G d v := by
  obtain ⟨v, r, rfl, h1, h2⟩ := h
  cases (show r = [] from h2)
  exact ⟨v, rfl, h1⟩
theorem rpbl2 {K : PySem.W.Frag} {H G : Hp} {d d' : D} {vs : List V} (h : RpBL K H G [d, d'] vs) : ∃ v v', vs = [v, v'] ∧ RpB K H G d v ∧ RpB K H G d' v' := by
  obtain ⟨v, r, rfl, h1, h2⟩ := h
  obtain ⟨v', r', rfl, h3, h4⟩ := h2
  cases (show r' = [] from h4)
  exact ⟨v, v', rfl, h1, h3⟩
def gLen : List D → Option D
  | [.lst xs] => some (.int xs.length)
  | [.tup xs] => some (.int xs.length)
  | [.scr xs] => some (.int xs.length)
  | [.str x] => if lim x.length then some (.int x.length) else none
  | _ => none
theorem clen : CallR X (.builtin "len") (rC X.K gLen) := ((call_len_seq (X := X)).or call_len_str).imp fun vs H Q q => by
  obtain ⟨G, ds, d, w, r, e, q⟩ := q
  unfold gLen at e
  split at e
  · cases e
    obtain ⟨v, rfl, a, xs, rfl, h1, h2⟩ := rpbl1 r
    refine .inl ⟨a, xs, rfl, .inl (SqL.of h1), ?_⟩
    rw [← h2.len]
    exact q _ H G (Ext.refl w) (rp_int _)
  · cases e
    obtain ⟨v, rfl, r1⟩ := rpbl1 r
    obtain ⟨a, xs, rfl, h1, h2⟩ := rpb_tup r1
    refine .inl ⟨a, xs, rfl, .inr (Same.tup w.sub h1), ?_⟩
    rw [← h2.len]
    exact q _ H G (Ext.refl w) (rp_int _)
  · cases e
    obtain ⟨v, rfl, r1⟩ := rpbl1 r
    obtain ⟨a, rfl, h1⟩ := rpb_scr r1
    refine .inl ⟨a, _, rfl, .inl (w.sub.seq h1), ?_⟩
    rw [List.length_map]
    exact q _ H G (Ext.refl w) (rp_int _)
  · split at e
    · rename_i hz
      cases e
      obtain ⟨v, rfl, r1⟩ := rpbl1 r
      have hx := rpb_str r1
      subst hx
      exact .inr ⟨_, rfl, lim_le hz, q _ H G (Ext.refl w) (rp_int _)⟩
    · cases e
  · cases e
def gInt : List D → Option D
  | [.int i] => some (.int i)
  | [.bl b] => some (.int (if b then 1 else 0))
  | _ => none
theorem cint : CallR X (.type "int") (rC X.K gInt) := (call_int1 (X := X)).imp fun vs H Q q => by
  obtain ⟨G, ds, d, w, r, e, q⟩ := q
  unfold gInt at e
  split at e
  · cases e
    obtain ⟨v, rfl, r1⟩ := rpbl1 r
    rw [rpb_int r1]
    exact .inl ⟨_, rfl, q _ H G (Ext.refl w) (rp_int _)⟩
  · cases e
    obtain ⟨v, rfl, r1⟩ := rpbl1 r
    rw [rpb_bl r1]
    exact .inr ⟨_, rfl, q _ H G (Ext.refl w) (rp_int _)⟩
  · cases e
def gAbs : List D → Option D
  | [.int i] => some (.int (if i < 0 then -i else i))
  | _ => none
theorem cabs : CallR X (.builtin "abs") (rC X.K gAbs) := (call_abs (X := X)).imp fun vs H Q q => by
  obtain ⟨G, ds, d, w, r, e, q⟩ := q
  unfold gAbs at e
  split at e
  · cases e
    obtain ⟨v, rfl, r1⟩ := rpbl1 r
    rw [rpb_int r1]
    exact ⟨_, rfl, q _ H G (Ext.refl w) (rp_int _)⟩
  · cases e
def intsOf : List D → Option (List Int)
  | [] => some []
  | .int i :: r => (intsOf r).map (i :: ·)
  | _ :: _ => none
theorem intsOf_some : ∀ {ds : List D} {ns : List Int}, intsOf ds = some ns → ds = ns.map D.int
  | [], ns, h => by
    cases h
    rfl
  | .int i :: r, ns, h => by
    obtain ⟨m, h1, rfl⟩ := Option.map_eq_some_iff.mp (show (intsOf r).map (i :: ·) = some ns from h)
    rw [intsOf_some h1]
    rfl
  | .non :: r, ns, h => by cases h
  | .bl _ :: r, ns, h => by cases h
  | .str _ :: r, ns, h => by cases h
  | .tup _ :: r, ns, h => by cases h
  | .lst _ :: r, ns, h => by cases h
  | .dic _ :: r, ns, h => by cases h
  | .scr _ :: r, ns, h => by cases h
theorem intsOf_map : ∀ ns : List Int, intsOf (ns.map D.int) = some ns
  | [] => rfl
  | n :: ns => by
    show (intsOf (ns.map D.int)).map (n :: ·) = _
    rw [intsOf_map ns]
    rfl
def blsOf : List D → Option (List Bool)
  | [] => some []
  | .bl i :: r => (blsOf r).map (i :: ·)
  | _ :: _ => none
theorem blsOf_some : ∀ {ds : List D} {ns : List Bool}, blsOf ds = some ns → ds = ns.map D.bl
  | [], ns, h => by
    cases h
    rfl
  | .bl i :: r, ns, h => by
    obtain ⟨m, h1, rfl⟩ := Option.map_eq_some_iff.mp (show (blsOf r).map (i :: ·) = some ns from h)
    rw [blsOf_some h1]
    rfl
  | .non :: r, ns, h => by cases h
  | .int _ :: r, ns, h => by cases h
  | .str _ :: r, ns, h => by cases h
  | .tup _ :: r, ns, h => by cases h
  | .lst _ :: r, ns, h => by cases h
  | .dic _ :: r, ns, h => by cases h
  | .scr _ :: r, ns, h => by cases h
theorem blsOf_map : ∀ ns : List Bool, blsOf (ns.map D.bl) = some ns
  | [] => rfl
  | n :: ns => by
    show (blsOf (ns.map D.bl)).map (n :: ·) = _
    rw [blsOf_map ns]
    rfl
theorem rpbl_lst {K : PySem.W.Frag} {H G : Hp} {ds : List D} {vs : List V} (h : RpBL K H G [.lst ds] vs) : ∃ a xs, vs = [.ref a] ∧ H a = some (.lst xs) ∧ RpL K G ds xs := by
  obtain ⟨v, rfl, a, xs, rfl, h1, h2⟩ := rpbl1 h
  exact ⟨a, xs, rfl, h1, h2⟩
theorem rpbl_tup {K : PySem.W.Frag} {H G : Hp} {ds : List D} {vs : List V} (h : RpBL K H G [.tup ds] vs) : ∃ a xs, vs = [.ref a] ∧ SqT K G a xs ∧ RpL K G ds xs := by
  obtain ⟨v, rfl, h3⟩ := rpbl1 h
  obtain ⟨a, xs, rfl, h1, h2⟩ := rpb_tup h3
  exact ⟨a, xs, rfl, h1, h2⟩
/-- the sum of a tuple of ints -/
theorem cr_sumT (hc : X.calm = true) : CallR X (.builtin "sum") (fun vs H Q => ∃ (a : Addr) (ns : List Int), vs = [V.ref a] ∧ SqT X.K H a (ns.map V.int) ∧ Q (.int ns.sum) H) := by
  intro pins s σ H vs us Q I r h
  obtain ⟨a, ns, rfl, hs, q⟩ := h
  obtain ⟨its, rv, hl, _⟩ := I.tuple hs
  rw [Vals.ref1 r]
  obtain ⟨xs, e⟩ := rv.ints.allInts.items
  have hn : numsOf (intItems xs).toList = ns := by rw [← e]; exact rv.ints.numsOf
  rw [nums_intItems] at hn
  rw [e] at hl
  have hl' : s.heap.IsTuple a (intItems xs) := hl
  have hlt : a < s.heap.objs.size := hl.lt
  subst hn
  refine call_sum_walkG (wpAny_pyIter_tuple hl' ?_)
  refine ⟨_, _, _, _, _, _, numAt xs, rfl, Walks.tuple (A := X.A.in1) (I.ok.hd hc) _ a (Nat.ne_of_lt hlt) (intItems xs), ⟨⟨_, Heap.get?_push_size _ rfl, rfl, rfl⟩, (let ⟨o, e, r⟩ := hl'; ⟨o, Heap.get?_push_of_some _ e, r⟩)⟩, fun b hb => ?_, (fun _ _ => intItems_at), fun h' tk t' hk => ?_⟩
  · show b < (s.heap.push _).objs.size
    rw [Heap.size_push]
    rcases List.mem_cons.mp hb with rfl | hb
    · exact Nat.lt_succ_self _
    · rw [List.mem_singleton.mp hb]
      exact Nat.lt_succ_of_lt hlt
  · have hsz : (intItems xs).size = xs.size := by simp [intItems]
    rw [hsz, preSum_eq, List.take_of_length_le (by simp)]
    refine ⟨.int _, H, I.kept (h' := h') (t' := tk) (fun b o e => ?_), ⟨_, rfl⟩, q⟩
    refine hk b o (fun hm => ?_) (Heap.get?_push_of_some _ e)
    have := Heap.lt_size e
    rw [List.mem_singleton.mp hm] at this
    exact Nat.lt_irrefl _ this
end
end PD

set_option Elab.async false
set_option linter.all false
set_option maxRecDepth 100000
namespace PD
open PySem PySem.Spec PyProof.Rows L2

section
variable {X : Cx} {a b e : Expr} {fa fb f : Fe} {pos p : Pos} {es : List Expr} {fl : Fl}
theorem sqt_up {H G : Hp} (w : Wf H G) {K : PySem.W.Frag} {a : Addr} {xs : List V} (h : SqT K G a xs) : SqT K H a xs := Same.tup w.sub h
def gSum : List D → Option D
  | [.lst xs] => (intsOf xs).map fun ns => .int ns.sum
  | [.tup xs] => (intsOf xs).map fun ns => .int ns.sum
  | _ => none
theorem csum (hc : X.calm = true) : CallR X (.builtin "sum") (rC X.K gSum) := ((cr_sum hc).or (cr_sumT hc)).imp fun vs H Q q => by
  obtain ⟨G, ds, d, w, r, e, q⟩ := q
  unfold gSum at e
  split at e
  · obtain ⟨ns, h1, rfl⟩ := Option.map_eq_some_iff.mp e
    obtain ⟨a, xs, rfl, h2, h3⟩ := rpbl_lst r
    rw [intsOf_some h1] at h3
    rw [h3.ints] at h2
    exact .inl ⟨a, ns, rfl, SqL.of h2, q _ H G (Ext.refl w) (rp_int _)⟩
  · obtain ⟨ns, h1, rfl⟩ := Option.map_eq_some_iff.mp e
    obtain ⟨a, xs, rfl, h2, h3⟩ := rpbl_tup r
    rw [intsOf_some h1] at h3
    rw [h3.ints] at h2
    exact .inr ⟨a, ns, rfl, sqt_up w h2, q _ H G (Ext.refl w) (rp_int _)⟩
  · cases e
def gAll : List D → Option D
  | [.lst xs] => (blsOf xs).map fun bs => .bl (bs.all id)
  | _ => none
def gAny : List D → Option D
  | [.lst xs] => (blsOf xs).map fun bs => .bl (bs.any id)
  | _ => none
theorem call (hc : X.calm = true) : CallR X (.builtin "all") (rC X.K gAll) := (cr_all hc).imp fun vs H Q q => by
  obtain ⟨G, ds, d, w, r, e, q⟩ := q
  unfold gAll at e
  split at e
  · obtain ⟨ns, h1, rfl⟩ := Option.map_eq_some_iff.mp e
    obtain ⟨a, xs, rfl, h2, h3⟩ := rpbl_lst r
    rw [blsOf_some h1] at h3
    rw [h3.bls] at h2
    exact ⟨a, ns, rfl, SqL.of h2, q _ H G (Ext.refl w) (rp_bl _)⟩
  · cases e
theorem cany (hc : X.calm = true) : CallR X (.builtin "any") (rC X.K gAny) := (cr_any hc).imp fun vs H Q q => by
  obtain ⟨G, ds, d, w, r, e, q⟩ := q
  unfold gAny at e
  split at e
  · obtain ⟨ns, h1, rfl⟩ := Option.map_eq_some_iff.mp e
    obtain ⟨a, xs, rfl, h2, h3⟩ := rpbl_lst r
    rw [blsOf_some h1] at h3
    rw [h3.bls] at h2
    exact ⟨a, ns, rfl, SqL.of h2, q _ H G (Ext.refl w) (rp_bl _)⟩
  · cases e
def gTuple : List D → Option D
  | [.lst xs] => some (.tup xs)
  | [.tup xs] => some (.tup xs)
  | _ => none
theorem ctuple : CallR X (.type "tuple") (rC X.K gTuple) := (call_tuple_of (X := X)).imp fun vs H Q q => by
  obtain ⟨G, ds, d, w, r, e, q⟩ := q
  unfold gTuple at e
  split at e
  · cases e
    obtain ⟨a, xs, rfl, h2, h3⟩ := rpbl_lst r
    exact ⟨a, xs, rfl, .inl ⟨SqL.of h2, new_tup w h3 q⟩⟩
  · cases e
    obtain ⟨a, xs, rfl, h2, h3⟩ := rpbl_tup r
    refine ⟨a, xs, rfl, .inr ⟨sqt_up w h2, q _ H G (Ext.refl w) ?_⟩⟩
    simp only [Rp]
    exact ⟨a, xs, rfl, h2, h3⟩
  · cases e
def gMax2 : List D → Option D
  | [.int i, .int j] => some (.int (if j > i then j else i))
  | _ => none
def gMin2 : List D → Option D
  | [.int i, .int j] => some (.int (if j < i then j else i))
  | _ => none
theorem cmax2 (hc : X.calm = true) : CallR X (.builtin "max") (rC X.K gMax2) := (call_max2 hc).imp fun vs H Q q => by
  obtain ⟨G, ds, d, w, r, e, q⟩ := q
  unfold gMax2 at e
  split at e
  · cases e
    obtain ⟨u, v, rfl, h1, h2⟩ := rpbl2 r
    rw [rpb_int h1, rpb_int h2]
    exact ⟨_, _, rfl, q _ H G (Ext.refl w) (rp_int _)⟩
  · cases e
theorem cmin2 (hc : X.calm = true) : CallR X (.builtin "min") (rC X.K gMin2) := (call_min2 hc).imp fun vs H Q q => by
  obtain ⟨G, ds, d, w, r, e, q⟩ := q
  unfold gMin2 at e
  split at e
  · cases e
    obtain ⟨u, v, rfl, h1, h2⟩ := rpbl2 r
    rw [rpb_int h1, rpb_int h2]
    exact ⟨_, _, rfl, q _ H G (Ext.refl w) (rp_int _)⟩
  · cases e
/-- the least, the greatest of ints -/
def minL : Int → List Int → Int
  | m, [] => m
  | m, x :: r => minL (min m x) r
def maxL : Int → List Int → Int
  | m, [] => m
  | m, x :: r => maxL (max m x) r
theorem minL_spec : ∀ (r : List Int) (m : Int), minL m r ∈ m :: r ∧ ∀ y ∈ m :: r, minL m r ≤ y
  | [], m => by simp [minL]
  | x :: r, m => by
    obtain ⟨h1, h2⟩ := minL_spec r (min m x)
    simp only [minL]
    constructor
    · rcases List.mem_cons.mp h1 with h | h
      · rw [h]
        rcases Int.le_total m x with q | q
        · rw [Int.min_eq_left q]
          exact List.mem_cons_self
        · rw [Int.min_eq_right q]
          exact List.mem_cons_of_mem _ List.mem_cons_self
      · exact List.mem_cons_of_mem _ (List.mem_cons_of_mem _ h)
    · intro y hy
      have h0 := h2 (min m x) List.mem_cons_self
      rcases List.mem_cons.mp hy with h | h
      · omega
      · rcases List.mem_cons.mp h with h | h
        · omega
        · exact h2 y (List.mem_cons_of_mem _ h)
theorem maxL_spec : ∀ (r : List Int) (m : Int), maxL m r ∈ m :: r ∧ ∀ y ∈ m :: r, y ≤ maxL m r
  | [], m => by simp [maxL]
  | x :: r, m => by
    obtain ⟨h1, h2⟩ := maxL_spec r (max m x)
    simp only [maxL]
    constructor
    · rcases List.mem_cons.mp h1 with h | h
      · rw [h]
        rcases Int.le_total m x with q | q
        · rw [Int.max_eq_right q]
          exact List.mem_cons_of_mem _ List.mem_cons_self
        · rw [Int.max_eq_left q]
          exact List.mem_cons_self
      · exact List.mem_cons_of_mem _ (List.mem_cons_of_mem _ h)
    · intro y hy
      have h0 := h2 (max m x) List.mem_cons_self
      rcases List.mem_cons.mp hy with h | h
      · omega
      · rcases List.mem_cons.mp h with h | h
        · omega
        · exact h2 y (List.mem_cons_of_mem _ h)
def gMinI : List D → Option D
  | [.lst xs] => (intsOf xs).bind fun ns => match ns with
    | [] => none
    | n :: r => some (.int (minL n r))
  | _ => none
def gMaxI : List D → Option D
  | [.lst xs] => (intsOf xs).bind fun ns => match ns with
    | [] => none
    | n :: r => some (.int (maxL n r))
  | _ => none
theorem cminI (hc : X.calm = true) : CallR X (.builtin "min") (rC X.K gMinI) := (cr_min hc).imp fun vs H Q q => by
  obtain ⟨G, ds, d, w, r, e, q⟩ := q
  unfold gMinI at e
  split at e
  · obtain ⟨ns, h1, e⟩ := Option.bind_eq_some_iff.mp e
    obtain ⟨a, xs, rfl, h2, h3⟩ := rpbl_lst r
    rw [intsOf_some h1] at h3
    rw [h3.ints] at h2
    cases ns with
    | nil => cases e
    | cons n r =>
      cases e
      refine ⟨a, n :: r, rfl, SqL.of h2, by simp, fun m hm hle => ?_⟩
      have hs := minL_spec r n
      have : m = minL n r := Int.le_antisymm (hle _ hs.1) (hs.2 m hm)
      subst this
      exact q _ H G (Ext.refl w) (rp_int _)
  · cases e
theorem cmaxI (hc : X.calm = true) : CallR X (.builtin "max") (rC X.K gMaxI) := (cr_max hc).imp fun vs H Q q => by
  obtain ⟨G, ds, d, w, r, e, q⟩ := q
  unfold gMaxI at e
  split at e
  · obtain ⟨ns, h1, e⟩ := Option.bind_eq_some_iff.mp e
    obtain ⟨a, xs, rfl, h2, h3⟩ := rpbl_lst r
    rw [intsOf_some h1] at h3
    rw [h3.ints] at h2
    cases ns with
    | nil => cases e
    | cons n r =>
      cases e
      refine ⟨a, n :: r, rfl, SqL.of h2, by simp, fun m hm hle => ?_⟩
      have hs := maxL_spec r n
      have : m = maxL n r := Int.le_antisymm (hs.2 m hm) (hle _ hs.1)
      subst this
      exact q _ H G (Ext.refl w) (rp_int _)
  · cases e

/-! ### isinstance -/
def tyD : D → String
  | .non => "NoneType"
  | .bl _ => "bool"
  | .int _ => "int"
  | .str _ => "str"
  | .tup _ => "tuple"
  | .lst _ => "list"
  | .scr _ => "list"
  | .dic _ => "dict"
def isiD (T : String) (d : D) : Bool := decide (tyD d = T) || (decide (T = "int") && decide (tyD d = "bool"))
def kitOk (T : String) : Prop := ∀ t ∈ ["NoneType", "bool", "int", "str", "tuple", "list", "dict"], kitB t T = some (decide (t = T) || (decide (T = "int") && decide (t = "bool")))
theorem kit_int : kitOk "int" := by
  intro t ht
  simp only [List.mem_cons, List.not_mem_nil, or_false] at ht
  rcases ht with rfl | rfl | rfl | rfl | rfl | rfl | rfl <;> decide +kernel
theorem kit_bool : kitOk "bool" := by
  intro t ht
  simp only [List.mem_cons, List.not_mem_nil, or_false] at ht
  rcases ht with rfl | rfl | rfl | rfl | rfl | rfl | rfl <;> decide +kernel
theorem kit_tuple : kitOk "tuple" := by
  intro t ht
  simp only [List.mem_cons, List.not_mem_nil, or_false] at ht
  rcases ht with rfl | rfl | rfl | rfl | rfl | rfl | rfl <;> decide +kernel
theorem kit_str : kitOk "str" := by
  intro t ht
  simp only [List.mem_cons, List.not_mem_nil, or_false] at ht
  rcases ht with rfl | rfl | rfl | rfl | rfl | rfl | rfl <;> decide +kernel
theorem kit_list : kitOk "list" := by
  intro t ht
  simp only [List.mem_cons, List.not_mem_nil, or_false] at ht
  rcases ht with rfl | rfl | rfl | rfl | rfl | rfl | rfl <;> decide +kernel
theorem tyD_mem (d : D) : tyD d ∈ ["NoneType", "bool", "int", "str", "tuple", "list", "dict"] := by cases d <;> simp [tyD]
theorem rpb_ty {K : PySem.W.Frag} {H G : Hp} (w : Wf H G) {d : D} {v : V} (r : RpB K H G d v) : TyX K H v (.type (tyD d)) := by
  cases d with
  | non =>
    rw [rpb_non r]
    exact .base .non
  | bl _ =>
    rw [rpb_bl r]
    exact .base (.bl _)
  | int _ =>
    rw [rpb_int r]
    exact .base (.int _)
  | str _ =>
    rw [rpb_str r]
    exact .base (.str _)
  | tup _ =>
    obtain ⟨a, xs, rfl, h, _⟩ := rpb_tup r
    rcases sqt_up w h with (h | ⟨o, h⟩) | ⟨o, its, n, h, hc, _⟩
    · exact .base (.tup h)
    · exact .fTuple h
    · exact .kTuple h hc
  | lst _ =>
    obtain ⟨a, xs, rfl, h, _⟩ := r
    exact .base (.lst h)
  | scr _ =>
    obtain ⟨a, rfl, h⟩ := rpb_scr r
    rcases w.sub.seq h with (h | ⟨o, h⟩) | ⟨o, its, n, h, hc, _⟩
    · exact .base (.lst h)
    · exact .base (.frz h)
    · exact .kList h hc
  | dic _ =>
    obtain ⟨a, rfl, h⟩ := r
    rcases h with ⟨ks, h, _⟩ | ⟨ks, h, _⟩
    · exact .base (.dK h)
    · exact .base (.dT h)
def eIsi (T : String) (f : Fe) : Fe := fun env => (f env).bind fun d => some (.bl (isiD T d))
theorem ex_isi {T : String} {x2 : Str} {p2 : Pos} (k : kitOk T) (hg : Gl X "isinstance") (hm : X.mg "isinstance" = none) (ha : BX X e f) (hg2 : Gl X x2) (hm2 : X.mg x2 = none) (hv2 : bootBuiltins x2 = some (.type T)) (hn2 : x2 ≠ "__name__" := by decide) (hd2 : (x2 == ("__debug__" : Str)) = false := by decide)
    (h1 : starEach [e, .Name x2 p2] X.env = (false, eval e X.env) :: starEach [.Name x2 p2] X.env := by rfl) (hpl : (backTo pos (starEach [.Name x2 p2] X.env)).any (·.1) = false := by rfl) : EX X (.Call (.Name "isinstance" p) [e, .Name x2 p2] [] pos) (eIsi T f) :=
  pe_imp (pe_callB (call_isi (X := X)) hg hm boot_isinstance (pa_cons ha (pa_cons (pe_bltn (v := .ty T) hg2 hm2 hv2 rfl hn2 hd2) pa_nil (by rfl)) h1) (by decide) (by decide) h1 hpl) fun σ H Q q => by
    obtain ⟨H0, G0, G, env, d, S, e1, q⟩ := q
    obtain ⟨c, h1, e1⟩ := Option.bind_eq_some_iff.mp e1
    cases e1
    refine ⟨H0, G0, G, env, c, S, h1, fun v H1 G1 x1 r1 => ?_⟩
    exact ⟨v, .ty T, .type (tyD c), .type T, isiD T c, rfl, .ty T, rpb_ty x1.wf r1, kit_ty (k _ (tyD_mem c)), q _ H1 G1 x1 (rp_bl _)⟩

/-! ### defs of the text -/
def spD (K : PySem.W.Frag) (run : List D → Option D) (n : Nat) : Sp := fun vs H Q _ => vs.length = n ∧ ∃ G ds d, Wf H G ∧ RpL K G ds vs ∧ run ds = some d ∧ ∀ v H' G', Ext H G H' G' → Rp K G' d v → Q v H'
mutual
def noMut : D → Bool
  | .non => true
  | .bl _ => true
  | .int _ => true
  | .str _ => true
  | .tup xs => noMutL xs
  | .lst _ => false
  | .dic _ => false
  | .scr _ => false
def noMutL : List D → Bool
  | [] => true
  | x :: xs => noMut x && noMutL xs
end
theorem noMut_tup (xs : List D) : noMut (.tup xs) = xs.all noMut := by
  have : ∀ ys : List D, noMutL ys = ys.all noMut := by
    intro ys
    induction ys with
    | nil => rfl
    | cons y ys ih => simp only [noMutL, List.all_cons, ih]
  simp only [noMut, this]
/-- G' cut back to what G held -/
def back (H G G' : Hp) : Hp := fun b => match H b with
  | some _ => G b
  | none => G' b
theorem back_ext {H G H' G' : Hp} (w : Wf H G) (x : Ext H H H' G') : Ext H G H' (back H G G') := by
  refine ⟨x.hh, fun b o e => ?_, ⟨fun b o e => ?_, fun b o e hh => ?_⟩, fun b o e => ?_⟩
  · unfold back
    rw [w.sub b o e]
    exact e
  · unfold back at e
    cases h : H b with
    | some u =>
      rw [h] at e
      exact x.hh _ _ (w.sub b o e)
    | none =>
      rw [h] at e
      exact x.wf.sub b o e
  · unfold back
    cases h : H b with
    | some u =>
      have := x.hh b u h
      rw [e] at this
      cases this
      exact w.tin b o h hh
    | none => exact x.wf.tin b o e hh
  · unfold back at e
    cases h : H b with
    | some u =>
      rw [h] at e
      exact .inl e
    | none => exact .inr rfl
theorem back_tup {K : PySem.W.Frag} {H G H' G' : Hp} (w : Wf H G) (x : Ext H H H' G') {a : Addr} {xs : List V} (h : SqT K G' a xs) : SqT K (back H G G') a xs := by
  have key : ∀ o : HO, Hid o = false → G' a = some o → back H G G' a = some o := fun o ho e => by
    unfold back
    cases h : H a with
    | some u =>
      have h1 := x.hh a u h
      rw [x.wf.sub a o e] at h1
      cases h1
      exact w.tin a o h ho
    | none => exact e
  rcases h with (h | ⟨o, h⟩) | h
  · exact .inl (.inl (key _ rfl h))
  · exact .inl (.inr ⟨o, key _ rfl h⟩)
  · exact .inr h
mutual
theorem back_rp {K : PySem.W.Frag} {H G H' G' : Hp} (w : Wf H G) (x : Ext H H H' G') : ∀ (d : D) (v : V), noMut d = true → Rp K G' d v → Rp K (back H G G') d v
  | .non, _, _, h => by simp only [Rp] at h ⊢; exact h
  | .bl _, _, _, h => by simp only [Rp] at h ⊢; exact h
  | .int _, _, _, h => by simp only [Rp] at h ⊢; exact h
  | .str _, _, _, h => by simp only [Rp] at h ⊢; exact h
  | .tup ds, _, n, h => by
    simp only [Rp] at h ⊢
    obtain ⟨a, xs, e1, e2, e3⟩ := h
    exact ⟨a, xs, e1, back_tup w x e2, back_rpL w x ds xs (by simpa only [noMut] using n) e3⟩
  | .lst ds, _, n, h => by simp [noMut] at n
  | .dic ds, _, n, h => by simp [noMut] at n
  | .scr _, _, n, h => by simp [noMut] at n
theorem back_rpL {K : PySem.W.Frag} {H G H' G' : Hp} (w : Wf H G) (x : Ext H H H' G') : ∀ (ds : List D) (xs : List V), noMutL ds = true → RpL K G' ds xs → RpL K (back H G G') ds xs
  | [], _, _, h => by simp only [RpL] at h ⊢; exact h
  | d :: ds, _, n, h => by
    simp only [RpL] at h ⊢
    simp only [noMutL, Bool.and_eq_true] at n
    obtain ⟨y, r, e1, e2, e3⟩ := h
    exact ⟨y, r, e1, back_rp w x d y n.1 e2, back_rpL w x ds r n.2 e3⟩
end
theorem RpBL.all {K : PySem.W.Frag} {H G : Hp} (w : Wf H G) : ∀ {ds : List D} {vs : List V}, RpBL K H G ds vs → RpL K H ds vs
  | [], _, h => by
    simp only [RpL]
    exact h
  | d :: ds, _, h => by
    obtain ⟨y, r, rfl, e2, e3⟩ := h
    exact RpL.cons (e2.all w) (RpBL.all w e3)
/-- f(e, ..): settled arguments -/
def eFn (run : List D → Option D) (fl : Fl) : Fe := fun env => (fl env).bind run
/-- .. where arguments may be lists that still change: what comes back has none -/
def eFnB (run : List D → Option D) (fl : Fl) : Fe := fun env => (fl env).bind fun ds => (run ds).bind fun d => if noMut d then some d else none
variable {k n : Nat} {g : Addr} {fd : FuncData} {ps : List Str} {run : List D → Option D} {x : Str}
theorem rpl_len {K : PySem.W.Frag} {G : Hp} {ds : List D} {vs : List V} (h : RpL K G ds vs) : ds.length = vs.length := h.len
theorem ex_fn (F : FnOk X.prog X.w X.K X.mg X.base CX0 k g fd ps (spD X.K run n)) (hn : ∀ ds d, run ds = some d → ds.length = n) (hr : Room k X.A) (hg : Gl X x) (hm : X.mg x = some (.ref g)) (hk : PySem.W.keepIn X.K (.ref g) = true) (hb : Binds X.K fd ps [])
    (ha : AX X (e :: es) fl) (hdb : (x == ("__debug__" : Str)) = false := by decide) (he : starEach (e :: es) X.env = (false, eval e X.env) :: starEach es X.env := by rfl) (hpl : (backTo pos (starEach es X.env)).any (·.1) = false := by rfl) :
    EX X (.Call (.Name x p) (e :: es) [] pos) (eFn run fl) := pe_imp (pe_call F hr hg hm hk hb .nil pass0 ha hdb he hpl) fun σ H Q q => by
  obtain ⟨H0, G0, G, env, d, S, e1, q⟩ := q
  obtain ⟨ds, h1, e1⟩ := Option.bind_eq_some_iff.mp e1
  refine ⟨H0, G0, G, env, ds, S, h1, fun vs H1 G1 x1 r1 => ?_⟩
  show spD X.K run n (vs ++ []) H1 Q E0
  rw [List.append_nil]
  exact ⟨by rw [← r1.len, hn ds d e1], G1, ds, d, x1.wf, r1, e1, fun v H2 G2 x2 r2 => q v H2 G2 (x1.trans x2) r2⟩
theorem ex_fnB (F : FnOk X.prog X.w X.K X.mg X.base CX0 k g fd ps (spD X.K run n)) (hn : ∀ ds d, run ds = some d → ds.length = n) (hr : Room k X.A) (hg : Gl X x) (hm : X.mg x = some (.ref g)) (hk : PySem.W.keepIn X.K (.ref g) = true) (hb : Binds X.K fd ps [])
    (ha : ABX X (e :: es) fl) (hdb : (x == ("__debug__" : Str)) = false := by decide) (he : starEach (e :: es) X.env = (false, eval e X.env) :: starEach es X.env := by rfl) (hpl : (backTo pos (starEach es X.env)).any (·.1) = false := by rfl) :
    EX X (.Call (.Name x p) (e :: es) [] pos) (eFnB run fl) := pe_imp (pe_call F hr hg hm hk hb .nil pass0 ha hdb he hpl) fun σ H Q q => by
  obtain ⟨H0, G0, G, env, d, S, e1, q⟩ := q
  obtain ⟨ds, h1, e1⟩ := Option.bind_eq_some_iff.mp e1
  obtain ⟨d', h2, e1⟩ := Option.bind_eq_some_iff.mp e1
  split at e1
  · rename_i hz
    cases e1
    refine ⟨H0, G0, G, env, ds, S, h1, fun vs H1 G1 x1 r1 => ?_⟩
    show spD X.K run n (vs ++ []) H1 Q E0
    rw [List.append_nil]
    refine ⟨by rw [← (r1.all x1.wf).len, hn ds d h2], H1, ds, d, ⟨Same.refl _, fun _ _ e _ => e⟩, r1.all x1.wf, h2, fun v H2 G2 x2 r2 => ?_⟩
    exact q v H2 _ (x1.trans (back_ext x1.wf x2)) (back_rp x1.wf x2 d v hz r2)
  · cases e1
end
end PD

set_option Elab.async false
set_option linter.all false
set_option maxRecDepth 100000
namespace PD
open PySem PySem.Spec PyProof.Rows L2

/-! ### what is walked -/
def ItC (K : PySem.W.Frag) (J : It) (ds : List D) (H1 G1 : Hp) : Prop := ∀ (i : Nat) (H G : Hp), Same H1 H → Same G1 G → Wf H G →
  (ds.length ≤ i → J.stop i H) ∧ ∀ d, ds[i]? = some d → J.go i H ∧ ∀ x H', J.yld i H x H' → ∃ G', Ext H G H' G' ∧ Rp K G' d x
def ItL (K : PySem.W.Frag) (J : It) (ds : List D) (H1 G1 : Hp) : Prop := ∀ (i : Nat) (H G : Hp), Same G1 G → Wf H G →
  (ds.length ≤ i → J.stop i H) ∧ ∀ d, ds[i]? = some d → J.go i H ∧ ∀ x H', J.yld i H x H' → ∃ G', Ext H G H' G' ∧ Rp K G' d x
theorem ItL.c {K : PySem.W.Frag} {J : It} {ds : List D} {H1 G1 : Hp} (h : ItL K J ds H1 G1) : ItC K J ds H1 G1 := fun i H G _ s w => h i H G s w
def iC (K : PySem.W.Frag) (f : Fl) : TI := fun σ H R => ∃ H0 G0 G env ds, Ste K H0 G0 H G σ env ∧ f env = some ds ∧ ∀ J H' G', Ext H G H' G' → ItC K J ds H' G' → R J H'
def iL (K : PySem.W.Frag) (f : Fl) : TI := fun σ H R => ∃ H0 G0 G env ds, Ste K H0 G0 H G σ env ∧ f env = some ds ∧ ∀ J H' G', Ext H G H' G' → ItL K J ds H' G' → R J H'
abbrev ICX (X : Cx) (tg e : Expr) (f : Fl) : Prop := PI X tg e (iC X.K f)
abbrev ILX (X : Cx) (tg e : Expr) (f : Fl) : Prop := PI X tg e (iL X.K f)
theorem pi_imp {X : Cx} {tg e : Expr} {t t' : TI} (h : PI X tg e t) (i : ∀ σ H Q, t' σ H Q → t σ H Q) : PI X tg e t' := ⟨fun pins s σ H Q I q => h.run pins s σ H Q I (i σ H Q q)⟩
theorem ilx_c {X : Cx} {tg e : Expr} {f : Fl} (h : ILX X tg e f) : ICX X tg e f := pi_imp h fun σ H R q => by
  obtain ⟨H0, G0, G, env, ds, S, e1, q⟩ := q
  exact ⟨H0, G0, G, env, ds, S, e1, fun J H' G' x r => q J H' G' x r.c⟩
def iAny (K : PySem.W.Frag) (tl : TE) : TI := fun σ H R => tl σ H fun x H1 => (∃ a, x = .ref a ∧ (∃ xs, SqL K H1 a xs) ∧ R (Itl K a) H1) ∨ (∃ a, x = .ref a ∧ (∃ xs, SqT K H1 a xs) ∧ R (Itt K a) H1) ∨ ∃ z, x = .str z ∧ R (Its z) H1
theorem pi_any {X : Cx} {tg l : Expr} {tl : TE} (hl : PE X l tl) : PI X tg l (iAny X.K tl) := by
  refine ⟨fun pins s σ H R I h => ?_⟩
  refine thn (hl.run pins s σ H _ I h) fun v s1 ⟨x, H1, I1, r1, q1⟩ => ?_
  rcases q1 with ⟨a, e, hq⟩ | ⟨a, e, hq⟩ | ⟨z, e, hq⟩
  · have c : PE X l (fun σ H Q => False) := ⟨fun _ _ _ _ _ _ z => z.elim⟩
    subst e
    cases r1
    obtain ⟨⟨xs, hq⟩, q⟩ := hq
    obtain ⟨its, rv, p, hz⟩ := I1.list hq
    refine wpAny_pyIter_list p.isList ?_
    refine ⟨s1.heap.objs.size, [s1.heap.objs.size], _, _, H1, rfl, I1.kept (t' := s1.toks) fun b o e => Heap.get?_push_of_some _ e, turn_list a _, ⟨_, Heap.get?_push_size _ rfl, rfl, rfl⟩, fun b hb => ?_, q⟩
    have e : b = s1.heap.objs.size := by simpa using hb
    subst e
    exact I1.fpOk (Nat.le_refl _) (I1.hok.fresh (Nat.le_refl _))
  · subst e
    cases r1
    obtain ⟨⟨xs, hq⟩, q⟩ := hq
    obtain ⟨its, rv, p, hz⟩ := I1.tuple hq
    refine wpAny_pyIter_tuple (show s1.heap.IsTuple a its.toArray from p) ?_
    refine ⟨s1.heap.objs.size, [s1.heap.objs.size], _, _, H1, rfl, I1.kept (t' := s1.toks) fun b o e => Heap.get?_push_of_some _ e, turn_tuple a _, ⟨_, Heap.get?_push_size _ rfl, rfl, rfl⟩, fun b hb => ?_, q⟩
    have e : b = s1.heap.objs.size := by simpa using hb
    subst e
    exact I1.fpOk (Nat.le_refl _) (I1.hok.fresh (Nat.le_refl _))
  · subst e
    obtain ⟨t, rfl⟩ := r1
    cases ha : z.cps.all (· < 128)
    · exact wpAny_pyIter_wide ha (pi_one (tk := s1.toks) I1 _ (turn_str _ z t "str_iterator" (.inr rfl)) ⟨_, Heap.get?_push_size _ rfl, rfl, rfl⟩ hq)
    · exact wpAny_pyIter_ascii ha (pi_one (tk := s1.toks) I1 _ (turn_str _ z t "str_ascii_iterator" (.inl rfl)) ⟨_, Heap.get?_push_size _ rfl, rfl, rfl⟩ hq)
/-- what a sequence gives -/
def itemsD : D → Option (List D)
  | .lst xs => some xs
  | .tup xs => some xs
  | .scr ns => some (ns.map D.int)
  | .str z => some (z.cps.toList.map fun c => D.str ⟨#[c]⟩)
  | _ => none
def iSeq (f : Fe) : Fl := fun env => (f env).bind itemsD
section
variable {X : Cx} {tg e : Expr} {f : Fe} {fl : Fl} {pos p : Pos}
theorem itl_ok {K : PySem.W.Frag} {a : Addr} {xs : List V} {ds : List D} {H1 G1 : Hp} (h : ∀ H G : Hp, Same G1 G → Wf H G → Same H1 H → SqL K H a xs) (r : RpL K G1 ds xs) : ItC K (Itl K a) ds H1 G1 := fun i H G sh sg w => by
  have hs := h H G sg w sh
  refine ⟨fun hi => ⟨xs, hs, by rw [← r.len]; exact hi⟩, fun d hd => ?_⟩
  obtain ⟨x, hx, rx⟩ := r.at hd
  refine ⟨⟨xs, x, hs, hx⟩, fun y H' hy => ?_⟩
  obtain ⟨rfl, hy⟩ := hy
  have := hy xs hs
  rw [hx] at this
  cases this
  exact ⟨G, Ext.refl w, Rp.mono sg _ _ rx⟩
theorem itl_okL {K : PySem.W.Frag} {a : Addr} {xs : List V} {ds : List D} {H1 G1 : Hp} (h : ∀ H G : Hp, Same G1 G → Wf H G → SqL K H a xs) (r : RpL K G1 ds xs) : ItL K (Itl K a) ds H1 G1 := fun i H G sg w => by
  have hs := h H G sg w
  refine ⟨fun hi => ⟨xs, hs, by rw [← r.len]; exact hi⟩, fun d hd => ?_⟩
  obtain ⟨x, hx, rx⟩ := r.at hd
  refine ⟨⟨xs, x, hs, hx⟩, fun y H' hy => ?_⟩
  obtain ⟨rfl, hy⟩ := hy
  have := hy xs hs
  rw [hx] at this
  cases this
  exact ⟨G, Ext.refl w, Rp.mono sg _ _ rx⟩
theorem itt_okL {K : PySem.W.Frag} {a : Addr} {xs : List V} {ds : List D} {H1 G1 : Hp} (h : SqT K G1 a xs) (r : RpL K G1 ds xs) : ItL K (Itt K a) ds H1 G1 := fun i H G sg w => by
  have hs := sqt_up w (Same.tup sg h)
  refine ⟨fun hi => ⟨xs, hs, by rw [← r.len]; exact hi⟩, fun d hd => ?_⟩
  obtain ⟨x, hx, rx⟩ := r.at hd
  refine ⟨⟨xs, x, hs, hx⟩, fun y H' hy => ?_⟩
  obtain ⟨rfl, hy⟩ := hy
  have := hy xs hs
  rw [hx] at this
  cases this
  exact ⟨G, Ext.refl w, Rp.mono sg _ _ rx⟩
theorem its_okL {K : PySem.W.Frag} {z : Str} {H1 G1 : Hp} : ItL K (Its z) (z.cps.toList.map fun c => D.str ⟨#[c]⟩) H1 G1 := fun i H G sg w => by
  refine ⟨fun hi => ?_, fun d hd => ?_⟩
  · rw [List.length_map, Array.length_toList] at hi
    exact hi
  · rw [List.getElem?_map] at hd
    obtain ⟨c, hc, rfl⟩ := Option.map_eq_some_iff.mp hd
    rw [Array.getElem?_toList] at hc
    refine ⟨(Array.getElem?_eq_some_iff.mp hc).1, fun y H' hy => ?_⟩
    obtain ⟨rfl, c', h1, rfl⟩ := hy
    rw [hc] at h1
    cases h1
    exact ⟨G, Ext.refl w, rp_str _⟩
theorem icx_seq (h : BX X e f) : ICX X tg e (iSeq f) := pi_imp (pi_any h) fun σ H R q => by
  obtain ⟨H0, G0, G, env, ds, S, e1, q⟩ := q
  obtain ⟨d, h1, e1⟩ := Option.bind_eq_some_iff.mp e1
  refine ⟨H0, G0, G, env, d, S, h1, fun v H1 G1 x1 r1 => ?_⟩
  cases d with
  | lst xs =>
    cases e1
    obtain ⟨a, xs, rfl, h2, h3⟩ := r1
    exact .inl ⟨a, rfl, ⟨xs, SqL.of h2⟩, q _ H1 G1 x1 (itl_ok (fun H G _ _ sh => SqL.of (sh _ _ h2)) h3)⟩
  | tup xs =>
    cases e1
    obtain ⟨a, xs, rfl, h2, h3⟩ := rpb_tup r1
    exact .inr (.inl ⟨a, rfl, ⟨xs, sqt_up x1.wf h2⟩, q _ H1 G1 x1 (itt_okL h2 h3).c⟩)
  | scr ns =>
    cases e1
    obtain ⟨a, rfl, h2⟩ := rpb_scr r1
    exact .inl ⟨a, rfl, ⟨_, x1.wf.sub.seq h2⟩, q _ H1 G1 x1 (itl_okL (fun H G sg w => w.sub.seq (sg.seq h2)) (RpL.of_ints ns)).c⟩
  | str z =>
    cases e1
    exact .inr (.inr ⟨z, rpb_str r1, q _ H1 G1 x1 its_okL.c⟩)
  | _ => cases e1
theorem ilx_seq (h : EX X e f) : ILX X tg e (iSeq f) := pi_imp (pi_any h) fun σ H R q => by
  obtain ⟨H0, G0, G, env, ds, S, e1, q⟩ := q
  obtain ⟨d, h1, e1⟩ := Option.bind_eq_some_iff.mp e1
  refine ⟨H0, G0, G, env, d, S, h1, fun v H1 G1 x1 r1 => ?_⟩
  cases d with
  | lst xs =>
    cases e1
    simp only [Rp] at r1
    obtain ⟨a, xs, rfl, h2, h3⟩ := r1
    exact .inl ⟨a, rfl, ⟨xs, SqL.of (x1.wf.sub _ _ h2)⟩, q _ H1 G1 x1 (itl_okL (fun H G sg w => SqL.of (w.sub _ _ (sg _ _ h2))) h3)⟩
  | tup xs =>
    cases e1
    simp only [Rp] at r1
    obtain ⟨a, xs, rfl, h2, h3⟩ := r1
    exact .inr (.inl ⟨a, rfl, ⟨xs, sqt_up x1.wf h2⟩, q _ H1 G1 x1 (itt_okL h2 h3)⟩)
  | scr ns =>
    cases e1
    simp only [Rp] at r1
    obtain ⟨a, rfl, h2⟩ := r1
    exact .inl ⟨a, rfl, ⟨_, x1.wf.sub.seq h2⟩, q _ H1 G1 x1 (itl_okL (fun H G sg w => w.sub.seq (sg.seq h2)) (RpL.of_ints ns))⟩
  | str z =>
    cases e1
    simp only [Rp] at r1
    exact .inr (.inr ⟨z, r1, q _ H1 G1 x1 its_okL⟩)
  | _ => cases e1

/-! ### ranges -/
def rngL (lo : Int) (n : Nat) : List D := (List.range n).map fun k => .int (lo + (k : Nat))
def rngOk (i : Int) : Bool := decide (-1000000000 ≤ i) && decide (i ≤ 1000000000)
theorem rngOk_b {i : Int} (h : rngOk i = true) : -(2 ^ 62) ≤ i ∧ i < 2 ^ 62 := by
  unfold rngOk at h
  simp only [Bool.and_eq_true, decide_eq_true_eq] at h
  omega
theorem itr_okL {K : PySem.W.Frag} {lo : Int} {n : Nat} {H1 G1 : Hp} : ItL K (Itr lo n) (rngL lo n) H1 G1 := fun i H G sg w => by
  unfold rngL
  refine ⟨fun hi => ?_, fun d hd => ?_⟩
  · rw [List.length_map, List.length_range] at hi
    exact hi
  · rw [List.getElem?_map] at hd
    obtain ⟨c, hc, rfl⟩ := Option.map_eq_some_iff.mp hd
    obtain ⟨hi, hc⟩ := List.getElem?_eq_some_iff.mp hc
    rw [List.getElem_range] at hc
    subst hc
    rw [List.length_range] at hi
    refine ⟨hi, fun y H' hy => ?_⟩
    obtain ⟨rfl, rfl⟩ := hy
    exact ⟨G, Ext.refl w, rp_int _⟩
def iRg1 (f : Fl) : Fl := fun env => match f env with
  | some [.int j] => if rngOk j then some (rngL 0 j.toNat) else none
  | _ => none
def iRg2 (f : Fl) : Fl := fun env => match f env with
  | some [.int i, .int j] => if rngOk i && rngOk j then some (rngL i (j - i).toNat) else none
  | _ => none
variable {a b c : Expr}
theorem ilx_rg1 (hg : Gl X "range") (hm : X.mg "range" = none) (ha : ABX X [a] fl) (hs : starEach [a] X.env = [(false, eval a X.env)] := by rfl) : ILX X tg (.Call (.Name "range" p) [a] [] pos) (iRg1 fl) := pi_imp (pi_range1 hg hm ha hs) fun σ H R q => by
  obtain ⟨H0, G0, G, env, ds, S, e1, q⟩ := q
  unfold iRg1 at e1
  split at e1
  · rename_i j hj
    split at e1
    · rename_i hz
      cases e1
      refine ⟨H0, G0, G, env, _, S, hj, fun vs H1 G1 x1 r1 => ?_⟩
      obtain ⟨v, rfl, r⟩ := rpbl1 r1
      exact ⟨j, by rw [rpb_int r], (rngOk_b hz).1, (rngOk_b hz).2, q _ H1 G1 x1 itr_okL⟩
    · cases e1
  · cases e1
theorem ilx_rg2 (hg : Gl X "range") (hm : X.mg "range" = none) (ha : ABX X [a, b] fl) (hs : starEach [a, b] X.env = [(false, eval a X.env), (false, eval b X.env)] := by rfl) (hs2 : starEach [b] X.env = [(false, eval b X.env)] := by rfl) : ILX X tg (.Call (.Name "range" p) [a, b] [] pos) (iRg2 fl) := pi_imp (pi_range2 hg hm ha hs hs2) fun σ H R q => by
  obtain ⟨H0, G0, G, env, ds, S, e1, q⟩ := q
  unfold iRg2 at e1
  split at e1
  · rename_i i j hj
    split at e1
    · rename_i hz
      rw [Bool.and_eq_true] at hz
      cases e1
      refine ⟨H0, G0, G, env, _, S, hj, fun vs H1 G1 x1 r1 => ?_⟩
      obtain ⟨v, u, rfl, r, r'⟩ := rpbl2 r1
      exact ⟨i, j, by rw [rpb_int r, rpb_int r'], ⟨(rngOk_b hz.1).1, (rngOk_b hz.1).2, (rngOk_b hz.2).1, (rngOk_b hz.2).2⟩, q _ H1 G1 x1 itr_okL⟩
    · cases e1
  · cases e1

/-! ### targets -/
abbrev Ft := D → List Sl → Option (List Sl)
abbrev Fts := List D → List Sl → Option (List Sl)
def out (S : List Nat) (σ σ' : L2.St) : Prop := σ'.length = σ.length ∧ ∀ i, i ∉ S → σ'[i]? = σ[i]?
def tG (K : PySem.W.Frag) (f : Ft) (S : List Nat) : TG := fun v σ H Q => ∃ H0 G0 G env d env', Ste K H0 G0 H G σ env ∧ Rp K G d v ∧ f d env = some env' ∧ ∀ σ', Ste K H0 G0 H G σ' env' → out S σ σ' → Q σ' H
def tGs (K : PySem.W.Frag) (f : Fts) (S : List Nat) : TGs := fun vs σ H Q => ∃ H0 G0 G env ds env', Ste K H0 G0 H G σ env ∧ RpL K G ds vs ∧ f ds env = some env' ∧ ∀ σ', Ste K H0 G0 H G σ' env' → out S σ σ' → Q σ' H
abbrev GX (X : Cx) (tg : Expr) (f : Ft) (S : List Nat) : Prop := PG X tg (tG X.K f S)
abbrev GsX (X : Cx) (tg : List Expr) (f : Fts) (S : List Nat) : Prop := PGs X tg (tGs X.K f S)
theorem pg_imp {tg : Expr} {t t' : TG} (h : PG X tg t) (i : ∀ v σ H Q, t' v σ H Q → t v σ H Q) : PG X tg t' := ⟨fun pins s σ H v u Q I r q => h.run pins s σ H v u Q I r (i v σ H Q q)⟩
theorem pgs_imp {tg : List Expr} {t t' : TGs} (h : PGs X tg t) (i : ∀ v σ H Q, t' v σ H Q → t v σ H Q) : PGs X tg t' := ⟨fun pins s σ H v u Q I r q => h.run pins s σ H v u Q I r (i v σ H Q q)⟩
def gNm (i : Nat) : Ft := fun d env => some (env.set i (.val d))
def gTp (f : Fts) : Ft := fun d env => match d with
  | .tup xs => f xs env
  | _ => none
def gsNil : Fts := fun ds env => match ds with
  | [] => some env
  | _ => none
def gsCons (f : Ft) (g : Fts) : Fts := fun ds env => match ds with
  | d :: r => (f d env).bind fun env' => g r env'
  | _ => none
theorem gx_nm {i : Nat} {x : Str} (hN : X.N.Nodup) (hi : X.N[i]? = some x) (hx : Loc X.env.scope x) (hf : X.fn x = true ∨ X.env.scope.names.lookup x = some .local := by first | exact .inl rfl | exact .inr rfl | assumption) : GX X (.Name x pos) (gNm i) [i] :=
  pg_imp (pg_name hN hi hx hf) fun v σ H Q q => by
    obtain ⟨H0, G0, G, env, d, env', S, r, e, q⟩ := q
    cases e
    refine q _ (S.setV i rfl ⟨v, rfl, r⟩) ⟨by simp, fun j hj => ?_⟩
    rw [List.getElem?_set_ne]
    intro z
    subst z
    simp at hj
theorem gsx_nil : GsX X [] gsNil [] := pgs_imp pgs_nil fun vs σ H Q q => by
  obtain ⟨H0, G0, G, env, ds, env', S, r, e, q⟩ := q
  cases ds with
  | nil =>
    cases e
    simp only [RpL] at r
    exact ⟨r, q σ S ⟨rfl, fun _ _ => rfl⟩⟩
  | cons _ _ => cases e
theorem gsx_cons {e : Expr} {es : List Expr} {f : Ft} {g : Fts} {S1 S2 : List Nat} (h1 : GX X e f S1) (h2 : GsX X es g S2) (hs : (assignEach (e :: es) X.env).map (·.2) = assign e X.env :: (assignEach es X.env).map (·.2) := by rfl) : GsX X (e :: es) (gsCons f g) (S1 ++ S2) :=
  pgs_imp (pgs_cons h1 h2 hs) fun vs σ H Q q => by
    obtain ⟨H0, G0, G, env, ds, env', S, r, e, q⟩ := q
    cases ds with
    | nil => cases e
    | cons d ds =>
      obtain ⟨env1, h3, h4⟩ := Option.bind_eq_some_iff.mp e
      simp only [RpL] at r
      obtain ⟨x, xr, rfl, r1, r2⟩ := r
      refine ⟨x, xr, rfl, H0, G0, G, env, d, env1, S, r1, h3, fun σ1 T1 o1 => ⟨H0, G0, G, env1, ds, env', T1, r2, h4, fun σ2 T2 o2 => q σ2 T2 ⟨o2.1.trans o1.1, fun i hi => ?_⟩⟩⟩
      rw [List.mem_append, not_or] at hi
      exact (o2.2 i hi.2).trans (o1.2 i hi.1)
theorem gx_tp {es : List Expr} {k : Nat} {f : Fts} {S : List Nat} {n : Nat} (hc : X.calm = true) (h : GsX X es f S) (hl : ∀ ds env env', f ds env = some env' → ds.length = n)
    (hn : (assignEach es X.env).length = n := by rfl) (hst : (assignEach es X.env).findIdx? (·.1) = none := by rfl) : GX X (.Tuple es k pos) (gTp f) S := pg_imp (pg_tup hc h hn hst) fun v σ H Q q => by
  obtain ⟨H0, G0, G, env, d, env', S', r, e, q⟩ := q
  cases d with
  | tup ds =>
    simp only [Rp] at r
    obtain ⟨a, xs, rfl, r1, r2⟩ := r
    have e' : f ds env = some env' := e
    exact ⟨a, xs, rfl, sqt_up S'.wf r1, by rw [← r2.len]; exact hl _ _ _ e', H0, G0, G, env, ds, env', S', r2, e', q⟩
  | _ => cases e
theorem gsl_nil : ∀ ds env env', gsNil ds env = some env' → ds.length = 0 := fun ds env env' h => by
  cases ds with
  | nil => rfl
  | cons _ _ => cases h
theorem gsl_cons {f : Ft} {g : Fts} {n : Nat} (h : ∀ ds env env', g ds env = some env' → ds.length = n) : ∀ ds env env', gsCons f g ds env = some env' → ds.length = n + 1 := fun ds env env' e => by
  cases ds with
  | nil => cases e
  | cons d ds =>
    obtain ⟨env1, h3, h4⟩ := Option.bind_eq_some_iff.mp e
    rw [List.length_cons, h _ _ _ h4]

/-! ### a new list -/
def tF (K : PySem.W.Frag) (f : Fl) : TE := fun σ H Q => ∃ H0 G0 G env ds, Ste K H0 G0 H G σ env ∧ f env = some ds ∧ ∀ p xs H' G', Ext H G H' G' → H p = none → H' p = some (.lst xs) → G' p = none → RpL K G' ds xs → Q (.ref p) H'
abbrev FX (X : Cx) (e : Expr) (f : Fl) : Prop := PE X e (tF X.K f)
def asL (f : Fl) : Fe := fun env => (f env).map .lst
/-- a list that still changed is settled -/
theorem Ext.settle {H G : Hp} (w : Wf H G) {H0 : Hp} {p : Addr} {xs : List V} (h : H p = some (.lst xs)) : Wf H (upd G p (.lst xs)) := by
  refine ⟨fun b o e => ?_, fun b o e hh => ?_⟩
  · by_cases hb : b = p
    · subst hb
      rw [upd_same] at e
      rw [h]
      exact e
    · rw [upd_ne hb] at e
      exact w.sub b o e
  · by_cases hb : b = p
    · subst hb
      rw [h] at e
      cases e
      cases hh
    · rw [upd_ne hb]
      exact w.tin b o e hh
theorem settle_ext {H G H' G' : Hp} (x : Ext H G H' G') {p : Addr} {xs : List V} (h : H' p = some (.lst xs)) (n : H p = none) (g : G' p = none) : Ext H G H' (upd G' p (.lst xs)) := by
  refine ⟨x.hh, fun b o e => ?_, Ext.settle (H0 := H) x.wf h, fun b o e => ?_⟩
  · have hb : b ≠ p := fun z => by
      subst z
      have z := x.gg _ _ e
      rw [g] at z
      cases z
    rw [upd_ne hb]
    exact x.gg b o e
  · by_cases hb : b = p
    · subst hb
      exact .inr n
    · rw [upd_ne hb] at e
      exact x.new b o e
theorem tF_D {K : PySem.W.Frag} {fl : Fl} {σ : L2.St} {H : Hp} {Q : VK} (q : tD K (asL fl) σ H Q) : tF K fl σ H Q := by
  obtain ⟨H0, G0, G, env, d, S, e1, q⟩ := q
  obtain ⟨ds, h1, rfl⟩ := Option.map_eq_some_iff.mp e1
  refine ⟨H0, G0, G, env, ds, S, h1, fun p xs H1 G1 x1 hn hp hg r => ?_⟩
  refine q _ H1 _ (settle_ext x1 hp hn hg) ?_
  simp only [Rp]
  exact ⟨p, xs, rfl, upd_same, RpL.mono (same_updN hg) _ _ r⟩
theorem ex_f (h : FX X e fl) : EX X e (asL fl) := pe_imp h fun _ _ _ q => tF_D q
/-- from HandS's «a list at any new place» -/
theorem tF_new {K : PySem.W.Frag} {H G : Hp} {ds : List D} {xs : List V} {Q : VK} (w : Wf H G) (r : RpL K G ds xs) (q : ∀ p xs H' G', Ext H G H' G' → H p = none → H' p = some (.lst xs) → G' p = none → RpL K G' ds xs → Q (.ref p) H') : ∀ p, H p = none → Q (.ref p) (upd H p (.lst xs)) :=
  fun p hp => q p xs _ G (Ext.fresh w hp rfl) hp upd_same (wf_none w hp) r
theorem fx_lst {es : List Expr} (h : AX X es fl) : FX X (.List es pos) (fun env => (fl env).bind fun ds => if lim ds.length then some ds else none) :=
  pe_imp (pe_lst h) fun σ H Q q => by
    obtain ⟨H0, G0, G, env, d, S, e1, q⟩ := q
    obtain ⟨ds, h1, e1⟩ := Option.bind_eq_some_iff.mp e1
    split at e1
    · rename_i hz
      cases e1
      exact ⟨H0, G0, G, env, _, S, h1, fun vs H1 G1 x1 r1 => ⟨by rw [← r1.len]; exact lim_le hz, tF_new x1.wf r1 fun p xs H2 G2 x2 n2 h2 g2 r2 => q p xs H2 G2 (x1.trans x2) (x1.hh.free n2) h2 g2 r2⟩⟩
    · cases e1

/-! ### comprehensions -/
def wipeE (env : List Sl) : List Nat → List Sl
  | [] => env
  | v :: vs => (wipeE env vs).set v .un
theorem Ste.wipe {K : PySem.W.Frag} {H0 G0 H G : Hp} {σ : L2.St} {env : List Sl} (S : Ste K H0 G0 H G σ env) : ∀ vs : List Nat, Ste K H0 G0 H G (L2.wipe σ vs) (wipeE env vs)
  | [] => S
  | v :: vs => (Ste.wipe S vs).setV v rfl trivial
def compL (t : Ft) (c : Fb) (y : Fe) (env : List Sl) : List D → Option (List D)
  | [] => some []
  | x :: xs => (t x env).bind fun env1 => (c env1).bind fun k => if k then (y env1).bind fun d => (compL t c y env xs).map (d :: ·) else compL t c y env xs
def fLc (own : List Nat) (it : Fl) (t : Ft) (c : Fb) (y : Fe) : Fl := fun env => (it env).bind fun xs => if lim xs.length then compL t c y (wipeE env own) xs else none
def tYesF : Fb := fun _ => some true
theorem out_wipe {σ σ' : L2.St} {S vs : List Nat} (h : out S (L2.wipe σ vs) σ') (hs : ∀ i ∈ S, i ∈ vs) : L2.wipe σ' vs = L2.wipe σ vs := by
  have key : ∀ (τ : L2.St) (ws : List Nat) (i : Nat), i < τ.length → (L2.wipe τ ws)[i]? = if i ∈ ws then some none else τ[i]? := by
    intro τ ws
    induction ws with
    | nil => intro i hi; simp [L2.wipe]
    | cons v ws ih =>
      intro i hi
      unfold L2.wipe
      by_cases hv : v = i
      · subst hv
        rw [List.getElem?_set_self (by rw [wipe_length]; exact hi)]
        simp
      · rw [List.getElem?_set_ne hv, ih i hi]
        simp only [List.mem_cons, (show ¬ i = v from fun e => hv e.symm), false_or]
  apply List.ext_getElem?
  intro i
  have hl : σ'.length = σ.length := by rw [h.1, wipe_length]
  by_cases hi : i < σ.length
  · rw [key σ' vs i (by omega), key σ vs i hi]
    by_cases hm : i ∈ vs
    · simp [hm]
    · rw [if_neg hm, if_neg hm]
      have := h.2 i (fun z => hm (hs i z))
      rw [key σ vs i hi, if_neg hm] at this
      exact this
  · rw [List.getElem?_eq_none (by rw [wipe_length]; omega), List.getElem?_eq_none (by rw [wipe_length]; omega)]
/-- the new list grows -/
theorem Ext.grow {H1 G1 H G : Hp} (x : Ext H1 G1 H G) {p : Addr} {xs : List V} (n : H1 p = none) (g : G p = none) : Ext H1 G1 (upd H p (.lst xs)) G := by
  refine ⟨fun b o e => ?_, x.gg, ⟨fun b o e => ?_, fun b o e hh => ?_⟩, x.new⟩
  · rw [upd_ne (ne_of_none e n)]
    exact x.hh b o e
  · rw [upd_ne (ne_of_none e g)]
    exact x.wf.sub b o e
  · by_cases hb : b = p
    · subst hb
      rw [upd_same] at e
      cases e
      cases hh
    · rw [upd_ne hb] at e
      exact x.wf.tin b o e hh
theorem tLc_of {K : PySem.W.Frag} {it : Fl} {t : Ft} {Sg : List Nat} {ct : Fb} {y : Fe} {vs : List Nat} (hsub : ∀ i ∈ Sg, i ∈ vs) {σ : L2.St} {H : Hp} {Q : VK} (q : tF K (fLc vs it t ct y) σ H Q) : tLc (iC K it) (tG K t Sg) (tT K ct) (tD K y) vs σ H Q := by
  obtain ⟨H0, G0, G, env, ds, S, e1, q⟩ := q
  obtain ⟨xs, h1, e1⟩ := Option.bind_eq_some_iff.mp e1
  split at e1
  · rename_i hz
    refine ⟨H0, G0, G, env, xs, S, h1, fun J H1 G1 x1 hJ Dd hD => ?_⟩
    have S1 := S.ext x1
    have hz' := lim_le hz
    refine ⟨fun i m H2 => m = xs.length - i ∧ i ≤ xs.length ∧ ∃ G2 acc ds1 ds2, Ext H1 G1 H2 G2 ∧ H2 Dd = some (.lst acc) ∧ G2 Dd = none ∧ RpL K G2 ds1 acc ∧ ds1.length ≤ i ∧ compL t ct y (wipeE env vs) (xs.drop i) = some ds2 ∧ ds = ds1 ++ ds2,
      ⟨xs.length, by omega, Nat.zero_le _, G1, [], [], ds, Ext.fresh x1.wf hD rfl, upd_same, wf_none x1.wf hD, RpL.nil, Nat.le_refl _, e1, rfl⟩, ?_⟩
    rintro i m H2 ⟨rfl, hi, G2, acc, ds1, ds2, x2, hD2, gD2, r2, hl2, hc2, rfl⟩
    have hj := hJ i H2 G2 x2.hh x2.gg x2.wf
    by_cases hlt : i < xs.length
    · have hx : xs[i]? = some xs[i] := List.getElem?_eq_getElem hlt
      obtain ⟨go, hy⟩ := hj.2 _ hx
      rw [List.drop_eq_getElem_cons hlt] at hc2
      obtain ⟨env1, h3, h4⟩ := Option.bind_eq_some_iff.mp (show (t xs[i] (wipeE env vs)).bind _ = some ds2 from hc2)
      obtain ⟨k, h5, h6⟩ := Option.bind_eq_some_iff.mp h4
      refine .inr ⟨go, fun H3 => ∃ m', m' < xs.length - i ∧ (m' = xs.length - (i + 1) ∧ i + 1 ≤ xs.length ∧ ∃ G2 acc ds1' ds2', Ext H1 G1 H3 G2 ∧ H3 Dd = some (.lst acc) ∧ G2 Dd = none ∧ RpL K G2 ds1' acc ∧ ds1'.length ≤ i + 1 ∧ compL t ct y (wipeE env vs) (xs.drop (i + 1)) = some ds2' ∧ ds1 ++ ds2 = ds1' ++ ds2'), fun H3 h => h, fun x H3 hyld => ?_⟩
      obtain ⟨G3, x3, r3⟩ := hy x H3 hyld
      have S3 : Ste K H0 G0 H3 G3 (L2.wipe σ vs) (wipeE env vs) := ((S1.ext x2).ext x3).wipe vs
      refine ⟨H0, G0, G3, _, _, env1, S3, r3, h3, fun σ4 S4 o4 => ⟨out_wipe o4 hsub, H0, G0, G3, env1, k, S4, h5, fun H5 G5 x5 => ?_⟩⟩
      have x35 := x3.trans x5
      cases k with
      | true =>
        obtain ⟨d, h7, h8⟩ := Option.bind_eq_some_iff.mp (show (y env1).bind _ = some ds2 from h6)
        obtain ⟨ds3, h9, rfl⟩ := Option.map_eq_some_iff.mp h8
        refine ⟨H0, G0, G5, env1, d, S4.ext x5, h7, fun v H6 G6 x6 r6 => ?_⟩
        have x26 := x35.trans x6
        have hD6 := x26.hh _ _ hD2
        have gD6 := ext_none x26 hD2 gD2
        have hl : acc.length ≤ i := by rw [← r2.len]; exact hl2
        refine ⟨acc, hD6, by omega, xs.length - (i + 1), by omega, rfl, hlt, G6, acc ++ [v], ds1 ++ [d], ds3, (x2.trans x26).grow hD gD6, upd_same, gD6, (RpL.mono x26.gg _ _ r2).snoc r6, ?_, h9, ?_⟩
        · rw [List.length_append, List.length_singleton]
          omega
        · rw [List.append_assoc]
          rfl
      | false =>
        have x25 := x35
        exact ⟨xs.length - (i + 1), by omega, rfl, hlt, G5, acc, ds1, ds2, x2.trans x25, x25.hh _ _ hD2, ext_none x25 hD2 gD2, RpL.mono x25.gg _ _ r2, by omega, h6, rfl⟩
    · have e : i = xs.length := by omega
      subst e
      rw [List.drop_length] at hc2
      cases hc2
      rw [List.append_nil] at q
      exact .inl ⟨hj.1 (Nat.le_refl _), q Dd acc H2 G2 (x1.trans x2) (x1.hh.free hD) hD2 gD2 r2⟩
  · cases e1
variable {elt iter : Expr} {ifs : List Expr} {scope : Scope} {own : List (Str × Nat)} {it : Fl} {t : Ft} {Sg : List Nat} {ct : Fb} {y : Fe}
theorem fx_lc (hc : X.calm = true) (hN : X.N.Nodup) (hi : ICX X tg iter it) (ok : BlkOk X.N X.env.scope scope own) (hsub : ∀ i ∈ Sg, i ∈ own.map (·.2))
    (hg : ∀ (s : Shared) (H : Hp) (C : Addr) (cl : List (Str × Addr)) (fp : List Addr), GX (X.blk s H scope (compEnvC scope cl C X.env) fp) tg t Sg) (ht : ∀ (s : Shared) (H : Hp) (C : Addr) (cl : List (Str × Addr)) (fp : List Addr), PTs (X.blk s H scope (compEnvC scope cl C X.env) fp) ifs (tT X.K ct))
    (he : ∀ (s : Shared) (H : Hp) (C : Addr) (cl : List (Str × Addr)) (fp : List Addr), EX (X.blk s H scope (compEnvC scope cl C X.env) fp) elt y) (hs : ∀ x, foldedSetIterable iter X.env x = pure x := by intro _; rfl) :
    FX X (.ListComp elt [⟨tg, iter, ifs, 0⟩] scope pos) (fLc (own.map (·.2)) it t ct y) :=
  pe_imp (pe_lc hc hN hi ok hg ht he hs) fun _ _ _ q => tLc_of hsub q
theorem pts_no : PTs X [] (tT X.K tYesF) := ⟨fun pins s σ H Q I hw => pts_nil.run pins s σ H Q I (by
  obtain ⟨H0, G0, G, env, b, S, e, q⟩ := hw
  cases e
  exact q H G (Ext.refl S.wf))⟩
theorem pts_if {c : Expr} {ct : Fb} (h : TX X c ct) : PTs X [c] (tT X.K ct) := pts_one h

/-! ### statements -/
inductive Out where
  | nx (e : List Sl) | rt (d : D) | bk (e : List Sl) | ct (e : List Sl)
abbrev Cmd := List Sl → Option Out
def OutOk (K : PySem.W.Frag) (H0 G0 : Hp) (E : Ends) : Out → Prop
  | .nx e => ∀ σ H G, Ste K H0 G0 H G σ e → E.nx σ H
  | .rt d => ∀ v H G, Ext H0 G0 H G → Rp K G d v → E.rt v H
  | .bk e => ∀ σ H G, Ste K H0 G0 H G σ e → E.bk σ H
  | .ct e => ∀ σ H G, Ste K H0 G0 H G σ e → E.ct σ H
def tS (K : PySem.W.Frag) (c : Cmd) : TS := fun E σ H => ∃ H0 G0 G env o, Ste K H0 G0 H G σ env ∧ c env = some o ∧ OutOk K H0 G0 E o
abbrev SX (X : Cx) (st : Stmt) (c : Cmd) : Prop := PS X st (tS X.K c)
abbrev SsX (X : Cx) (st : List Stmt) (c : Cmd) : Prop := PSs X st (tS X.K c)
theorem ps_imp {st : Stmt} {t t' : TS} (h : PS X st t) (i : ∀ E σ H, t' E σ H → t E σ H) : PS X st t' := ⟨fun pins s σ H E I q => h.run pins s σ H E I (i E σ H q)⟩
theorem pss_imp {st : List Stmt} {t t' : TS} (h : PSs X st t) (i : ∀ E σ H, t' E σ H → t E σ H) : PSs X st t' := ⟨fun pins s σ H E I q => h.run pins s σ H E I (i E σ H q)⟩
def sNop : Cmd := fun env => some (.nx env)
def sSeq (a b : Cmd) : Cmd := fun env => match a env with
  | some (.nx e) => b e
  | r => r
variable {st : Stmt} {rest : List Stmt} {ca cb : Cmd}
theorem ssx_nil : SsX X [] sNop := pss_imp pss_nil fun E σ H q => by
  obtain ⟨H0, G0, G, env, o, S, e, q⟩ := q
  cases e
  exact q σ H G S
theorem ssx_cons (h1 : SX X st ca) (h2 : SsX X rest cb) : SsX X (st :: rest) (sSeq ca cb) := pss_imp (pss_cons h1 h2) fun E σ H q => by
  obtain ⟨H0, G0, G, env, o, S, e, q⟩ := q
  unfold sSeq at e
  cases ha : ca env with
  | none => rw [ha] at e; cases e
  | some o1 =>
    rw [ha] at e
    refine ⟨H0, G0, G, env, o1, S, ha, ?_⟩
    cases o1 with
    | nx e1 => exact fun σ1 H1 G1 S1 => ⟨H0, G0, G1, e1, o, S1, e, q⟩
    | rt d =>
      cases e
      exact q
    | bk e1 =>
      cases e
      exact q
    | ct e1 =>
      cases e
      exact q
theorem ssx_one (h1 : SX X st ca) : SsX X [st] ca := pss_one h1
theorem sx_pass : SX X (.Pass pos) sNop := ps_imp ps_pass fun E σ H q => by
  obtain ⟨H0, G0, G, env, o, S, e, q⟩ := q
  cases e
  exact q σ H G S
def sBreak : Cmd := fun env => some (.bk env)
def sCont : Cmd := fun env => some (.ct env)
theorem sx_break : SX X (.Break pos) sBreak := ps_imp ps_break fun E σ H q => by
  obtain ⟨H0, G0, G, env, o, S, e, q⟩ := q
  cases e
  exact q σ H G S
theorem sx_cont : SX X (.Continue pos) sCont := ps_imp ps_continue fun E σ H q => by
  obtain ⟨H0, G0, G, env, o, S, e, q⟩ := q
  cases e
  exact q σ H G S
def sRet (f : Fe) : Cmd := fun env => (f env).map Out.rt
theorem sx_ret (h : EX X e f) : SX X (.Return (some e) pos) (sRet f) := ps_imp (ps_ret h) fun E σ H q => by
  obtain ⟨H0, G0, G, env, o, S, e, q⟩ := q
  obtain ⟨d, h1, rfl⟩ := Option.map_eq_some_iff.mp e
  exact ⟨H0, G0, G, env, d, S, h1, fun v H1 G1 x1 r1 => q v H1 G1 (S.x0.trans x1) r1⟩
def sIf (c : Fb) (a b : Cmd) : Cmd := fun env => (c env).bind fun k => if k then a env else b env
theorem sx_if {c : Expr} {a b : List Stmt} {fc : Fb} (hc : TX X c fc) (ha : SsX X a ca) (hb : SsX X b cb) : SX X (.If c a b pos) (sIf fc ca cb) := ps_imp (ps_if hc ha hb) fun E σ H q => by
  obtain ⟨H0, G0, G, env, o, S, e, q⟩ := q
  obtain ⟨k, h1, e⟩ := Option.bind_eq_some_iff.mp e
  refine ⟨H0, G0, G, env, k, S, h1, fun H1 G1 x1 => ?_⟩
  cases k with
  | true => exact ⟨H0, G0, G1, env, o, S.ext x1, e, q⟩
  | false => exact ⟨H0, G0, G1, env, o, S.ext x1, e, q⟩
/-- name = e -/
def sSet (i : Nat) (f : Fe) : Cmd := fun env => (f env).map fun d => Out.nx (env.set i (.val d))
theorem tAsg_set {i : Nat} {te : TE} {K : PySem.W.Frag} {E : Ends} {σ : L2.St} {H : Hp} (ht : ∀ Q, tD K f σ H Q → te σ H Q) (q : tS K (sSet i f) E σ H) : tAsg te (gName i) E σ H := by
  obtain ⟨H0, G0, G, env, o, S, e, q⟩ := q
  obtain ⟨d, h1, rfl⟩ := Option.map_eq_some_iff.mp e
  exact ht _ ⟨H0, G0, G, env, d, S, h1, fun v H1 G1 x1 r1 => q _ H1 G1 ((S.ext x1).setV i rfl ⟨v, rfl, r1⟩)⟩
theorem sx_set {i : Nat} {x : Str} {pos' : Pos} (hN : X.N.Nodup) (hi : X.N[i]? = some x) (hx : Loc X.env.scope x) (he : EX X e f) (hs : swapsWith e (some (.Name x pos')) pos.line X.env = pure false := by rfl) (hf : X.fn x = true ∨ X.env.scope.names.lookup x = some .local := by first | exact .inl rfl | exact .inr rfl | assumption) :
    SX X (.Assign [.Name x pos'] e pos) (sSet i f) := ps_imp (ps_set hN hi hx he hs hf) fun E σ H q => tAsg_set (fun _ q => q) q
/-- name = a new list, which may be changed later -/
def sSetO (i : Nat) (f : Fl) : Cmd := fun env => (f env).map fun ds => Out.nx (env.set i (.own ds))
theorem tAsg_setO {i : Nat} {te : TE} {K : PySem.W.Frag} {E : Ends} {σ : L2.St} {H : Hp} (ht : ∀ Q, tF K fl σ H Q → te σ H Q) (q : tS K (sSetO i fl) E σ H) : tAsg te (gName i) E σ H := by
  obtain ⟨H0, G0, G, env, o, S, e, q⟩ := q
  obtain ⟨ds, h1, rfl⟩ := Option.map_eq_some_iff.mp e
  refine ht _ ⟨H0, G0, G, env, ds, S, h1, fun p xs H1 G1 x1 hn hp hg r1 => ?_⟩
  refine q _ H1 G1 ((S.ext x1).setO i ⟨p, xs, rfl, hp, hg, S.x0.hh.free hn, r1⟩ fun j s hj ej ho ev => ?_)
  obtain ⟨v, h2, h3⟩ := S.at ej
  rw [ev] at h2
  cases h2
  cases s with
  | own es =>
    obtain ⟨a, ys, h4, h5, _⟩ := h3
    cases h4
    rw [hn] at h5
    cases h5
  | ownD es =>
    obtain ⟨a, h4, _, _, h5⟩ := h3
    cases h4
    rcases h5 with ⟨ks, h5, _⟩ | ⟨ks, h5, _⟩ <;> (rw [hn] at h5; cases h5)
  | un => cases ho
  | val _ => cases ho
theorem sx_setO {i : Nat} {x : Str} {pos' : Pos} (hN : X.N.Nodup) (hi : X.N[i]? = some x) (hx : Loc X.env.scope x) (he : FX X e fl) (hs : swapsWith e (some (.Name x pos')) pos.line X.env = pure false := by rfl) (hf : X.fn x = true ∨ X.env.scope.names.lookup x = some .local := by first | exact .inl rfl | exact .inr rfl | assumption) :
    SX X (.Assign [.Name x pos'] e pos) (sSetO i fl) := ps_imp (ps_set hN hi hx he hs hf) fun E σ H q => tAsg_setO (fun _ q => q) q
/-- name = [.. for ..] -/
theorem sx_setLc {i : Nat} {z : Str} {py spos : Pos} (hc : X.calm = true) (hN : X.N.Nodup) (hz : X.N[i]? = some z) (hzl : X.env.scope.names.lookup z = some .local)
    (hsw : swapsWith (.ListComp elt [⟨tg, iter, ifs, 0⟩] scope pos) (some (.Name z py)) spos.line X.env = pure true) (hi : ICX X tg iter it) (ok : BlkOk X.N X.env.scope scope own) (hsub : ∀ i ∈ Sg, i ∈ own.map (·.2))
    (hg : ∀ (s : Shared) (H : Hp) (C : Addr) (cl : List (Str × Addr)) (fp : List Addr), GX (X.blk s H scope (compEnvC scope cl C X.env) fp) tg t Sg) (ht : ∀ (s : Shared) (H : Hp) (C : Addr) (cl : List (Str × Addr)) (fp : List Addr), PTs (X.blk s H scope (compEnvC scope cl C X.env) fp) ifs (tT X.K ct))
    (he : ∀ (s : Shared) (H : Hp) (C : Addr) (cl : List (Str × Addr)) (fp : List Addr), EX (X.blk s H scope (compEnvC scope cl C X.env) fp) elt y) (hs : ∀ x, foldedSetIterable iter X.env x = pure x := by intro _; rfl) :
    SX X (.Assign [.Name z py] (.ListComp elt [⟨tg, iter, ifs, 0⟩] scope pos) spos) (sSet i (asL (fLc (own.map (·.2)) it t ct y))) :=
  ps_imp (ps_setLc hc hN hz hzl hsw hi ok hg ht he hs) fun E σ H q => tAsg_set (fun _ q => tLc_of hsub (tF_D q)) q
theorem sx_setLcO {i : Nat} {z : Str} {py spos : Pos} (hc : X.calm = true) (hN : X.N.Nodup) (hz : X.N[i]? = some z) (hzl : X.env.scope.names.lookup z = some .local)
    (hsw : swapsWith (.ListComp elt [⟨tg, iter, ifs, 0⟩] scope pos) (some (.Name z py)) spos.line X.env = pure true) (hi : ICX X tg iter it) (ok : BlkOk X.N X.env.scope scope own) (hsub : ∀ i ∈ Sg, i ∈ own.map (·.2))
    (hg : ∀ (s : Shared) (H : Hp) (C : Addr) (cl : List (Str × Addr)) (fp : List Addr), GX (X.blk s H scope (compEnvC scope cl C X.env) fp) tg t Sg) (ht : ∀ (s : Shared) (H : Hp) (C : Addr) (cl : List (Str × Addr)) (fp : List Addr), PTs (X.blk s H scope (compEnvC scope cl C X.env) fp) ifs (tT X.K ct))
    (he : ∀ (s : Shared) (H : Hp) (C : Addr) (cl : List (Str × Addr)) (fp : List Addr), EX (X.blk s H scope (compEnvC scope cl C X.env) fp) elt y) (hs : ∀ x, foldedSetIterable iter X.env x = pure x := by intro _; rfl) :
    SX X (.Assign [.Name z py] (.ListComp elt [⟨tg, iter, ifs, 0⟩] scope pos) spos) (sSetO i (fLc (own.map (·.2)) it t ct y)) :=
  ps_imp (ps_setLc hc hN hz hzl hsw hi ok hg ht he hs) fun E σ H q => tAsg_setO (fun _ q => tLc_of hsub q) q
/-- any target of names = e -/
def sAsg (t : Ft) (f : Fe) : Cmd := fun env => (f env).bind fun d => (t d env).map Out.nx
theorem sx_asg {tge : Expr} {S : List Nat} (he : EX X e f) (hg : GX X tge t S) (hs : swapsWithSole [tge] e pos.line X.env = pure false := by rfl) (hw : swappedStores [tge] e X.env = pure none := by rfl)
    (h1 : (assignEach [tge] X.env).map (·.2) = [assign tge X.env] := by rfl) : SX X (.Assign [tge] e pos) (sAsg t f) := ps_imp (ps_asg he hg hs hw h1) fun E σ H q => by
  obtain ⟨H0, G0, G, env, o, S, e, q⟩ := q
  obtain ⟨d, h1, e⟩ := Option.bind_eq_some_iff.mp e
  obtain ⟨env', h2, rfl⟩ := Option.map_eq_some_iff.mp e
  exact ⟨H0, G0, G, env, d, S, h1, fun v H1 G1 x1 r1 => ⟨H0, G0, G1, env, d, env', S.ext x1, r1, h2, fun σ' S' _ => q σ' H1 G1 S'⟩⟩
/-- a, b = e1, e2 -/
def sPar (i j : Nat) (fl : Fl) : Cmd := fun env => match fl env with
  | some [a, b] => some (.nx ((env.set i (.val a)).set j (.val b)))
  | _ => none
theorem sx_par {i j : Nat} {x y : Str} {a b : Expr} {px py pt : Pos} {kt k2 pt2} (hc : X.calm = true) (hN : X.N.Nodup) (hi : X.N[i]? = some x) (hj : X.N[j]? = some y) (hij : i ≠ j)
    (hx : X.env.scope.names.lookup x = some .local) (hy : X.env.scope.names.lookup y = some .local) (ha : AX X [a, b] fl)
    (hw : swappedStores [.Tuple [.Name x px, .Name y py] kt pt] (.Tuple [a, b] k2 pt2) X.env = pure (some [x, y]))
    (hs : swapsWithSole [.Tuple [.Name x px, .Name y py] kt pt] (.Tuple [a, b] k2 pt2) pos.line X.env = pure false := by rfl) :
    SX X (.Assign [.Tuple [.Name x px, .Name y py] kt pt] (.Tuple [a, b] k2 pt2) pos) (sPar i j fl) := ps_imp (ps_par hc hN hi hj hij hx hy ha hw hs) fun E σ H q => by
  obtain ⟨H0, G0, G, env, o, S, e, q⟩ := q
  unfold sPar at e
  split at e
  · rename_i d1 d2 hf
    cases e
    refine ⟨H0, G0, G, env, _, S, hf, fun vs H1 G1 x1 r1 => ?_⟩
    simp only [RpL] at r1
    obtain ⟨v, r, rfl, r1, w, r', rfl, r2, rfl⟩ := r1
    have S1 := (S.ext x1).setV i (s := .val d1) (x := some v) rfl ⟨v, rfl, r1⟩
    have S2 := S1.setV j (s := .val d2) (x := some w) rfl ⟨w, rfl, r2⟩
    exact ⟨v, w, rfl, q _ H1 G1 S2⟩
  · cases e
/-- a name op= e -/
def sAug (i : Nat) (g : D → D → Option D) (f : Fe) : Cmd := fun env => (bVar i env).bind fun x => (f env).bind fun y => (g x y).map fun d => Out.nx (env.set i (.val d))
def PipD (X : Cx) (op : Operator) (g : D → D → Option D) : Prop := OpR X (inplaceOp op) (rD X.K g)
theorem sx_aug {i : Nat} {x : Str} {op : Operator} {g : D → D → Option D} {pos' : Pos} (hN : X.N.Nodup) (hi : X.N[i]? = some x) (hx : Loc X.env.scope x) (he : BX X e f) (ho : PipD X op g) (hf : X.fn x = true ∨ X.env.scope.names.lookup x = some .local := by first | exact .inl rfl | exact .inr rfl | assumption) :
    SX X (.AugAssign (.Name x pos') op e pos) (sAug i g f) := ps_imp (ps_aug hN hi hx he (ti := rD X.K g) (fun pins s σ H x y v u Q I rx ry q => ho pins s σ H x y v u Q I rx ry q) hf) fun E σ H q => by
  obtain ⟨H0, G0, G, env, o, S, e, q⟩ := q
  obtain ⟨dx, h1, e⟩ := Option.bind_eq_some_iff.mp e
  obtain ⟨dy, h2, e⟩ := Option.bind_eq_some_iff.mp e
  obtain ⟨d, h3, rfl⟩ := Option.map_eq_some_iff.mp e
  have hv : ∃ v, σ[i]? = some (some v) ∧ RpB X.K H G dx v := by
    unfold bVar at h1
    cases hs : env[i]? with
    | none => rw [hs] at h1; cases h1
    | some s =>
      rw [hs] at h1
      obtain ⟨y, h1', h4⟩ := S.at hs
      cases s with
      | val d' =>
        simp only [Option.some.injEq] at h1
        subst h1
        obtain ⟨v, h2, h3⟩ := h4
        subst h2
        exact ⟨v, h1', RpB.of S.wf h3⟩
      | own ds =>
        simp only [Option.some.injEq] at h1
        subst h1
        obtain ⟨a, xs, h2, h3, h5, h6, h7⟩ := h4
        subst h2
        exact ⟨_, h1', ⟨a, xs, rfl, h3, h7⟩⟩
      | ownD ds =>
        simp only [Option.some.injEq] at h1
        subst h1
        obtain ⟨a, h2, h5, h6, h7⟩ := h4
        subst h2
        exact ⟨_, h1', ⟨a, rfl, h7⟩⟩
      | un => cases h1
  obtain ⟨v, hv, rv⟩ := hv
  exact ⟨v, hv, H0, G0, G, env, dy, S, h2, fun w H1 G1 x1 r1 => ⟨G1, dx, dy, d, x1.wf, rv.ext x1, r1, h3, fun u H2 G2 x2 r2 => q _ H2 G2 (((S.ext x1).ext x2).setV i rfl ⟨u, rfl, r2⟩)⟩⟩
theorem iadd : PipD X .Add (gI (fun _ _ => true) fun i j => .int (i + j)) := op_gI0 iop_add fun _ _ _ _ => rp_int _
theorem isub : PipD X .Sub gSub := op_gI0 iop_sub fun _ _ _ _ => rp_int _
theorem imul : PipD X .Mult (gI mulOk fun i j => .int (i * j)) := op_gI iop_mul (fun i j h => mulOk_C h) fun _ _ _ _ => rp_int _
theorem idiv : PipD X .FloorDiv gDiv := op_gI iop_fdiv (fun i j h => by
  simp only [Bool.and_eq_true, decide_eq_true_eq] at h
  exact h) fun _ _ _ _ => rp_int _
end
end PD

set_option Elab.async false
set_option linter.all false
set_option maxRecDepth 100000
namespace PD
open PySem PySem.Spec PyProof.Rows L2

/-! ### settling a slot -/
def frz1 (i : Nat) (env : List Sl) : List Sl := match env[i]? with
  | some (.own ds) => env.set i (.val (.lst ds))
  | some (.ownD ks) => env.set i (.val (.dic ks))
  | _ => env
def frzL : List Nat → List Sl → List Sl
  | [], env => env
  | i :: is, env => frzL is (frz1 i env)
theorem set_at {α : Type} {l : List α} {i j : Nat} {x y : α} (h : (l.set i x)[j]? = some y) : (i = j ∧ y = x) ∨ (i ≠ j ∧ l[j]? = some y) := by
  by_cases hj : i = j
  · subst hj
    obtain ⟨hi, e⟩ := List.getElem?_eq_some_iff.mp h
    rw [List.getElem_set_self] at e
    exact .inl ⟨rfl, e.symm⟩
  · rw [List.getElem?_set_ne hj] at h
    exact .inr ⟨hj, h⟩
section
variable {K : PySem.W.Frag} {H0 G0 H G : Hp} {σ : L2.St} {env : List Sl}
/-- an own object at a is settled as o -/
theorem Ste.settle (S : Ste K H0 G0 H G σ env) {i : Nat} {s s' : Sl} {a : Addr} {o : HO} (e : env[i]? = some s) (ow : s.isOwn = true) (ns : s'.isOwn = false) (hv : σ[i]? = some (some (.ref a))) (hH : H a = some o) (hG : G a = none) (h0 : H0 a = none)
    (ok : SlOk K H0 H (upd G a o) s' (some (.ref a))) : Ste K H0 G0 H (upd G a o) σ (env.set i s') := by
  have sg : Same G (upd G a o) := same_updN hG
  refine ⟨⟨S.x0.hh, S.x0.gg.trans sg, ⟨fun b u q => ?_, fun b u q hh => ?_⟩, fun b u q => ?_⟩, by rw [List.length_set]; exact S.len, fun j t x e1 e2 => ?_, fun j k t u b e1 e2 o1 o2 v1 v2 => ?_⟩
  · by_cases hb : b = a
    · subst hb
      rw [upd_same] at q
      cases q
      exact hH
    · rw [upd_ne hb] at q
      exact S.wf.sub b u q
  · by_cases hb : b = a
    · subst hb
      rw [upd_same]
      rw [hH] at q
      exact q
    · rw [upd_ne hb]
      exact S.wf.tin b u q hh
  · by_cases hb : b = a
    · subst hb
      exact .inr h0
    · rw [upd_ne hb] at q
      exact S.x0.new b u q
  · rcases set_at e1 with ⟨rfl, rfl⟩ | ⟨hj, e1⟩
    · rw [hv] at e2
      cases e2
      exact ok
    · have q := S.sl j t x e1 e2
      cases t with
      | un => trivial
      | val d =>
        obtain ⟨v, h1, h2⟩ := q
        exact ⟨v, h1, Rp.mono sg _ _ h2⟩
      | own ds =>
        obtain ⟨b, xs, h1, h2, h3, h4, h5⟩ := q
        have hb : b ≠ a := fun z => by
          subst z
          rw [h1] at e2
          exact hj (S.dis i j s _ b e e1 ow rfl hv e2)
        exact ⟨b, xs, h1, h2, by rw [upd_ne hb]; exact h3, h4, RpL.mono sg _ _ h5⟩
      | ownD ds =>
        obtain ⟨b, h1, h3, h4, h5⟩ := q
        have hb : b ≠ a := fun z => by
          subst z
          rw [h1] at e2
          exact hj (S.dis i j s _ b e e1 ow rfl hv e2)
        refine ⟨b, h1, by rw [upd_ne hb]; exact h3, h4, ?_⟩
        rcases h5 with ⟨ks, h6, h7⟩ | ⟨ks, h6, h7⟩
        · exact .inl ⟨ks, h6, RpK.mono sg _ _ h7⟩
        · exact .inr ⟨ks, h6, RpT.mono sg _ _ h7⟩
  · rcases set_at e1 with ⟨rfl, rfl⟩ | ⟨hj, e1⟩
    · rw [ns] at o1
      cases o1
    · rcases set_at e2 with ⟨rfl, rfl⟩ | ⟨hk, e2⟩
      · rw [ns] at o2
        cases o2
      · exact S.dis j k t u b e1 e2 o1 o2 v1 v2
theorem Ste.frz1 (S : Ste K H0 G0 H G σ env) (i : Nat) : ∃ G', Ste K H0 G0 H G' σ (frz1 i env) := by
  unfold PD.frz1
  cases e : env[i]? with
  | none => exact ⟨G, S⟩
  | some s =>
    obtain ⟨x, hx, hs⟩ := S.at e
    cases s with
    | un => exact ⟨G, S⟩
    | val d => exact ⟨G, S⟩
    | own ds =>
      obtain ⟨a, xs, rfl, h2, h3, h4, h5⟩ := hs
      refine ⟨upd G a (.lst xs), S.settle e rfl rfl hx h2 h3 h4 ⟨_, rfl, ?_⟩⟩
      simp only [Rp]
      exact ⟨a, xs, rfl, upd_same, RpL.mono (same_updN h3) _ _ h5⟩
    | ownD ds =>
      obtain ⟨a, rfl, h3, h4, h5⟩ := hs
      rcases h5 with ⟨ks, h6, h7⟩ | ⟨ks, h6, h7⟩
      · refine ⟨upd G a (.dK ks), S.settle e rfl rfl hx h6 h3 h4 ⟨_, rfl, ?_⟩⟩
        simp only [Rp]
        exact ⟨a, rfl, .inl ⟨ks, upd_same, RpK.mono (same_updN h3) _ _ h7⟩⟩
      · refine ⟨upd G a (.dT ks), S.settle e rfl rfl hx h6 h3 h4 ⟨_, rfl, ?_⟩⟩
        simp only [Rp]
        exact ⟨a, rfl, .inr ⟨ks, upd_same, RpT.mono (same_updN h3) _ _ h7⟩⟩
theorem Ste.frzL : ∀ (is : List Nat) {G : Hp} {env : List Sl}, Ste K H0 G0 H G σ env → ∃ G', Ste K H0 G0 H G' σ (frzL is env)
  | [], G, _, S => ⟨G, S⟩
  | i :: is, _, _, S => by
    obtain ⟨G1, S1⟩ := S.frz1 i
    exact Ste.frzL is S1
/-- an own object is changed -/
theorem Ste.change (S : Ste K H0 G0 H G σ env) {i : Nat} {s s' : Sl} {a : Addr} {o u : HO} (e : env[i]? = some s) (ow : s.isOwn = true) (hv : σ[i]? = some (some (.ref a))) (hH : H a = some o) (hG : G a = none) (h0 : H0 a = none) (hu : Hid u = true)
    (ok : SlOk K H0 (upd H a u) G s' (some (.ref a))) : Ste K H0 G0 (upd H a u) G σ (env.set i s') := by
  refine ⟨⟨fun b v q => ?_, S.x0.gg, ⟨fun b v q => ?_, fun b v q hh => ?_⟩, S.x0.new⟩, by rw [List.length_set]; exact S.len, fun j t x e1 e2 => ?_, fun j k t t' b e1 e2 o1 o2 v1 v2 => ?_⟩
  · rw [upd_ne (ne_of_none q h0)]
    exact S.x0.hh b v q
  · rw [upd_ne (ne_of_none q hG)]
    exact S.wf.sub b v q
  · by_cases hb : b = a
    · subst hb
      rw [upd_same] at q
      cases q
      rw [hu] at hh
      cases hh
    · rw [upd_ne hb] at q
      exact S.wf.tin b v q hh
  · rcases set_at e1 with ⟨rfl, rfl⟩ | ⟨hj, e1⟩
    · rw [hv] at e2
      cases e2
      exact ok
    · have q := S.sl j t x e1 e2
      cases t with
      | un => trivial
      | val d => exact q
      | own ds =>
        obtain ⟨b, xs, h1, h2, h3, h4, h5⟩ := q
        have hb : b ≠ a := fun z => by
          subst z
          rw [h1] at e2
          exact hj (S.dis i j s _ b e e1 ow rfl hv e2)
        exact ⟨b, xs, h1, by rw [upd_ne hb]; exact h2, h3, h4, h5⟩
      | ownD ds =>
        obtain ⟨b, h1, h3, h4, h5⟩ := q
        have hb : b ≠ a := fun z => by
          subst z
          rw [h1] at e2
          exact hj (S.dis i j s _ b e e1 ow rfl hv e2)
        refine ⟨b, h1, h3, h4, ?_⟩
        rw [upd_ne hb]
        exact h5
  · rcases set_at e1 with ⟨z1, _⟩ | ⟨hj, f1⟩
    · rcases set_at e2 with ⟨z2, _⟩ | ⟨hk, f2⟩
      · exact z1.symm.trans z2
      · rw [← z1] at v1 ⊢
        rw [hv] at v1
        cases v1
        exact S.dis i k s t' _ e f2 ow o2 hv v2
    · rcases set_at e2 with ⟨z2, _⟩ | ⟨hk, f2⟩
      · rw [← z2] at v2 ⊢
        rw [hv] at v2
        cases v2
        exact S.dis j i t s _ f1 e o1 ow v1 hv
      · exact S.dis j k t t' b f1 f2 o1 o2 v1 v2
end
def sFrz (is : List Nat) (c : Cmd) : Cmd := fun env => c (frzL is env)
section
variable {X : Cx} {st : Stmt} {c cb : Cmd} {e a b : Expr} {f fi : Fe} {fl : Fl} {pos : Pos} {is : List Nat}
theorem sx_frz (h : SX X st c) : SX X st (sFrz is c) := ps_imp h fun E σ H q => by
  obtain ⟨H0, G0, G, env, o, S, e, q⟩ := q
  obtain ⟨G', S'⟩ := Ste.frzL is S
  exact ⟨H0, G0, G', _, o, S', e, q⟩

/-! ### methods that change a list -/
def sApp (i : Nat) (f : Fe) : Cmd := fun env => (f env).bind fun d => match env[i]? with
  | some (.own ds) => if lim (ds.length + 1) then some (.nx (env.set i (.own (ds ++ [d])))) else none
  | _ => none
variable {i : Nat} {x : Str} {p apos cpos : Pos}
theorem sx_app (hN : X.N[i]? = some x) (hv : Vis X.env.scope x) (he : EX X e f) (hd : (x == ("__debug__" : Str)) = false := by decide) (hcd : (x == ("__classdict__" : Str)) = false := by decide)
    (hbase : attributeBase (.Name x p) "append" X.env (eval (.Name x p) X.env) = eval (.Name x p) X.env := by rfl)
    (hfew : ((backTo cpos (starEach (e :: []) X.env)).all (fun x => !x.1) && (backToKw cpos (keywordEach [] X.env)).all (fun x => x.1.isSome)
      && decide ((e :: []).length + ([] : List Keyword).length + (if ([] : List Keyword).isEmpty then 0 else 1) < 30)) = true := by rfl)
    (hline : (apos.endLine == cpos.line) = true := by rfl) (hs : starEach (e :: []) X.env = (false, eval e X.env) :: starEach [] X.env := by rfl) (hplain : (backTo cpos (starEach [] X.env)).any (·.1) = false := by rfl)
    (hsw : swapsWith (.Call (.Attribute (.Name x p) "append" apos) [e] [] cpos) none pos.line X.env = pure false := by rfl) :
    SX X (.Expr (.Call (.Attribute (.Name x p) "append" apos) [e] [] cpos) pos) (sApp i f) :=
  ps_imp (ps_expr (pe_bm PySem.F.plainAttrs_list PySem.F.slot_list_append PySem.F.type_list_append (show MtR X "list.append" rAppend from mt_append) (pe_var hN hv hd hcd) (pa_cons he pa_nil hs) hbase hfew hline hs hplain) hsw) fun E σ H q => by
    obtain ⟨H0, G0, G, env, o, S, e1, q⟩ := q
    obtain ⟨d, h1, e1⟩ := Option.bind_eq_some_iff.mp e1
    split at e1
    · rename_i ds hi
      split at e1
      · rename_i hz
        cases e1
        obtain ⟨y, hy, a, xs, rfl, h2, h3, h4, h5⟩ := S.at hi
        refine ⟨.ref a, hy, .inl ⟨rfl, xs, SqL.of h2⟩, H0, G0, G, env, d, S, h1, fun v H1 G1 x1 r1 => ?_⟩
        have S1 := S.ext x1
        have g1 := ext_none x1 h2 h3
        have l1 := RpL.mono x1.gg _ _ h5
        refine ⟨a, xs, v, rfl, rfl, x1.hh _ _ h2, ?_, ?_⟩
        · have := lim_le hz
          rw [← h5.len]
          omega
        · exact q σ _ G1 (S1.change hi rfl hy (x1.hh _ _ h2) g1 h4 rfl ⟨a, _, rfl, upd_same, g1, h4, l1.snoc r1⟩)
      · cases e1
    · cases e1
def sExt (i : Nat) (f : Fe) : Cmd := fun env => (f env).bind fun d => match d, env[i]? with
  | .lst es, some (.own ds) => if lim (ds.length + es.length) then some (.nx (env.set i (.own (ds ++ es)))) else none
  | _, _ => none
theorem sx_ext (hN : X.N[i]? = some x) (hv : Vis X.env.scope x) (he : EX X e f) (hd : (x == ("__debug__" : Str)) = false := by decide) (hcd : (x == ("__classdict__" : Str)) = false := by decide)
    (hbase : attributeBase (.Name x p) "extend" X.env (eval (.Name x p) X.env) = eval (.Name x p) X.env := by rfl)
    (hfew : ((backTo cpos (starEach (e :: []) X.env)).all (fun x => !x.1) && (backToKw cpos (keywordEach [] X.env)).all (fun x => x.1.isSome)
      && decide ((e :: []).length + ([] : List Keyword).length + (if ([] : List Keyword).isEmpty then 0 else 1) < 30)) = true := by rfl)
    (hline : (apos.endLine == cpos.line) = true := by rfl) (hs : starEach (e :: []) X.env = (false, eval e X.env) :: starEach [] X.env := by rfl) (hplain : (backTo cpos (starEach [] X.env)).any (·.1) = false := by rfl)
    (hsw : swapsWith (.Call (.Attribute (.Name x p) "extend" apos) [e] [] cpos) none pos.line X.env = pure false := by rfl) :
    SX X (.Expr (.Call (.Attribute (.Name x p) "extend" apos) [e] [] cpos) pos) (sExt i f) :=
  ps_imp (ps_expr (pe_bm PySem.F.plainAttrs_list PySem.F.slot_list_extend PySem.F.type_list_extend (show MtR X "list.extend" rExtend from mt_extend) (pe_var hN hv hd hcd) (pa_cons he pa_nil hs) hbase hfew hline hs hplain) hsw) fun E σ H q => by
    obtain ⟨H0, G0, G, env, o, S, e1, q⟩ := q
    obtain ⟨d, h1, e1⟩ := Option.bind_eq_some_iff.mp e1
    split at e1
    · rename_i es ds hi
      split at e1
      · rename_i hz
        cases e1
        obtain ⟨y, hy, a, xs, rfl, h2, h3, h4, h5⟩ := S.at hi
        refine ⟨.ref a, hy, .inl ⟨rfl, xs, SqL.of h2⟩, H0, G0, G, env, _, S, h1, fun v H1 G1 x1 r1 => ?_⟩
        have S1 := S.ext x1
        have g1 := ext_none x1 h2 h3
        have l1 := RpL.mono x1.gg _ _ h5
        simp only [Rp] at r1
        obtain ⟨b, zs, rfl, h6, h7⟩ := r1
        refine ⟨a, b, xs, zs, rfl, rfl, x1.hh _ _ h2, x1.wf.sub _ _ h6, ?_, ?_⟩
        · have := lim_le hz
          rw [← h5.len, ← h7.len]
          exact this
        · exact q σ _ G1 (S1.change hi rfl hy (x1.hh _ _ h2) g1 h4 rfl ⟨a, _, rfl, upd_same, g1, h4, l1.append h7⟩)
      · cases e1
    · cases e1
/-- x.pop() alone -/
def sPop (i : Nat) : Cmd := fun env => match env[i]? with
  | some (.own ds) => if ds.isEmpty then none else some (.nx (env.set i (.own ds.dropLast)))
  | _ => none
theorem sx_pop (hN : X.N[i]? = some x) (hv : Vis X.env.scope x) (hd : (x == ("__debug__" : Str)) = false := by decide) (hcd : (x == ("__classdict__" : Str)) = false := by decide)
    (hbase : attributeBase (.Name x p) "pop" X.env (eval (.Name x p) X.env) = eval (.Name x p) X.env := by rfl) (hline : (apos.endLine == cpos.line) = true := by rfl)
    (hsw : swapsWith (.Call (.Attribute (.Name x p) "pop" apos) [] [] cpos) none pos.line X.env = pure false := by rfl) :
    SX X (.Expr (.Call (.Attribute (.Name x p) "pop" apos) [] [] cpos) pos) (sPop i) :=
  ps_imp (ps_expr (pe_bm0 PySem.F.plainAttrs_list PySem.F.slot_list_pop PySem.F.type_list_pop (show MtR X "list.pop" rPop from mt_pop) (pe_var hN hv hd hcd) hbase hline) hsw) fun E σ H q => by
    obtain ⟨H0, G0, G, env, o, S, e1, q⟩ := q
    unfold sPop at e1
    split at e1
    · rename_i ds hi
      split at e1
      · cases e1
      · rename_i hz
        cases e1
        obtain ⟨y, hy, a, xs, rfl, h2, h3, h4, h5⟩ := S.at hi
        have hl := h5.len
        have hne : ds ≠ [] := fun z => by
          subst z
          exact hz rfl
        have hpos : 0 < ds.length := List.length_pos_iff.mpr hne
        refine ⟨.ref a, hy, .inl ⟨rfl, xs, SqL.of h2⟩, a, xs, xs[xs.length - 1]'(by omega), rfl, rfl, h2, List.getElem?_eq_getElem _, ?_⟩
        refine q σ _ G (S.change hi rfl hy h2 h3 h4 rfl ⟨a, _, rfl, upd_same, h3, h4, ?_⟩)
        rw [List.dropLast_eq_take, List.dropLast_eq_take, hl]
        exact h5.take _
    · cases e1

/-! ### x[i] = e -/
def sSetI (i : Nat) (fi f : Fe) : Cmd := fun env => (f env).bind fun d => (fi env).bind fun k => match k, env[i]? with
  | .int z, some (.own ds) => (ixN ds.length z).map fun j => Out.nx (env.set i (.own (ds.set j d)))
  | _, _ => none
theorem sx_setI {sp : Pos} (hN : X.N[i]? = some x) (hv : Vis X.env.scope x) (hb : BX X b fi) (he : EX X e f) (hd : (x == ("__debug__" : Str)) = false := by decide) (hcd : (x == ("__classdict__" : Str)) = false := by decide)
    (ha : ∀ v, assign (.Subscript (.Name x p) b sp) X.env v = (do
      let ov ← holding [v] (eval (.Name x p) X.env)
      let iv ← holding [v, ov] (eval b X.env)
      standAt sp
      holding [v, ov, iv] (setItem ov iv v)
      release [v, ov, iv] []) := by intro _; rfl)
    (hs : swapsWithSole [.Subscript (.Name x p) b sp] e pos.line X.env = pure false := by rfl) (hw : swappedStores [.Subscript (.Name x p) b sp] e X.env = pure none := by rfl)
    (h1 : (assignEach [.Subscript (.Name x p) b sp] X.env).map (·.2) = [assign (.Subscript (.Name x p) b sp) X.env] := by rfl) :
    SX X (.Assign [.Subscript (.Name x p) b sp] e pos) (sSetI i fi f) :=
  ps_imp (ps_asg he (pg_sub (pe_var hN hv hd hcd) hb set_list ha) hs hw h1) fun E σ H q => by
    obtain ⟨H0, G0, G, env, o, S, e1, q⟩ := q
    obtain ⟨d, h2, e1⟩ := Option.bind_eq_some_iff.mp e1
    obtain ⟨k, h3, e1⟩ := Option.bind_eq_some_iff.mp e1
    split at e1
    · rename_i z ds hi
      obtain ⟨j, h4, rfl⟩ := Option.map_eq_some_iff.mp e1
      refine ⟨H0, G0, G, env, d, S, h2, fun v H1 G1 x1 r1 => ?_⟩
      have S1 := S.ext x1
      obtain ⟨y, hy, a, xs, rfl, h5, h6, h7, h8⟩ := S1.at hi
      refine ⟨.ref a, hy, H0, G0, G1, env, _, S1, h3, fun u H2 G2 x2 r2 => ?_⟩
      have S2 := S1.ext x2
      have g2 := ext_none x2 h5 h6
      have l2 := RpL.mono x2.gg _ _ h8
      refine ⟨a, xs, z, j, rfl, rpb_int r2, x2.hh _ _ h5, by rw [← h8.len]; exact h4, ?_⟩
      exact q σ _ G2 (S2.change hi rfl hy (x2.hh _ _ h5) g2 h7 rfl ⟨a, _, rfl, upd_same, g2, h7, RpL.set (Rp.mono x2.gg _ _ r1) _ l2⟩)
    · cases e1

/-! ### loops -/
def forL (t : Ft) (c : Cmd) : List D → List Sl → Option Out
  | [], env => some (.nx env)
  | x :: xs, env => (t x env).bind fun env1 => match c env1 with
    | some (.nx e) => forL t c xs e
    | some (.ct e) => forL t c xs e
    | some (.bk e) => some (.nx e)
    | some (.rt d) => some (.rt d)
    | none => none
def sFor (it : Fl) (t : Ft) (c : Cmd) : Cmd := fun env => (it env).bind fun xs => forL t c xs env
/-- what is wanted, from a later settled heap -/
theorem Ext.later {H0 G0 H G H' G' : Hp} (x : Ext H0 G0 H G) (y : Ext H0 G H' G') : Ext H0 G0 H' G' := ⟨y.hh, x.gg.trans y.gg, y.wf, fun b o e => by
  rcases y.new b o e with h | h
  · exact x.new b o h
  · exact .inr h⟩
theorem Ste.base {K : PySem.W.Frag} {H0 G0 H G : Hp} {σ : L2.St} {env : List Sl} (S : Ste K H0 G0 H G σ env) : Ste K H0 G H G σ env := ⟨⟨S.x0.hh, Same.refl G, S.x0.wf, fun _ _ e => .inl e⟩, S.len, S.sl, S.dis⟩
theorem Ste.unbase {K : PySem.W.Frag} {H0 G0 H1 G1 H G : Hp} {σ : L2.St} {env : List Sl} (x : Ext H0 G0 H1 G1) (S : Ste K H0 G1 H G σ env) : Ste K H0 G0 H G σ env := ⟨x.later S.x0, S.len, S.sl, S.dis⟩
theorem OutOk.later {K : PySem.W.Frag} {H0 G0 H1 G1 : Hp} (x : Ext H0 G0 H1 G1) {E : Ends} {o : Out} (h : OutOk K H0 G0 E o) : OutOk K H0 G1 E o := by
  cases o with
  | nx e => exact fun σ H G S => h σ H G (S.unbase x)
  | rt d => exact fun v H G y r => h v H G (x.later y) r
  | bk e => exact fun σ H G S => h σ H G (S.unbase x)
  | ct e => exact fun σ H G S => h σ H G (S.unbase x)
theorem sx_for {tg iter : Expr} {body : List Stmt} {it : Fl} {t : Ft} {Sg : List Nat} (hp : PassesOwn (model X.prog X.w) X.A X.env X.xe) (hc : X.calm = true) (hi : ILX X tg iter it) (hg : GX X tg t Sg) (hb : SsX X body c)
    (hs : ∀ x, foldedSetIterable iter X.env x = pure x := by intro _; rfl) : SX X (.For tg iter body [] pos) (sFor it t c) := ps_imp (ps_for hp hc hi hg hb hs) fun E σ H q => by
  obtain ⟨H0, G0, G, env, o, S, e1, q⟩ := q
  obtain ⟨xs, h1, e1⟩ := Option.bind_eq_some_iff.mp e1
  refine ⟨H0, G0, G, env, xs, S, h1, fun J H1 G1 x1 hJ => ?_⟩
  have S1 := S.ext x1
  have q := q.later S1.x0
  refine ⟨fun i m σ2 H2 => m = xs.length - i ∧ i ≤ xs.length ∧ ∃ G2 env2, Ste X.K H0 G1 H2 G2 σ2 env2 ∧ forL t c (xs.drop i) env2 = some o,
    ⟨xs.length, by omega, Nat.zero_le _, G1, env, S1.base, e1⟩, ?_⟩
  rintro i m σ2 H2 ⟨rfl, hi, G2, env2, S2, h2⟩
  have hj := hJ i H2 G2 S2.x0.gg S2.wf
  by_cases hlt : i < xs.length
  · have hx : xs[i]? = some xs[i] := List.getElem?_eq_getElem hlt
    obtain ⟨go, hy⟩ := hj.2 _ hx
    rw [List.drop_eq_getElem_cons hlt] at h2
    obtain ⟨env3, h3, h4⟩ := Option.bind_eq_some_iff.mp (show (t xs[i] env2).bind _ = some o from h2)
    refine .inr ⟨go, fun σ3 H3 => ∃ m', m' < xs.length - i ∧ (m' = xs.length - (i + 1) ∧ i + 1 ≤ xs.length ∧ ∃ G2 env2, Ste X.K H0 G1 H3 G2 σ3 env2 ∧ forL t c (xs.drop (i + 1)) env2 = some o), fun _ _ h => h, fun v H3 hyld => ?_⟩
    obtain ⟨G3, x3, r3⟩ := hy v H3 hyld
    refine ⟨H0, G1, G3, env2, _, env3, S2.ext x3, r3, h3, fun σ4 S4 _ => ?_⟩
    cases hcc : c env3 with
    | none => rw [hcc] at h4; cases h4
    | some o4 =>
      rw [hcc] at h4
      refine ⟨H0, G1, G3, env3, o4, S4, hcc, ?_⟩
      cases o4 with
      | nx e => exact fun σ5 H5 G5 S5 => ⟨xs.length - (i + 1), by omega, rfl, hlt, G5, e, S5, h4⟩
      | ct e => exact fun σ5 H5 G5 S5 => ⟨xs.length - (i + 1), by omega, rfl, hlt, G5, e, S5, h4⟩
      | bk e =>
        cases h4
        exact q
      | rt d =>
        cases h4
        exact q
  · have e : i = xs.length := by omega
    subst e
    rw [List.drop_length] at h2
    cases h2
    exact .inl ⟨hj.1 (Nat.le_refl _), q σ2 H2 G2 S2⟩
def whL (t : Fb) (c : Cmd) : Nat → List Sl → Option Out
  | 0, _ => none
  | n + 1, env => (t env).bind fun k => if k then (match c env with
    | some (.nx e) => whL t c n e
    | some (.ct e) => whL t c n e
    | some (.bk e) => some (.nx e)
    | some (.rt d) => some (.rt d)
    | none => none) else some (.nx env)
def sWhile (n : Nat) (t : Fb) (c : Cmd) : Cmd := whL t c n
theorem sx_while {n : Nat} {tst : Expr} {body : List Stmt} {t : Fb} (hp : PassesOwn (model X.prog X.w) X.A X.env X.xe) (hc : TX X tst t) (hb : SsX X body c) : SX X (.While tst body [] pos) (sWhile n t c) := ps_imp (ps_while hp hc hb) fun E σ H q => by
  obtain ⟨H0, G0, G, env, o, S, e1, q⟩ := q
  refine ⟨fun m σ2 H2 => ∃ G2 env2, Ste X.K H0 G0 H2 G2 σ2 env2 ∧ whL t c m env2 = some o, ⟨n, G, env, S, e1⟩, ?_⟩
  rintro m σ2 H2 ⟨G2, env2, S2, h2⟩
  cases m with
  | zero => cases h2
  | succ m =>
    obtain ⟨k, h3, h4⟩ := Option.bind_eq_some_iff.mp (show (t env2).bind _ = some o from h2)
    refine ⟨H0, G0, G2, env2, k, S2, h3, fun H3 G3 x3 => ?_⟩
    cases k with
    | false =>
      cases h4
      exact q σ2 H3 G3 (S2.ext x3)
    | true =>
      refine ⟨fun σ3 H3 => ∃ m', m' < m + 1 ∧ ∃ G2 env2, Ste X.K H0 G0 H3 G2 σ3 env2 ∧ whL t c m' env2 = some o, fun _ _ h => h, ?_⟩
      cases hcc : c env2 with
      | none => rw [hcc] at h4; cases h4
      | some o4 =>
        rw [hcc] at h4
        refine ⟨H0, G0, G3, env2, o4, S2.ext x3, hcc, ?_⟩
        cases o4 with
        | nx e => exact fun σ5 H5 G5 S5 => ⟨m, Nat.lt_succ_self _, G5, e, S5, h4⟩
        | ct e => exact fun σ5 H5 G5 S5 => ⟨m, Nat.lt_succ_self _, G5, e, S5, h4⟩
        | bk e =>
          cases h4
          exact q
        | rt d =>
          cases h4
          exact q
end

/-! ### a def -/
def runC (n k : Nat) (c : Cmd) (ds : List D) : Option D := if ds.length = n then (match c (ds.map .val ++ List.replicate k .un) with
  | some (.nx _) => some .non
  | some (.rt d) => some d
  | _ => none) else none
theorem runC_len {n k : Nat} {c : Cmd} {ds : List D} {d : D} (h : runC n k c ds = some d) : ds.length = n := by
  unfold runC at h
  split at h
  · assumption
  · cases h
section
variable {P : Program} {w : World} {K : PySem.W.Frag} {mg : Str → Option Value} {base : Heap}
theorem ste_start {H G : Hp} {vs : List V} {ds : List D} {N : List Str} {k : Nat} (wf : Wf H G) (r : RpL K G ds vs) (hk : N.length = ds.length + k) : Ste K H G H G (L2.start N vs) (ds.map Sl.val ++ List.replicate k .un) := by
  have hl := r.len
  unfold L2.start
  have e : N.length - vs.length = k := by omega
  rw [e]
  refine ⟨Ext.refl wf, by simp [hl], fun i s x e1 e2 => ?_, fun i j s t a e1 e2 o1 o2 _ _ => ?_⟩
  · by_cases hi : i < ds.length
    · rw [List.getElem?_append_left (by simpa using hi), List.getElem?_map] at e1
      rw [List.getElem?_append_left (by simpa using (by omega : i < vs.length)), List.getElem?_map] at e2
      obtain ⟨d, h1, rfl⟩ := Option.map_eq_some_iff.mp e1
      obtain ⟨v, h2, rfl⟩ := Option.map_eq_some_iff.mp e2
      exact ⟨v, rfl, r.get h1 h2⟩
    · rw [List.getElem?_append_right (by simpa using hi)] at e1
      obtain ⟨h, rfl⟩ := List.mem_replicate.mp (List.mem_of_getElem? e1)
      trivial
  · exfalso
    by_cases hi : i < ds.length
    · rw [List.getElem?_append_left (by simpa using hi), List.getElem?_map] at e1
      obtain ⟨d, h1, rfl⟩ := Option.map_eq_some_iff.mp e1
      cases o1
    · rw [List.getElem?_append_right (by simpa using hi)] at e1
      obtain ⟨h, rfl⟩ := List.mem_replicate.mp (List.mem_of_getElem? e1)
      cases o1
theorem fn_ok {x qual : Str} {st : Stmt} {f : Addr} {fd : FuncData} {N ps : List Str} {lv k n : Nat} {c : Cmd} (F : Fun K x qual st f fd) (S : FnScope N ps (defScope st)) (hn : ps.length = n) (hk : N.length = n + k)
    (hbody : ∀ (cdv : Value) (A : Around) (outer : List Env) (s : Shared) (H : Hp) (E : XK), Room lv (A.deeper (envOfC qual (defScope st) s.heap.objs.size f cdv)) →
      SsX (cxOf CX0 P w K mg base N qual (defScope st) f cdv A outer s H E).nox (defBody st) c) : FnOk P w K mg base CX0 (lv + 1) f fd ps (spD K (runC n k c) n) := by
  refine F.ok S (fun vs H Q E h => by rw [hn]; exact h.1) (fun cdv A outer s H vs Q E hr h => ?_)
  obtain ⟨hl, G, ds, d, wf, r, e, q⟩ := h
  refine ⟨_, hbody cdv A outer s H E hr, ?_⟩
  have hd := runC_len e
  unfold runC at e
  rw [if_pos hd] at e
  have S0 := ste_start (N := N) (k := k) wf r (by omega)
  cases hc : c (ds.map Sl.val ++ List.replicate k .un) with
  | none => rw [hc] at e; cases e
  | some o =>
    rw [hc] at e
    refine ⟨H, G, G, _, o, S0, hc, ?_⟩
    cases o with
    | nx e1 =>
      cases e
      exact fun σ H' G' S' => q _ H' G' S'.x0 rp_non
    | rt d' =>
      cases e
      exact fun v H' G' x' r' => q v H' G' x' r'
    | bk e1 => cases e
    | ct e1 => cases e
/-- a def of the text, as callers take it -/
structure FunT (K : PySem.W.Frag) (mg : Str → Option Value) (x : Str) (st : Stmt) : Prop where
  ex : ∃ (f : Addr) (fd : FuncData), Fun K x x st f fd ∧ mg x = some (.ref f)
structure FnT (P : Program) (w : World) (K : PySem.W.Frag) (mg : Str → Option Value) (base : Heap) (x : Str) (lv n : Nat) (run : List D → Option D) : Prop where
  ex : ∃ (f : Addr) (fd : FuncData) (ps : List Str), FnOk P w K mg base CX0 lv f fd ps (spD K run n) ∧ mg x = some (.ref f) ∧ PySem.W.keepIn K (.ref f) = true ∧ L2.Binds K fd ps []
  len : ∀ ds d, run ds = some d → ds.length = n
theorem fnt_mk {x : Str} {st : Stmt} {N ps : List Str} {lv k n : Nat} {c : Cmd} (F : FunT K mg x st) (S : FnScope N ps (defScope st)) (hn : ps.length = n) (hk : N.length = n + k)
    (hb : ∀ (kV doc pm : Value) (an : Option Addr) (cdv ct : Value) (us : List Value), us.length = ps.length → bindArgs (PySem.W.fnOf x x (defArgs st) (defBody st) (defScope st) .none kV doc pm an cdv ct) ⟨us, []⟩ = pure (ps.zip us))
    (hbody : ∀ (f : Addr) (cdv : Value) (A : Around) (outer : List Env) (s : Shared) (H : Hp) (E : XK), Room lv (A.deeper (envOfC x (defScope st) s.heap.objs.size f cdv)) →
      SsX (cxOf CX0 P w K mg base N x (defScope st) f cdv A outer s H E).nox (defBody st) c) : FnT P w K mg base x (lv + 1) n (runC n k c) := by
  obtain ⟨f, fd, F, hm⟩ := F.ex
  exact ⟨⟨f, fd, ps, fn_ok F S hn hk (hbody f), hm, F.kp, F.binds hb⟩, fun _ _ h => runC_len h⟩
/-- a def that may not be called at all -/
theorem fnt_zero {x : Str} {st : Stmt} {n lv : Nat} {ps : List Str} (F : FunT K mg x st)
    (hb : ∀ (kV doc pm : Value) (an : Option Addr) (cdv ct : Value) (us : List Value), us.length = ps.length → bindArgs (PySem.W.fnOf x x (defArgs st) (defBody st) (defScope st) .none kV doc pm an cdv ct) ⟨us, []⟩ = pure (ps.zip us)) :
    FnT P w K mg base x lv n (fun _ => none) := by
  obtain ⟨f, fd, F, hm⟩ := F.ex
  refine ⟨⟨f, fd, ps, ⟨fun vs H Q E h => ?_, fun A outer s H args us vs Q E _ _ _ _ h => ?_⟩, hm, F.kp, F.binds hb⟩, fun _ _ h => nomatch h⟩
  · obtain ⟨_, _, _, _, _, _, h, _⟩ := h
    cases h
  · obtain ⟨_, _, _, _, _, _, h, _⟩ := h
    cases h
theorem room65 {k : Nat} {A : Around} (hr : Room k A) : A.units + 65 < cLine := by
  have := hr.un
  omega
end
section
variable {X : Cx} {x : Str} {lv lv' n : Nat} {run : List D → Option D} {e : Expr} {es : List Expr} {fl : Fl} {p pos : Pos}
theorem ex_fnT (F : FnT X.prog X.w X.K X.mg X.base x lv n run) (hr : Room lv' X.A) (hl : lv ≤ lv') (hg : Gl X x) (ha : AX X (e :: es) fl) (hdb : (x == ("__debug__" : Str)) = false := by decide)
    (he : starEach (e :: es) X.env = (false, eval e X.env) :: starEach es X.env := by rfl) (hpl : (backTo pos (starEach es X.env)).any (·.1) = false := by rfl) : EX X (.Call (.Name x p) (e :: es) [] pos) (eFn run fl) := by
  obtain ⟨f, fd, ps, F1, hm, hk, hb⟩ := F.ex
  exact ex_fn F1 F.len (hr.mono hl) hg hm hk hb ha hdb he hpl
theorem ex_fnTB (F : FnT X.prog X.w X.K X.mg X.base x lv n run) (hr : Room lv' X.A) (hl : lv ≤ lv') (hg : Gl X x) (ha : ABX X (e :: es) fl) (hdb : (x == ("__debug__" : Str)) = false := by decide)
    (he : starEach (e :: es) X.env = (false, eval e X.env) :: starEach es X.env := by rfl) (hpl : (backTo pos (starEach es X.env)).any (·.1) = false := by rfl) : EX X (.Call (.Name x p) (e :: es) [] pos) (eFnB run fl) := by
  obtain ⟨f, fd, ps, F1, hm, hk, hb⟩ := F.ex
  exact ex_fnB F1 F.len (hr.mono hl) hg hm hk hb ha hdb he hpl
end
end PD

set_option Elab.async false
set_option linter.all false
set_option maxRecDepth 100000
namespace PD
open PySem PySem.Spec PyProof.Rows L2
section
variable {X : Cx} {a b c e : Expr} {fa fb fc f : Fe} {pos p : Pos} {es : List Expr} {fl : Fl}
def wmax : Nat := 1000000000000
/-! ### a op1 b op2 c -/
def eChain (g g' : D → D → Option D) (fa fb fc : Fe) : Fe := fun env => (fa env).bind fun x => (fb env).bind fun y => match g x y with
  | some (.bl true) => (fc env).bind fun z => g' y z
  | some (.bl false) => some (.bl false)
  | _ => none
theorem tChain_imp {g g' : D → D → Option D} {σ : L2.St} {H : Hp} {Q : VK} (q : tD X.K (eChain g g' fa fb fc) σ H Q) : tChain (rD X.K g) (rD X.K g') (tB X.K fa) (tB X.K fb) (tB X.K fc) σ H Q := by
  obtain ⟨H0, G0, G, env, d, S, e1, q⟩ := q
  obtain ⟨dx, h1, e1⟩ := Option.bind_eq_some_iff.mp e1
  obtain ⟨dy, h2, e1⟩ := Option.bind_eq_some_iff.mp e1
  refine ⟨H0, G0, G, env, dx, S, h1, fun v H1 G1 x1 r1 => ⟨H0, G0, G1, env, dy, S.ext x1, h2, fun u H2 G2 x2 r2 => ?_⟩⟩
  cases hg : g dx dy with
  | none => rw [hg] at e1; cases e1
  | some k =>
    rw [hg] at e1
    cases k with
    | bl k =>
      refine ⟨G2, dx, dy, _, x2.wf, r1.ext x2, r2, hg, fun w H3 G3 x3 r3 => ?_⟩
      simp only [Rp] at r3
      refine ⟨k, r3, ?_⟩
      have x13 := x1.trans (x2.trans x3)
      cases k with
      | true =>
        obtain ⟨dz, h3, h4⟩ := Option.bind_eq_some_iff.mp e1
        exact ⟨H0, G0, G3, env, dz, S.ext x13, h3, fun w' H4 G4 x4 r4 => ⟨G4, dy, dz, d, x4.wf, (r2.ext x3).ext x4, r4, h4, fun u' H5 G5 x5 r5 => q u' H5 G5 (x13.trans (x4.trans x5)) r5⟩⟩
      | false =>
        cases e1
        exact q _ H3 G3 x13 (rp_bl _)
    | _ => cases e1
theorem ex_chain {op op' : CmpOp} {g g' : D → D → Option D} (ho : OpR X (compareOp op) (rD X.K g)) (ho' : OpR X (compareOp op') (rD X.K g')) (ha : BX X a fa) (hb : BX X b fb) (hc : BX X c fc)
    (hm : lastMarks [op, op'] [b, c] = false := by with_unfolding_all rfl) : EX X (.Compare a [op, op'] [b, c] pos) (eChain g g' fa fb fc) := pe_imp (pe_chain ho ho' ha hb hc hm) fun _ _ _ q => tChain_imp q
theorem tx_chain {op op' : CmpOp} {g g' : D → D → Option D} (ho : OpR X (compareOp op) (rD X.K g)) (ho' : OpR X (compareOp op') (rD X.K g')) (ha : BX X a fa) (hb : BX X b fb) (hc : BX X c fc)
    (hm : lastMarks [op, op'] [b, c] = false := by with_unfolding_all rfl) : TX X (.Compare a [op, op'] [b, c] pos) (asB (eChain g g' fa fb fc)) := pt_imp (pt_chain ho ho' ha hb hc hm) fun _ _ _ q => tChain_imp (asB_imp q)

/-! ### new lists -/
def rCF (K : PySem.W.Frag) (g : List D → Option (List D)) : List V → Hp → VK → Prop := fun vs H Q => ∃ G ds r, Wf H G ∧ RpBL K H G ds vs ∧ g ds = some r ∧ ∀ p xs H' G', Ext H G H' G' → H p = none → H' p = some (.lst xs) → G' p = none → RpL K G' r xs → Q (.ref p) H'
def gListF : List D → Option (List D)
  | [.lst xs] => some xs
  | [.tup xs] => some xs
  | _ => none
theorem clistF : CallR X (.type "list") (rCF X.K gListF) := (call_list_of (X := X)).imp fun vs H Q q => by
  obtain ⟨G, ds, d, w, r, e, q⟩ := q
  unfold gListF at e
  split at e
  · cases e
    obtain ⟨a, xs, rfl, h2, h3⟩ := rpbl_lst r
    exact ⟨a, xs, rfl, .inl (SqL.of h2), tF_new w h3 q⟩
  · cases e
    obtain ⟨a, xs, rfl, h2, h3⟩ := rpbl_tup r
    exact ⟨a, xs, rfl, .inr (sqt_up w h2), tF_new w h3 q⟩
  · cases e
/-- the sorted ints -/
def sortI (ns : List Int) : List Int := ns.mergeSort (fun a b => decide (a ≤ b))
theorem sortI_perm (ns : List Int) : (sortI ns).Perm ns := List.mergeSort_perm ns _
theorem sortI_sorted (ns : List Int) : (sortI ns).Pairwise (· ≤ ·) := by
  have h := List.pairwise_mergeSort (le := fun a b : Int => decide (a ≤ b)) (fun a b c h1 h2 => by
    simp only [decide_eq_true_eq] at *
    omega) (fun a b => by
    simp only [Bool.or_eq_true, decide_eq_true_eq]
    omega) ns
  exact h.imp fun h => by simpa using h
theorem sorted_unique : ∀ {as bs : List Int}, as.Perm bs → as.Pairwise (· ≤ ·) → bs.Pairwise (· ≤ ·) → as = bs
  | [], bs, p, _, _ => (List.Perm.nil_eq p)
  | a :: as, bs, p, h1, h2 => by
    cases bs with
    | nil => exact absurd p.length_eq (by simp)
    | cons b bs =>
      have ha : a ∈ b :: bs := p.mem_iff.mp List.mem_cons_self
      have hb : b ∈ a :: as := p.mem_iff.mpr List.mem_cons_self
      have e : a = b := by
        have q1 : a ≤ b := by
          rcases List.mem_cons.mp hb with z | z
          · omega
          · exact (List.pairwise_cons.mp h1).1 b z
        have q2 : b ≤ a := by
          rcases List.mem_cons.mp ha with z | z
          · omega
          · exact (List.pairwise_cons.mp h2).1 a z
        omega
      subst e
      rw [sorted_unique (List.Perm.cons_inv p) (List.pairwise_cons.mp h1).2 (List.pairwise_cons.mp h2).2]
def gSortF : List D → Option (List D)
  | [.lst xs] => (intsOf xs).map fun ns => (sortI ns).map D.int
  | _ => none
theorem csortF : CallR X (.builtin "sorted") (rCF X.K gSortF) := (cr_sortedI (X := X)).imp fun vs H Q q => by
  obtain ⟨G, ds, d, w, r, e, q⟩ := q
  unfold gSortF at e
  split at e
  · obtain ⟨ns, h1, rfl⟩ := Option.map_eq_some_iff.mp e
    obtain ⟨a, xs, rfl, h2, h3⟩ := rpbl_lst r
    rw [intsOf_some h1] at h3
    rw [h3.ints] at h2
    refine ⟨a, ns, rfl, SqL.of h2, fun ns' p pm so hp => ?_⟩
    have := sorted_unique (pm.trans (sortI_perm ns).symm) so (sortI_sorted ns)
    subst this
    exact tF_new w (RpL.of_ints _) q p hp
  · cases e
def fCall (g : List D → Option (List D)) (fl : Fl) : Fl := fun env => (fl env).bind g
theorem tCB_impF {g : List D → Option (List D)} {σ : L2.St} {H : Hp} {Q : VK} (q : tF X.K (fCall g fl) σ H Q) : tCB (rCF X.K g) (tAB X.K fl) σ H Q := by
  obtain ⟨H0, G0, G, env, d, S, e1, q⟩ := q
  obtain ⟨ds, h1, e1⟩ := Option.bind_eq_some_iff.mp e1
  exact ⟨H0, G0, G, env, ds, S, h1, fun vs H1 G1 x1 r1 => ⟨G1, ds, d, x1.wf, r1, e1, fun p xs H2 G2 x2 n2 h2 g2 r2 => q p xs H2 G2 (x1.trans x2) (x1.hh.free n2) h2 g2 r2⟩⟩
variable {x : Str} {id T : String} {g : List D → Option (List D)}
theorem fx_callB (hc : CallR X (.builtin id) (rCF X.K g)) (hg : Gl X x) (hm : X.mg x = none) (hv : bootBuiltins x = some (.builtin id)) (ha : ABX X (e :: es) fl) (hn : x ≠ "__name__" := by decide) (hdb : (x == ("__debug__" : Str)) = false := by decide)
    (he : starEach (e :: es) X.env = (false, eval e X.env) :: starEach es X.env := by rfl) (hpl : (backTo pos (starEach es X.env)).any (·.1) = false := by rfl) : FX X (.Call (.Name x p) (e :: es) [] pos) (fCall g fl) :=
  pe_imp (pe_callB hc hg hm hv ha hn hdb he hpl) fun _ _ _ q => tCB_impF q
theorem fx_callTy (hc : CallR X (.type T) (rCF X.K g)) (hg : Gl X x) (hm : X.mg x = none) (hv : bootBuiltins x = some (.type T)) (ha : ABX X (e :: es) fl) (hn : x ≠ "__name__" := by decide) (hdb : (x == ("__debug__" : Str)) = false := by decide)
    (he : starEach (e :: es) X.env = (false, eval e X.env) :: starEach es X.env := by rfl) (hpl : (backTo pos (starEach es X.env)).any (·.1) = false := by rfl) : FX X (.Call (.Name x p) (e :: es) [] pos) (fCall g fl) :=
  pe_imp (pe_callTy hc hg hm hv ha hn hdb he hpl) fun _ _ _ q => tCB_impF q
/-- list * int, list + list, as new lists -/
def rDF (K : PySem.W.Frag) (g : D → D → Option (List D)) : R2 := fun x y H Q => ∃ G dx dy r, Wf H G ∧ RpB K H G dx x ∧ RpB K H G dy y ∧ g dx dy = some r ∧ ∀ p xs H' G', Ext H G H' G' → H p = none → H' p = some (.lst xs) → G' p = none → RpL K G' r xs → Q (.ref p) H'
def fOp (g : D → D → Option (List D)) (fa fb : Fe) : Fl := fun env => (fa env).bind fun x => (fb env).bind fun y => g x y
theorem fx_op {op : Operator} {g : D → D → Option (List D)} (ho : OpR X (binaryOp op) (rDF X.K g)) (ha : BX X a fa) (hb : BX X b fb) : FX X (.BinOp a op b pos) (fOp g fa fb) :=
  pe_imp (pe_op ho ha hb) fun σ H Q q => by
    obtain ⟨H0, G0, G, env, d, S, e1, q⟩ := q
    obtain ⟨dx, h1, e1⟩ := Option.bind_eq_some_iff.mp e1
    obtain ⟨dy, h2, e1⟩ := Option.bind_eq_some_iff.mp e1
    exact ⟨H0, G0, G, env, dx, S, h1, fun v H1 G1 x1 r1 => ⟨H0, G0, G1, env, dy, S.ext x1, h2, fun w H2 G2 x2 r2 =>
      ⟨G2, dx, dy, d, x2.wf, r1.ext x2, r2, e1, fun p xs H3 G3 x3 n3 h3 g3 r3 => q p xs H3 G3 (x1.trans (x2.trans x3)) (x1.hh.free (x2.hh.free n3)) h3 g3 r3⟩⟩⟩
def gRepF : D → D → Option (List D)
  | .lst xs, .int k => if decide (-1000000000 ≤ k) && decide (k ≤ 1000000000) && lim (xs.length * k.toNat) then some (List.replicate k.toNat xs).flatten else none
  | _, _ => none
theorem orepF : OpR X (binaryOp .Mult) (rDF X.K gRepF) := (op_rep (X := X)).imp fun x y H Q q => by
  obtain ⟨G, dx, dy, d, w, rx, ry, e, q⟩ := q
  unfold gRepF at e
  split at e
  · split at e
    · rename_i hz
      cases e
      simp only [Bool.and_eq_true, decide_eq_true_eq] at hz
      obtain ⟨⟨h5, h6⟩, h7⟩ := hz
      obtain ⟨a, xs, rfl, h1, h2⟩ := rx
      refine ⟨a, _, xs, rfl, rpb_int ry, h1, by omega, by omega, ?_, tF_new w (h2.rep _) q⟩
      rw [← h2.len]
      exact lim_le h7
    · cases e
  · cases e
def gCatF : D → D → Option (List D)
  | .lst xs, .lst ys => if lim (xs ++ ys).length then some (xs ++ ys) else none
  | _, _ => none
theorem ocatF : OpR X (binaryOp .Add) (rDF X.K gCatF) := (op_cat (X := X)).imp fun x y H Q q => by
  obtain ⟨G, dx, dy, d, w, rx, ry, e, q⟩ := q
  unfold gCatF at e
  split at e
  · split at e
    · rename_i hz
      cases e
      obtain ⟨a, xs, rfl, h1, h2⟩ := rx
      obtain ⟨b, ys, rfl, h3, h4⟩ := ry
      refine ⟨a, b, xs, ys, rfl, rfl, h1, h3, ?_, tF_new w (h2.append h4) q⟩
      have := lim_le hz
      rw [List.length_append, h2.len, h4.len] at this
      exact this
    · cases e
  · cases e
/-- list(range(..)) -/
def iRg1' (f : Fe) : Fl := fun env => match f env with
  | some (.int j) => if decide (-1000000000 ≤ j) && decide (j ≤ 16000000) then some (rngL 0 j.toNat) else none
  | _ => none
def iRg2' (f f' : Fe) : Fl := fun env => match f env, f' env with
  | some (.int i), some (.int j) => if rngOk i && rngOk j && lim (j - i).toNat then some (rngL i (j - i).toNat) else none
  | _, _ => none
theorem rgV_rp {K : PySem.W.Frag} {G : Hp} (i j : Int) : RpL K G (rngL i (j - i).toNat) (rgV i j) := by
  unfold rngL rgV
  have : ∀ ns : List Nat, RpL K G (ns.map fun k => D.int (i + (k : Nat))) (ns.map fun k => V.int (i + (k : Nat))) := by
    intro ns
    induction ns with
    | nil => exact RpL.nil
    | cons n ns ih => exact RpL.cons (rp_int _) ih
  exact this _
theorem fx_lrg1 {p2 : Pos} (hc : X.calm = true) (hg : Gl X "list") (hm : X.mg "list" = none) (hg2 : Gl X "range") (hm2 : X.mg "range" = none) (ha : BX X a f)
    (na : starEach [a] X.env = (false, eval a X.env) :: starEach [] X.env := by rfl) (na2 : starEach [.Call (.Name "range" p2) [a] [] pos] X.env = (false, eval (.Call (.Name "range" p2) [a] [] pos) X.env) :: starEach [] X.env := by rfl) {pos' : Pos} :
    FX X (.Call (.Name "list" p) [.Call (.Name "range" p2) [a] [] pos] [] pos') (iRg1' f) := pe_imp (pe_listRg hc hg hm (prg_1 hg2 hm2 ha na) na2) fun σ H Q q => by
  obtain ⟨H0, G0, G, env, d, S, e1, q⟩ := q
  unfold iRg1' at e1
  split at e1
  · rename_i j hj
    split at e1
    · rename_i hz
      cases e1
      simp only [Bool.and_eq_true, decide_eq_true_eq] at hz
      refine ⟨H0, G0, G, env, _, S, hj, fun v H1 G1 x1 r1 => ⟨j, rpb_int r1, ⟨by omega, by omega, by omega, by omega, by omega⟩, ?_⟩⟩
      refine tF_new (K := X.K) x1.wf (rgV_rp 0 j) fun p xs H2 G2 x2 n2 h2 g2 r2 => q p xs H2 G2 (x1.trans x2) (x1.hh.free n2) h2 g2 ?_
      simpa using r2
    · cases e1
  · cases e1
theorem fx_lrg2 {p2 : Pos} (hc : X.calm = true) (hg : Gl X "list") (hm : X.mg "list" = none) (hg2 : Gl X "range") (hm2 : X.mg "range" = none) (ha : BX X a fa) (hb : BX X b fb)
    (na : starEach [a, b] X.env = (false, eval a X.env) :: starEach [b] X.env := by rfl) (nb : starEach [b] X.env = (false, eval b X.env) :: starEach [] X.env := by rfl) (hpp : (backTo pos (starEach [b] X.env)).any (·.1) = false := by rfl)
    (na2 : starEach [.Call (.Name "range" p2) [a, b] [] pos] X.env = (false, eval (.Call (.Name "range" p2) [a, b] [] pos) X.env) :: starEach [] X.env := by rfl) {pos' : Pos} :
    FX X (.Call (.Name "list" p) [.Call (.Name "range" p2) [a, b] [] pos] [] pos') (iRg2' fa fb) := pe_imp (pe_listRg hc hg hm (prg_2 hg2 hm2 ha hb na nb hpp) na2) fun σ H Q q => by
  obtain ⟨H0, G0, G, env, d, S, e1, q⟩ := q
  unfold iRg2' at e1
  split at e1
  · rename_i i j hi hj
    split at e1
    · rename_i hz
      cases e1
      simp only [Bool.and_eq_true] at hz
      obtain ⟨⟨h1, h2⟩, h3⟩ := hz
      have b1 := rngOk_b h1
      have b2 := rngOk_b h2
      have b3 := of_decide_eq_true h3
      refine ⟨H0, G0, G, env, _, S, hi, fun v H1 G1 x1 r1 => ⟨H0, G0, G1, env, _, S.ext x1, hj, fun u H2 G2 x2 r2 => ⟨i, j, rpb_int r1, rpb_int r2, ⟨by omega, by omega, by omega, by omega, by omega⟩, ?_⟩⟩⟩
      exact tF_new x2.wf (rgV_rp i j) fun p xs H3 G3 x3 n3 h3 g3 r3 => q p xs H3 G3 (x1.trans (x2.trans x3)) (x1.hh.free (x2.hh.free n3)) h3 g3 r3
    · cases e1
  · cases e1
end
/-- a constant of the module -/
structure CI (mg : Str → Option Value) (x : Str) (i : Int) : Prop where
  ex : ∃ t, mg x = some (.int i t)
theorem ex_ci {X : Cx} {x : Str} {i : Int} {pos : Pos} (C : CI X.mg x i) (hg : Gl X x) (hd : (x == ("__debug__" : Str)) = false := by decide) : EX X (.Name x pos) (eC (.int i)) := by
  obtain ⟨t, h⟩ := C.ex
  exact ex_globI hg h ⟨t, rfl⟩ hd

/-! ### what a name is given: a settled value or a new object -/
def NewOk (K : PySem.W.Frag) (H H' G' : Hp) : Sl → V → Prop
  | .un, _ => False
  | .val d, v => Rp K G' d v
  | .own ds, v => ∃ p xs, v = .ref p ∧ H p = none ∧ H' p = some (.lst xs) ∧ G' p = none ∧ RpL K G' ds xs
  | .ownD ds, v => ∃ p, v = .ref p ∧ H p = none ∧ G' p = none ∧ ((∃ ks, H' p = some (.dK ks) ∧ RpK K G' ds ks) ∨ (∃ ks, H' p = some (.dT ks) ∧ RpT K G' ds ks))
abbrev Fn := List Sl → Option Sl
def tN (K : PySem.W.Frag) (s : Fn) : TE := fun σ H Q => ∃ H0 G0 G env sl, Ste K H0 G0 H G σ env ∧ s env = some sl ∧ ∀ v H' G', Ext H G H' G' → NewOk K H H' G' sl v → Q v H'
abbrev NX (X : Cx) (e : Expr) (s : Fn) : Prop := PE X e (tN X.K s)
def vN (f : Fe) : Fn := fun env => (f env).map .val
def oN (f : Fl) : Fn := fun env => (f env).map .own
theorem tN_D {K : PySem.W.Frag} {f : Fe} {σ : L2.St} {H : Hp} {Q : VK} (q : tN K (vN f) σ H Q) : tD K f σ H Q := by
  obtain ⟨H0, G0, G, env, sl, S, e1, q⟩ := q
  obtain ⟨d, h1, rfl⟩ := Option.map_eq_some_iff.mp e1
  exact ⟨H0, G0, G, env, d, S, h1, fun v H' G' x r => q v H' G' x r⟩
theorem tN_F {K : PySem.W.Frag} {f : Fl} {σ : L2.St} {H : Hp} {Q : VK} (q : tN K (oN f) σ H Q) : tF K f σ H Q := by
  obtain ⟨H0, G0, G, env, sl, S, e1, q⟩ := q
  obtain ⟨d, h1, rfl⟩ := Option.map_eq_some_iff.mp e1
  exact ⟨H0, G0, G, env, d, S, h1, fun p xs H' G' x n h g r => q _ H' G' x ⟨p, xs, rfl, n, h, g, r⟩⟩
theorem nx_v {X : Cx} {e : Expr} {f : Fe} (h : EX X e f) : NX X e (vN f) := pe_imp h fun _ _ _ q => tN_D q
theorem nx_f {X : Cx} {e : Expr} {f : Fl} (h : FX X e f) : NX X e (oN f) := pe_imp h fun _ _ _ q => tN_F q
theorem NewOk.ext {K : PySem.W.Frag} {H H1 G1 H2 G2 : Hp} (x : Ext H1 G1 H2 G2) {s : Sl} {v : V} (h : NewOk K H H1 G1 s v) : NewOk K H H2 G2 s v := by
  cases s with
  | un => exact h
  | val d => exact Rp.mono x.gg _ _ h
  | own ds =>
    obtain ⟨p, xs, h1, h2, h3, h4, h5⟩ := h
    exact ⟨p, xs, h1, h2, x.hh _ _ h3, ext_none x h3 h4, RpL.mono x.gg _ _ h5⟩
  | ownD ds =>
    obtain ⟨p, h1, h2, h4, h5⟩ := h
    rcases h5 with ⟨ks, h6, h7⟩ | ⟨ks, h6, h7⟩
    · exact ⟨p, h1, h2, ext_none x h6 h4, .inl ⟨ks, x.hh _ _ h6, RpK.mono x.gg _ _ h7⟩⟩
    · exact ⟨p, h1, h2, ext_none x h6 h4, .inr ⟨ks, x.hh _ _ h6, RpT.mono x.gg _ _ h7⟩⟩
/-- a slot that holds an object at a knows it in the heap -/
theorem Ste.own_at {K : PySem.W.Frag} {H0 G0 H G : Hp} {σ : L2.St} {env : List Sl} (S : Ste K H0 G0 H G σ env) {i : Nat} {s : Sl} {a : Addr} (e : env[i]? = some s) (o : s.isOwn = true) (v : σ[i]? = some (some (.ref a))) : ∃ u, H a = some u := by
  obtain ⟨x, hx, hs⟩ := S.at e
  rw [v] at hx
  cases hx
  cases s with
  | un => cases o
  | val _ => cases o
  | own ds =>
    obtain ⟨b, xs, h1, h2, _⟩ := hs
    cases h1
    exact ⟨_, h2⟩
  | ownD ds =>
    obtain ⟨b, h1, _, _, h5⟩ := hs
    cases h1
    rcases h5 with ⟨ks, h6, _⟩ | ⟨ks, h6, _⟩
    · exact ⟨_, h6⟩
    · exact ⟨_, h6⟩
/-- the object is new where H is the heap ahead -/
theorem Ste.setN {K : PySem.W.Frag} {H0 G0 H G : Hp} {σ : L2.St} {env : List Sl} (S : Ste K H0 G0 H G σ env) (i : Nat) {Hb : Hp} (hb : Same H0 Hb) {s : Sl} {v : V} (h : NewOk K Hb H G s v)
    (fr : s.isOwn = true → ∀ (j : Nat) (t : Sl) (a : Addr), j ≠ i → v = .ref a → env[j]? = some t → t.isOwn = true → σ[j]? ≠ some (some (.ref a))) : Ste K H0 G0 H G (σ.set i (some v)) (env.set i s) := by
  cases s with
  | un => exact h.elim
  | val d => exact S.setV i rfl ⟨v, rfl, h⟩
  | own ds =>
    obtain ⟨p, xs, rfl, h2, h3, h4, h5⟩ := h
    exact S.setO i ⟨p, xs, rfl, h3, h4, hb.free h2, h5⟩ fun j t hj e o => fr rfl j t p hj rfl e o
  | ownD ds =>
    obtain ⟨p, rfl, h2, h4, h5⟩ := h
    exact S.setO i ⟨p, rfl, h4, hb.free h2, h5⟩ fun j t hj e o => fr rfl j t p hj rfl e o
theorem newok_none {K : PySem.W.Frag} {H H' G' : Hp} {s : Sl} {a : Addr} (o : s.isOwn = true) (h : NewOk K H H' G' s (.ref a)) : H a = none := by
  cases s with
  | un => cases o
  | val _ => cases o
  | own ds =>
    obtain ⟨p, xs, e, h2, _⟩ := h
    cases e
    exact h2
  | ownD ds =>
    obtain ⟨p, e, h2, _⟩ := h
    cases e
    exact h2
theorem newok_some {K : PySem.W.Frag} {H H' G' : Hp} {s : Sl} {a : Addr} (o : s.isOwn = true) (h : NewOk K H H' G' s (.ref a)) : ∃ u, H' a = some u := by
  cases s with
  | un => cases o
  | val _ => cases o
  | own ds =>
    obtain ⟨p, xs, e, h2, h3, _⟩ := h
    cases e
    exact ⟨_, h3⟩
  | ownD ds =>
    obtain ⟨p, e, h2, h4, h5⟩ := h
    cases e
    rcases h5 with ⟨ks, h6, _⟩ | ⟨ks, h6, _⟩
    · exact ⟨_, h6⟩
    · exact ⟨_, h6⟩
section
variable {X : Cx} {a b c e : Expr} {s s1 s2 s3 : Fn} {pos : Pos}
/-- name = e -/
def sSetN (i : Nat) (s : Fn) : Cmd := fun env => (s env).map fun sl => Out.nx (env.set i sl)
theorem tAsg_setN {i : Nat} {te : TE} {K : PySem.W.Frag} {E : Ends} {σ : L2.St} {H : Hp} (ht : ∀ Q, tN K s σ H Q → te σ H Q) (q : tS K (sSetN i s) E σ H) : tAsg te (gName i) E σ H := by
  obtain ⟨H0, G0, G, env, o, S, e, q⟩ := q
  obtain ⟨sl, h1, rfl⟩ := Option.map_eq_some_iff.mp e
  refine ht _ ⟨H0, G0, G, env, sl, S, h1, fun v H1 G1 x1 r1 => q _ H1 G1 ((S.ext x1).setN i S.x0.hh r1 fun ho j t a hj hv ej ot sv => ?_)⟩
  subst hv
  obtain ⟨u, hu⟩ := S.own_at ej ot sv
  rw [newok_none ho r1] at hu
  cases hu
theorem sx_setN {i : Nat} {x : Str} {pos' : Pos} (hN : X.N.Nodup) (hi : X.N[i]? = some x) (hx : Loc X.env.scope x) (he : NX X e s) (hs : swapsWith e (some (.Name x pos')) pos.line X.env = pure false := by rfl) (hf : X.fn x = true ∨ X.env.scope.names.lookup x = some .local := by first | exact .inl rfl | exact .inr rfl | assumption) :
    SX X (.Assign [.Name x pos'] e pos) (sSetN i s) := ps_imp (ps_set hN hi hx he hs hf) fun E σ H q => tAsg_setN (fun _ q => q) q
/-- a, b = e1, e2 -/
def sParN (i j : Nat) (s1 s2 : Fn) : Cmd := fun env => (s1 env).bind fun u => (s2 env).map fun v => Out.nx ((env.set i u).set j v)
theorem get_set_ne {α : Type} {l : List α} {i j : Nat} {x : α} (h : i ≠ j) : (l.set i x)[j]? = l[j]? := List.getElem?_set_ne h
theorem sx_parN {i j : Nat} {x y : Str} {px py pt : Pos} {kt k2 pt2} (hc : X.calm = true) (hN : X.N.Nodup) (hi : X.N[i]? = some x) (hj : X.N[j]? = some y) (hij : i ≠ j)
    (hx : X.env.scope.names.lookup x = some .local) (hy : X.env.scope.names.lookup y = some .local) (ha : NX X a s1) (hb : NX X b s2)
    (hw : swappedStores [.Tuple [.Name x px, .Name y py] kt pt] (.Tuple [a, b] k2 pt2) X.env = pure (some [x, y]))
    (hs : swapsWithSole [.Tuple [.Name x px, .Name y py] kt pt] (.Tuple [a, b] k2 pt2) pos.line X.env = pure false := by rfl)
    (h1 : starEach [a, b] X.env = (false, eval a X.env) :: starEach [b] X.env := by rfl) (h2 : starEach [b] X.env = (false, eval b X.env) :: starEach [] X.env := by rfl) :
    SX X (.Assign [.Tuple [.Name x px, .Name y py] kt pt] (.Tuple [a, b] k2 pt2) pos) (sParN i j s1 s2) := ps_imp (ps_par hc hN hi hj hij hx hy (pa_cons ha (pa_cons hb pa_nil h2) h1) hw hs) fun E σ H q => by
  obtain ⟨H0, G0, G, env, o, S, e, q⟩ := q
  obtain ⟨u, h1, e⟩ := Option.bind_eq_some_iff.mp e
  obtain ⟨v, h2, rfl⟩ := Option.map_eq_some_iff.mp e
  refine ⟨H0, G0, G, env, u, S, h1, fun p H1 G1 x1 r1 => ⟨H0, G0, G1, env, v, S.ext x1, h2, fun w H2 G2 x2 r2 => ⟨p, w, rfl, ?_⟩⟩⟩
  have S1 := S.ext x1
  have S2 := S1.ext x2
  have T1 : Ste X.K H0 G0 H2 G2 (σ.set i (some p)) (env.set i u) := S2.setN i S.x0.hh (r1.ext x2) fun ho k t a hk hv ek ot sv => by
    subst hv
    obtain ⟨z, hz⟩ := S.own_at ek ot sv
    rw [newok_none ho r1] at hz
    cases hz
  refine q _ H2 G2 (T1.setN j S1.x0.hh r2 fun ho k t a hk hv ek ot sv => ?_)
  subst hv
  have hn := newok_none ho r2
  by_cases hki : i = k
  · subst hki
    obtain ⟨hl, ek'⟩ := List.getElem?_eq_some_iff.mp ek
    rw [List.getElem_set_self] at ek'
    subst ek'
    obtain ⟨hl2, sv'⟩ := List.getElem?_eq_some_iff.mp sv
    rw [List.getElem_set_self] at sv'
    cases sv'
    obtain ⟨z, hz⟩ := newok_some ot r1
    rw [hn] at hz
    cases hz
  · rw [get_set_ne hki] at ek sv
    obtain ⟨z, hz⟩ := S1.own_at ek ot sv
    rw [hn] at hz
    cases hz
/-- a, b, c = e1, e2, e3 -/
def sPar3N (i j l : Nat) (s1 s2 s3 : Fn) : Cmd := fun env => (s1 env).bind fun u => (s2 env).bind fun v => (s3 env).map fun w => Out.nx (((env.set i u).set j v).set l w)
theorem sx_par3N {i j l : Nat} {x y z : Str} {px py pz pt : Pos} {kt k2 pt2} (hc : X.calm = true) (hN : X.N.Nodup) (hi : X.N[i]? = some x) (hj : X.N[j]? = some y) (hl : X.N[l]? = some z) (hij : i ≠ j) (hil : i ≠ l) (hjl : j ≠ l)
    (hx : X.env.scope.names.lookup x = some .local) (hy : X.env.scope.names.lookup y = some .local) (hz : X.env.scope.names.lookup z = some .local) (ha : NX X a s1) (hb : NX X b s2) (hcc : NX X c s3)
    (hw : swappedStores [.Tuple [.Name x px, .Name y py, .Name z pz] kt pt] (.Tuple [a, b, c] k2 pt2) X.env = pure (some [x, y, z]))
    (hs : swapsWithSole [.Tuple [.Name x px, .Name y py, .Name z pz] kt pt] (.Tuple [a, b, c] k2 pt2) pos.line X.env = pure false := by rfl)
    (h1 : starEach [a, b, c] X.env = (false, eval a X.env) :: starEach [b, c] X.env := by rfl) (h2 : starEach [b, c] X.env = (false, eval b X.env) :: starEach [c] X.env := by rfl) (h3 : starEach [c] X.env = (false, eval c X.env) :: starEach [] X.env := by rfl) :
    SX X (.Assign [.Tuple [.Name x px, .Name y py, .Name z pz] kt pt] (.Tuple [a, b, c] k2 pt2) pos) (sPar3N i j l s1 s2 s3) := ps_imp (ps_par3 hc hN hi hj hl hij hil hjl hx hy hz (pa_cons ha (pa_cons hb (pa_cons hcc pa_nil h3) h2) h1) hw hs) fun E σ H q => by
  obtain ⟨H0, G0, G, env, o, S, e, q⟩ := q
  obtain ⟨u, h1, e⟩ := Option.bind_eq_some_iff.mp e
  obtain ⟨v, h2, e⟩ := Option.bind_eq_some_iff.mp e
  obtain ⟨w, h3, rfl⟩ := Option.map_eq_some_iff.mp e
  refine ⟨H0, G0, G, env, u, S, h1, fun p H1 G1 x1 r1 => ⟨H0, G0, G1, env, v, S.ext x1, h2, fun p' H2 G2 x2 r2 => ⟨H0, G0, G2, env, w, (S.ext x1).ext x2, h3, fun p'' H3 G3 x3 r3 => ⟨p, p', p'', rfl, ?_⟩⟩⟩⟩
  have S1 := S.ext x1
  have S2 := S1.ext x2
  have S3 := S2.ext x3
  have T1 : Ste X.K H0 G0 H3 G3 (σ.set i (some p)) (env.set i u) := S3.setN i S.x0.hh ((r1.ext x2).ext x3) fun ho k t a hk hv ek ot sv => by
    subst hv
    obtain ⟨z, hz⟩ := S.own_at ek ot sv
    rw [newok_none ho r1] at hz
    cases hz
  have T2 : Ste X.K H0 G0 H3 G3 ((σ.set i (some p)).set j (some p')) ((env.set i u).set j v) := T1.setN j S1.x0.hh (r2.ext x3) fun ho k t a hk hv ek ot sv => by
    subst hv
    have hn := newok_none ho r2
    by_cases hki : i = k
    · subst hki
      obtain ⟨hl, ek'⟩ := List.getElem?_eq_some_iff.mp ek
      rw [List.getElem_set_self] at ek'
      subst ek'
      obtain ⟨hl2, sv'⟩ := List.getElem?_eq_some_iff.mp sv
      rw [List.getElem_set_self] at sv'
      cases sv'
      obtain ⟨z, hz⟩ := newok_some ot r1
      rw [hn] at hz
      cases hz
    · rw [get_set_ne hki] at ek sv
      obtain ⟨z, hz⟩ := S1.own_at ek ot sv
      rw [hn] at hz
      cases hz
  refine q _ H3 G3 (T2.setN l S2.x0.hh r3 fun ho k t a hk hv ek ot sv => ?_)
  subst hv
  have hn := newok_none ho r3
  by_cases hkj : j = k
  · subst hkj
    obtain ⟨hl, ek'⟩ := List.getElem?_eq_some_iff.mp ek
    rw [List.getElem_set_self] at ek'
    subst ek'
    obtain ⟨hl2, sv'⟩ := List.getElem?_eq_some_iff.mp sv
    rw [List.getElem_set_self] at sv'
    cases sv'
    obtain ⟨z, hz⟩ := newok_some ot r2
    rw [hn] at hz
    cases hz
  · rw [get_set_ne hkj] at ek sv
    by_cases hki : i = k
    · subst hki
      obtain ⟨hl, ek'⟩ := List.getElem?_eq_some_iff.mp ek
      rw [List.getElem_set_self] at ek'
      subst ek'
      obtain ⟨hl2, sv'⟩ := List.getElem?_eq_some_iff.mp sv
      rw [List.getElem_set_self] at sv'
      cases sv'
      obtain ⟨z, hz⟩ := newok_some ot (r1.ext x2)
      rw [hn] at hz
      cases hz
    · rw [get_set_ne hki] at ek sv
      obtain ⟨z, hz⟩ := S2.own_at ek ot sv
      rw [hn] at hz
      cases hz
end
end PD

set_option Elab.async false
set_option linter.all false
set_option maxRecDepth 100000
set_option maxHeartbeats 4000000
/-! zip of two sequences, each a list or a tuple -/
namespace PD
open PySem PySem.Spec PyProof.Rows L2
inductive SK where
  | l | t
def SK.nm : SK → String
  | .l => "list_iterator"
  | .t => "tuple_iterator"
def SK.Itr : SK → Heap → Addr → Addr → Nat → Prop
  | .l, h, p, a, i => h.IsListIter p a i
  | .t, h, p, a, i => h.IsTupleIter p a i
def SK.Sq : SK → Heap → Addr → Array Value → Prop
  | .l, h, a, xs => h.IsList a xs
  | .t, h, a, xs => h.IsTuple a xs
theorem SK.Itr.ext {k : SK} {g g' : Heap} {p b a : Addr} {i : Nat} (x : k.Itr g p a i) (m : Heap.ExtBut b g g') (n : p ≠ b) : k.Itr g' p a i := by
  cases k
  · exact Heap.IsListIter.extBut x m n
  · exact Heap.IsTupleIter.extBut x m n
theorem SK.Sq.ext {k : SK} {g g' : Heap} {b a : Addr} {xs : Array Value} (x : k.Sq g a xs) (m : Heap.ExtBut b g g') (n : a ≠ b) : k.Sq g' a xs := by
  cases k
  · exact Heap.IsList.extBut x m n
  · exact Heap.IsTuple.extBut x m n
theorem SK.Itr.to {k : SK} {g g' : Heap} {p a : Addr} {i : Nat} (x : k.Itr g p a i) (m : ∀ o, g.get? p = some o → g'.get? p = some o) : k.Itr g' p a i := by
  cases k
  · exact Heap.IsListIter.at x m
  · exact Heap.IsTupleIter.at x m
theorem SK.Itr.ob {k : SK} {g : Heap} {p a : Addr} {i : Nat} (x : k.Itr g p a i) : ∃ o, g.get? p = some o ∧ o.cls = .type k.nm ∧ o.data = .fields #[.ref a, .int i 0] := by
  cases k <;> exact x
theorem SK.Itr.mk {k : SK} {g : Heap} {p a : Addr} {i : Nat} {o : Obj} (e : g.get? p = some o) (c : o.cls = .type k.nm) (d : o.data = .fields #[.ref a, .int i 0]) : k.Itr g p a i := by
  cases k <;> exact ⟨o, e, c, d⟩
section
variable {pg : Program} {wd : World} {Ar : Around} {Ex : Value → Shared → Prop} {s : Shared}
theorem nx_item {k : SK} {p a : Addr} {i : Nat} {xs : Array Value} {x : Value} {Q : Value → Shared → Prop} (hp : k.Itr s.heap p a i) (ha : k.Sq s.heap a xs) (hx : xs[i]? = some x)
    (hQ : ∀ g, k.Itr g p a (i + 1) → Heap.SameBut p s.heap g → Q x { s with heap := g }) : wpAny (model pg wd) Ar (Builtin.SmallTypes.nextOf (.ref p)) Q Ex s := by
  cases k
  · exact wpAny_nextOf_list_item hp ha hx hQ
  · exact RZ.nextOf_tuple_item hp ha hx hQ
theorem nx_end {k : SK} {p a : Addr} {i : Nat} {xs : Array Value} {Q : Value → Shared → Prop} (hd : Ar.handled = none) (hp : k.Itr s.heap p a i) (ha : k.Sq s.heap a xs) (hx : xs[i]? = none)
    (hE : ∀ g e, Heap.ExtBut p s.heap g → (∃ o, g.get? e = some o ∧ o.cls = .type "StopIteration") → Ex (.ref e) { s with heap := g }) : wpAny (model pg wd) Ar (Builtin.SmallTypes.nextOf (.ref p)) Q Ex s := by
  cases k
  · exact wpAny_nextOf_list_end hd hp ha hx hE
  · exact RZ.nextOf_tuple_end hd hp ha hx hE
theorem zx_item {k k' : SK} {zp tI tO p1 p2 a1 a2 : Addr} {n1 n2 : Nat} {xs ys : Array Value} {x y u v : Value} {Q : Value → Shared → Prop} (Z : ZipApart zp tI tO p1 p2 a1 a2)
    (hZ : IsZip s.heap zp tI tO .none) (hI : IsPair s.heap tI (.ref p1) (.ref p2)) (hO : IsPair s.heap tO u v)
    (i1 : k.Itr s.heap p1 a1 n1) (i2 : k'.Itr s.heap p2 a2 n2) (s1 : k.Sq s.heap a1 xs) (s2 : k'.Sq s.heap a2 ys) (hx : xs[n1]? = some x) (hy : ys[n2]? = some y)
    (hQ : ∀ g, IsZip g zp tI tO (rawInt s.heap.objs.size) → IsPair g tO x y → k.Itr g p1 a1 (n1 + 1) → k'.Itr g p2 a2 (n2 + 1) → IsPair g s.heap.objs.size x y → g.objs.size = s.heap.objs.size + 1 →
      (∀ c o, c ≠ zp → c ≠ tO → c ≠ p1 → c ≠ p2 → s.heap.get? c = some o → g.get? c = some o) → Q (.ref s.heap.objs.size) { s with heap := g }) :
    wpAny (model pg wd) Ar (Builtin.«zip.__next__» ⟨[.ref zp], []⟩) (fun r t => ∃ v, r = .done (.ret v) ∧ Q v t) Ex s := by
  show wpAny _ _ (field (.ref zp) 2 >>= _) _ _ _
  refine wpAny_bind (wpAny_field hZ rfl (x := .bool false) rfl ?_)
  show wpAny _ _ (field (.ref zp) 3 >>= _) _ _ _
  refine wpAny_bind (wpAny_field hZ rfl (x := .ref tI) rfl ?_)
  refine wpAny_bind (wpAny_seqItems hI rfl ?_)
  show wpAny _ _ (Builtin.SmallTypes.ownedTupleIsFree (.ref zp) >>= _) _ _ _
  refine wpAny_bind ?_
  unfold Builtin.SmallTypes.ownedTupleIsFree
  refine wpAny_bind (wpAny_field hZ rfl (x := .none) rfl (wpAny_pure ?_))
  simp only [if_true]
  refine wpAny_bind (wpAny_rule ?_)
  refine wpAny_bind (wpAny_field hZ rfl (x := .ref tO) rfl ?_)
  refine wpAny_bind (wpAny_setField_rec hZ (by simp) fun g1 hZ1 m1 => ?_)
  replace hZ1 : IsZip g1 zp tI tO .ellipsis := hZ1
  refine wpAny_bind ?_
  rw [List.zipIdx_cons, List.zipIdx_cons, List.zipIdx_nil, List.forIn_cons]
  simp only [List.forIn_cons, List.forIn_nil]
  refine wpAny_bind (wpAny_bind (wpAny_onRaise ?_))
  show wpAny _ _ (Builtin.SmallTypes.nextOf (.ref p1) >>= _) _ _ _
  refine wpAny_bind (nx_item (i1.ext m1.extBut Z.i1z) (s1.ext m1.extBut Z.l1z) hx fun g2 i12 m2 => wpAny_pure ?_)
  have hO2 : IsPair g2 tO u v := m2.extBut _ _ Z.TOi1 (m1.extBut _ _ Z.TOz hO)
  refine wpAny_bind (wpAny_seqItems hO2 rfl ?_)
  refine wpAny_bind (wpAny_updateSeq_pair hO2 fun g3 hO3 m3 => ?_)
  replace hO3 : IsPair g3 tO x v := hO3
  refine wpAny_bind (wpAny_letGo (wpAny_pure ?_))
  refine wpAny_bind (wpAny_bind (wpAny_onRaise ?_))
  show wpAny _ _ (Builtin.SmallTypes.nextOf (.ref p2) >>= _) _ _ _
  refine wpAny_bind (nx_item (((i2.ext m1.extBut Z.i2z).ext m2.extBut Z.i12.symm).ext m3.extBut Z.TOi2.symm)
    (((s2.ext m1.extBut Z.l2z).ext m2.extBut Z.l2i1).ext m3.extBut Z.l2TO) hy fun g4 i24 m4 => wpAny_pure ?_)
  have hO4 : IsPair g4 tO x v := m4.extBut _ _ Z.TOi2 hO3
  refine wpAny_bind (wpAny_seqItems hO4 rfl ?_)
  refine wpAny_bind (wpAny_updateSeq_pair hO4 fun g5 hO5 m5 => ?_)
  replace hO5 : IsPair g5 tO x y := hO5
  refine wpAny_bind (wpAny_letGo (wpAny_pure (wpAny_pure ?_)))
  refine wpAny_bind (wpAny_seqItems hO5 rfl ?_)
  refine wpAny_bind (wpAny_newTuple ?_)
  have size5 : g5.objs.size = s.heap.objs.size := by rw [m5.1, m4.1, m3.1, m2.1, m1.1]
  have hZ5 : IsZip g5 zp tI tO .ellipsis := m5.extBut _ _ Z.TOz.symm (m4.extBut _ _ Z.i2z.symm (m3.extBut _ _ Z.TOz.symm (m2.extBut _ _ Z.i1z.symm hZ1)))
  have old5 : ∀ c o, c ≠ zp → c ≠ tO → c ≠ p1 → c ≠ p2 → s.heap.get? c = some o → g5.get? c = some o := fun c o q1 q2 q3 q4 e =>
    m5.extBut _ _ q2 (m4.extBut _ _ q4 (m3.extBut _ _ q2 (m2.extBut _ _ q3 (m1.extBut _ _ q1 e))))
  have i15 : k.Itr g5 p1 a1 (n1 + 1) := ((i12.ext m3.extBut Z.TOi1.symm).ext m4.extBut Z.i12).ext m5.extBut Z.TOi1.symm
  have i25 : k'.Itr g5 p2 a2 (n2 + 1) := i24.ext m5.extBut Z.TOi2.symm
  have ltz : zp < g5.objs.size := Heap.lt_size hZ5
  show wpAny _ _ (Builtin.SmallTypes.ownedTupleHandOut (.ref zp) (.ref g5.objs.size) >>= _) _ _ _
  refine wpAny_bind ?_
  unfold Builtin.SmallTypes.ownedTupleHandOut
  have hZ6 : IsZip (g5.push { cls := .type "tuple", data := .seq #[x, y] }) zp tI tO .ellipsis := Heap.get?_push_of_some _ hZ5
  refine wpAny_bind (wpAny_setField_rec hZ6 (by simp) fun g7 hZ7 m7 => ?_)
  replace hZ7 : IsZip g7 zp tI tO (rawInt g5.objs.size) := hZ7
  refine wpAny_setField_rec hZ7 (by simp) fun g8 hZ8 m8 => ?_
  replace hZ8 : IsZip g8 zp tI tO (rawInt g5.objs.size) := hZ8
  have up : ∀ c o, c ≠ zp → g5.get? c = some o → g8.get? c = some o := fun c o q e => m8.extBut _ _ q (m7.extBut _ _ q (Heap.get?_push_of_some _ e))
  have hT8 : IsPair g8 g5.objs.size x y := m8.extBut _ _ (Nat.ne_of_gt ltz) (m7.extBut _ _ (Nat.ne_of_gt ltz) (Heap.get?_push_size _ rfl))
  have size8 : g8.objs.size = g5.objs.size + 1 := by rw [m8.1, m7.1, Heap.size_push]
  rw [size5] at hZ8 hT8 size8
  refine wpAny_pure ⟨_, rfl, ?_⟩
  show Q (.ref g5.objs.size) _
  rw [size5]
  exact hQ g8 hZ8 (up _ _ Z.TOz hO5) (i15.to fun o e => up _ o Z.i1z e) (i25.to fun o e => up _ o Z.i2z e) hT8 size8 fun c o q1 q2 q3 q4 e => up c o q1 (old5 c o q1 q2 q3 q4 e)
theorem zx_end {k k' : SK} {zp tI tO p1 p2 a1 a2 : Addr} {n1 n2 : Nat} {xs ys : Array Value} {u v : Value} {Q : Fin → Shared → Prop} (hd : Ar.handled = none) (Z : ZipApart zp tI tO p1 p2 a1 a2)
    (hZ : IsZip s.heap zp tI tO .none) (hI : IsPair s.heap tI (.ref p1) (.ref p2)) (hO : IsPair s.heap tO u v)
    (i1 : k.Itr s.heap p1 a1 n1) (i2 : k'.Itr s.heap p2 a2 n2) (s1 : k.Sq s.heap a1 xs) (s2 : k'.Sq s.heap a2 ys) (hn : xs[n1]? = none ∨ ys[n2]? = none)
    (hE : ∀ g e, (∀ c o, c ≠ zp → c ≠ tO → c ≠ p1 → c ≠ p2 → s.heap.get? c = some o → g.get? c = some o) → (∃ o, g.get? e = some o ∧ o.cls = .type "StopIteration") → Ex (.ref e) { s with heap := g }) :
    wpAny (model pg wd) Ar (Builtin.«zip.__next__» ⟨[.ref zp], []⟩) Q Ex s := by
  show wpAny _ _ (field (.ref zp) 2 >>= _) _ _ _
  refine wpAny_bind (wpAny_field hZ rfl (x := .bool false) rfl ?_)
  show wpAny _ _ (field (.ref zp) 3 >>= _) _ _ _
  refine wpAny_bind (wpAny_field hZ rfl (x := .ref tI) rfl ?_)
  refine wpAny_bind (wpAny_seqItems hI rfl ?_)
  show wpAny _ _ (Builtin.SmallTypes.ownedTupleIsFree (.ref zp) >>= _) _ _ _
  refine wpAny_bind ?_
  unfold Builtin.SmallTypes.ownedTupleIsFree
  refine wpAny_bind (wpAny_field hZ rfl (x := .none) rfl (wpAny_pure ?_))
  simp only [if_true]
  refine wpAny_bind (wpAny_rule ?_)
  refine wpAny_bind (wpAny_field hZ rfl (x := .ref tO) rfl ?_)
  refine wpAny_bind (wpAny_setField_rec hZ (by simp) fun g1 hZ1 m1 => ?_)
  replace hZ1 : IsZip g1 zp tI tO .ellipsis := hZ1
  refine wpAny_bind ?_
  rw [List.zipIdx_cons, List.zipIdx_cons, List.zipIdx_nil, List.forIn_cons]
  simp only [List.forIn_cons, List.forIn_nil]
  refine wpAny_bind (wpAny_bind (wpAny_onRaise ?_))
  show wpAny _ _ (Builtin.SmallTypes.nextOf (.ref p1) >>= _) _ _ _
  cases hx : xs[n1]? with
  | none =>
    refine wpAny_bind (nx_end hd (i1.ext m1.extBut Z.i1z) (s1.ext m1.extBut Z.l1z) hx fun g2 e m2 q => ?_)
    obtain ⟨o, ho, hc⟩ := q
    have hZ2 : IsZip g2 zp tI tO .ellipsis := m2 _ _ Z.i1z.symm hZ1
    have ne : e ≠ zp := fun w => by
      subst w
      rw [hZ2] at ho
      cases ho
      simp at hc
    exact wpAny_setField_rec hZ2 (by simp) fun g3 _ m3 => hE g3 e (fun c o q1 _ q3 _ w => m3.extBut _ _ q1 (m2 _ _ q3 (m1.extBut _ _ q1 w))) ⟨o, m3.extBut _ _ ne ho, hc⟩
  | some x =>
    have hy : ys[n2]? = none := by
      rcases hn with h | h
      · rw [hx] at h
        cases h
      · exact h
    refine wpAny_bind (nx_item (i1.ext m1.extBut Z.i1z) (s1.ext m1.extBut Z.l1z) hx fun g2 i12 m2 => wpAny_pure ?_)
    have hO2 : IsPair g2 tO u v := m2.extBut _ _ Z.TOi1 (m1.extBut _ _ Z.TOz hO)
    refine wpAny_bind (wpAny_seqItems hO2 rfl ?_)
    refine wpAny_bind (wpAny_updateSeq_pair hO2 fun g3 hO3 m3 => ?_)
    refine wpAny_bind (wpAny_letGo (wpAny_pure ?_))
    refine wpAny_bind (wpAny_bind (wpAny_onRaise ?_))
    show wpAny _ _ (Builtin.SmallTypes.nextOf (.ref p2) >>= _) _ _ _
    refine wpAny_bind (nx_end hd (((i2.ext m1.extBut Z.i2z).ext m2.extBut Z.i12.symm).ext m3.extBut Z.TOi2.symm)
      (((s2.ext m1.extBut Z.l2z).ext m2.extBut Z.l2i1).ext m3.extBut Z.l2TO) hy fun g4 e m4 q => ?_)
    obtain ⟨o, ho, hc⟩ := q
    have hZ4 : IsZip g4 zp tI tO .ellipsis := m4 _ _ Z.i2z.symm (m3.extBut _ _ Z.TOz.symm (m2.extBut _ _ Z.i1z.symm hZ1))
    have ne : e ≠ zp := fun w => by
      subst w
      rw [hZ4] at ho
      cases ho
      simp at hc
    exact wpAny_setField_rec hZ4 (by simp) fun g5 _ m5 => hE g5 e (fun c o q1 q2 q3 q4 w => m5.extBut _ _ q1 (m4 _ _ q4 (m3.extBut _ _ q2 (m2.extBut _ _ q3 (m1.extBut _ _ q1 w))))) ⟨o, m5.extBut _ _ ne ho, hc⟩
theorem pnx_item {k k' : SK} {zp tI tO p1 p2 a1 a2 : Addr} {n1 n2 : Nat} {xs ys : Array Value} {x y u v : Value} {Q : Option Value → Shared → Prop} (Z : ZipApart zp tI tO p1 p2 a1 a2)
    (hZ : IsZip s.heap zp tI tO .none) (hI : IsPair s.heap tI (.ref p1) (.ref p2)) (hO : IsPair s.heap tO u v)
    (i1 : k.Itr s.heap p1 a1 n1) (i2 : k'.Itr s.heap p2 a2 n2) (s1 : k.Sq s.heap a1 xs) (s2 : k'.Sq s.heap a2 ys) (hx : xs[n1]? = some x) (hy : ys[n2]? = some y)
    (hQ : ∀ g, IsZip g zp tI tO (rawInt s.heap.objs.size) → IsPair g tO x y → k.Itr g p1 a1 (n1 + 1) → k'.Itr g p2 a2 (n2 + 1) → IsPair g s.heap.objs.size x y → g.objs.size = s.heap.objs.size + 1 →
      (∀ c o, c ≠ zp → c ≠ tO → c ≠ p1 → c ≠ p2 → s.heap.get? c = some o → g.get? c = some o) → Q (some (.ref s.heap.objs.size)) { s with heap := g }) :
    wpAny (model pg wd) Ar (pyNext (.ref zp)) Q Ex s := by
  have tz : s.TypeIs (.ref zp) "zip" := ⟨_, hZ, rfl⟩
  unfold pyNext
  exact wpAny_bind (wpAny_attempt (wpAny_callSpecial?_slot (name := Str.ofString "__next__") tz F.slot_zip_next
    (wpAny_call_entry F.slot_zip_next tz F.entry_zip_next (zx_item Z hZ hI hO i1 i2 s1 s2 hx hy fun g b1 b2 b3 b4 b5 b6 b7 => wpAny_pure (hQ g b1 b2 b3 b4 b5 b6 b7)) (F.args_zip_next_1 _))))
theorem pnx_end {k k' : SK} {zp tI tO p1 p2 a1 a2 : Addr} {n1 n2 : Nat} {xs ys : Array Value} {u v : Value} {Q : Option Value → Shared → Prop} (hd : Ar.handled = none) (Z : ZipApart zp tI tO p1 p2 a1 a2)
    (hZ : IsZip s.heap zp tI tO .none) (hI : IsPair s.heap tI (.ref p1) (.ref p2)) (hO : IsPair s.heap tO u v)
    (i1 : k.Itr s.heap p1 a1 n1) (i2 : k'.Itr s.heap p2 a2 n2) (s1 : k.Sq s.heap a1 xs) (s2 : k'.Sq s.heap a2 ys) (hn : xs[n1]? = none ∨ ys[n2]? = none)
    (hQ : ∀ g, (∀ c o, c ≠ zp → c ≠ tO → c ≠ p1 → c ≠ p2 → s.heap.get? c = some o → g.get? c = some o) → Q none { s with heap := g }) : wpAny (model pg wd) Ar (pyNext (.ref zp)) Q Ex s := by
  have tz : s.TypeIs (.ref zp) "zip" := ⟨_, hZ, rfl⟩
  unfold pyNext
  refine wpAny_bind (wpAny_attempt (wpAny_callSpecial?_slot (name := Str.ofString "__next__") tz F.slot_zip_next
    (wpAny_call_entry F.slot_zip_next tz F.entry_zip_next (zx_end hd Z hZ hI hO i1 i2 s1 s2 hn fun g e hk q => ?_) (F.args_zip_next_1 _))))
  obtain ⟨o, ho, hc⟩ := q
  exact wpAny_bind (wpAny_isInstance (T := "StopIteration") (b := true) ⟨o, ho, hc⟩ isSubtype_stop (wpAny_pure (hQ _ hk)))
end
def SK.io (k : SK) (a : Addr) : Obj := { cls := .type k.nm, data := .fields #[.ref a, .int 0 0] }
def zx1 (k : SK) (h : Heap) (a : Addr) : Heap := h.push (k.io a)
def zx2 (k k' : SK) (h : Heap) (a b : Addr) : Heap := (zx1 k h a).push (k'.io b)
def zx3 (k k' : SK) (h : Heap) (a b : Addr) : Heap := (zx2 k k' h a b).push { cls := .type "tuple", data := .seq #[.ref h.objs.size, .ref (zx1 k h a).objs.size] }
def zx4 (k k' : SK) (h : Heap) (a b : Addr) : Heap := (zx3 k k' h a b).push { cls := .type "tuple", data := .seq #[.none, .none] }
def zx5 (k k' : SK) (h : Heap) (a b : Addr) : Heap := (zx4 k k' h a b).push { cls := .type "zip", data := .fields #[.none, .bool false, .bool false, .ref (zx2 k k' h a b).objs.size, .ref (zx3 k k' h a b).objs.size] }
theorem meets_zx (k k' : SK) (a b : Addr) (xs ys : Array Value) : Meets (Builtin.«zip.__new__» ⟨[.type "zip", .ref a, .ref b], []⟩) (fun _ R s => k.Sq s.heap a xs ∧ k'.Sq s.heap b ys ∧
      R (.ok (.ret (.ref (zx4 k k' s.heap a b).objs.size))) { s with heap := zx5 k k' s.heap a b }) :=
  .of_wp fun prog w A R s h => by
    obtain ⟨hp, g, d, tk, os⟩ := s
    obtain ⟨ha, hb, h⟩ := h
    have hsub := sub_zip
    cases k <;> cases k'
    · have A1 : Heap.IsList (Shared.heap ⟨hp, g, d, tk, os⟩) a xs := ha
      have A2 : Heap.IsList (Shared.heap ⟨hp.push { cls := .type "list_iterator", data := .fields #[.ref a, .int 0 0] }, g, d, tk, os⟩) b ys := Heap.IsList.push hb _
      wp_walk using wpAny_pyIter_list A1, wpAny_pyIter_list A2
      exact ⟨_, rfl, h⟩
    · have A1 : Heap.IsList (Shared.heap ⟨hp, g, d, tk, os⟩) a xs := ha
      have A2 : Heap.IsTuple (Shared.heap ⟨hp.push { cls := .type "list_iterator", data := .fields #[.ref a, .int 0 0] }, g, d, tk, os⟩) b ys := Heap.IsTuple.push hb _
      wp_walk using wpAny_pyIter_list A1, wpAny_pyIter_tuple A2
      exact ⟨_, rfl, h⟩
    · have A1 : Heap.IsTuple (Shared.heap ⟨hp, g, d, tk, os⟩) a xs := ha
      have A2 : Heap.IsList (Shared.heap ⟨hp.push { cls := .type "tuple_iterator", data := .fields #[.ref a, .int 0 0] }, g, d, tk, os⟩) b ys := Heap.IsList.push hb _
      wp_walk using wpAny_pyIter_tuple A1, wpAny_pyIter_list A2
      exact ⟨_, rfl, h⟩
    · have A1 : Heap.IsTuple (Shared.heap ⟨hp, g, d, tk, os⟩) a xs := ha
      have A2 : Heap.IsTuple (Shared.heap ⟨hp.push { cls := .type "tuple_iterator", data := .fields #[.ref a, .int 0 0] }, g, d, tk, os⟩) b ys := Heap.IsTuple.push hb _
      wp_walk using wpAny_pyIter_tuple A1, wpAny_pyIter_tuple A2
      exact ⟨_, rfl, h⟩

section
variable {pg : Program} {wd : World} {Ar : Around} {Ex : Value → Shared → Prop} {s : Shared}
theorem call_zx {k k' : SK} {a b : Addr} {xs ys : Array Value} {Q : Value → Shared → Prop} (ha : k.Sq s.heap a xs) (hb : k'.Sq s.heap b ys)
    (h : ∀ g, IsZip g (s.heap.objs.size + 4) (s.heap.objs.size + 2) (s.heap.objs.size + 3) .none → IsPair g (s.heap.objs.size + 2) (.ref s.heap.objs.size) (.ref (s.heap.objs.size + 1)) →
      IsPair g (s.heap.objs.size + 3) .none .none → k.Itr g s.heap.objs.size a 0 → k'.Itr g (s.heap.objs.size + 1) b 0 → (∀ c o, s.heap.get? c = some o → g.get? c = some o) → Q (.ref (s.heap.objs.size + 4)) { s with heap := g }) :
    wpAny (model pg wd) Ar (PySem.call (.type "zip") [.ref a, .ref b]) Q Ex s := by
  refine callType_new F.called_zip (by decide) (F.typeCall_zip_2 _ _) (F.newCall_zip_2 _ _) (fun ob => F.args_object_init_3 ob _ _) F.entry_zip_new (meets_zx k k' a b xs ys) ⟨ha, hb, ?_⟩
  have n1 : (zx1 k s.heap a).objs.size = s.heap.objs.size + 1 := Heap.size_push ..
  have n2 : (zx2 k k' s.heap a b).objs.size = s.heap.objs.size + 2 := by
    unfold zx2
    rw [Heap.size_push, n1]
  have n3 : (zx3 k k' s.heap a b).objs.size = s.heap.objs.size + 3 := by
    unfold zx3
    rw [Heap.size_push, n2]
  have n4 : (zx4 k k' s.heap a b).objs.size = s.heap.objs.size + 4 := by
    unfold zx4
    rw [Heap.size_push, n3]
  have up : ∀ (g : Heap) (o : Obj) (c : Addr) (q : Obj), g.get? c = some q → (g.push o).get? c = some q := fun g o c q e => Heap.get?_push_of_some _ e
  have e5 : (zx5 k k' s.heap a b).get? (zx4 k k' s.heap a b).objs.size = some _ := Heap.get?_push_size _ rfl
  have e4 : (zx5 k k' s.heap a b).get? (zx3 k k' s.heap a b).objs.size = some _ := up _ _ _ _ (Heap.get?_push_size _ rfl)
  have e3 : (zx5 k k' s.heap a b).get? (zx2 k k' s.heap a b).objs.size = some _ := up _ _ _ _ (up _ _ _ _ (Heap.get?_push_size _ rfl))
  have e2 : (zx5 k k' s.heap a b).get? (zx1 k s.heap a).objs.size = some (k'.io b) := up _ _ _ _ (up _ _ _ _ (up _ _ _ _ (Heap.get?_push_size _ rfl)))
  have e1 : (zx5 k k' s.heap a b).get? s.heap.objs.size = some (k.io a) := up _ _ _ _ (up _ _ _ _ (up _ _ _ _ (up _ _ _ _ (Heap.get?_push_size _ rfl))))
  show _ ∧ _
  rw [n2, n3, n4] at e5
  rw [n1, n2] at e3
  rw [n3] at e4
  rw [n1] at e2
  rw [n4]
  exact ⟨⟨_, e5, rfl⟩, h _ e5 e3 e4 (SK.Itr.mk e1 rfl rfl) (SK.Itr.mk e2 rfl rfl) fun c o q => up _ _ _ _ (up _ _ _ _ (up _ _ _ _ (up _ _ _ _ (up _ _ _ _ q))))⟩
end
def SqK : SK → PySem.W.Frag → Hp → Addr → List V → Prop
  | .l => SqL
  | .t => SqT
theorem inv_sq {X : Cx} {pins : List (Addr × Obj)} {σ : L2.St} {H : Hp} {s : Shared} (I : Inv X pins σ H s) {k : SK} {a : Addr} {xs : List V} (h : SqK k X.K H a xs) : ∃ its : List Value, Vals xs its ∧ k.Sq s.heap a its.toArray ∧ a < s.heap.objs.size := by
  cases k
  · obtain ⟨its, r, p, _⟩ := I.list h
    exact ⟨its, r, p.isList, p.lt⟩
  · obtain ⟨its, r, p, _⟩ := I.tuple h
    obtain ⟨o, ho, _⟩ := id p
    exact ⟨its, r, (show s.heap.IsTuple a its.toArray from p), Heap.lt_size ho⟩
def ItzX (K : PySem.W.Frag) (k k' : SK) (a b : Addr) : It :=
  ⟨fun i H => ∃ (xs ys : List V) (x y : V), SqK k K H a xs ∧ SqK k' K H b ys ∧ xs[i]? = some x ∧ ys[i]? = some y,
    fun i H v H' => ∃ T x y, v = .ref T ∧ H T = none ∧ H' = upd H T (.tup [x, y]) ∧ (∀ xs, SqK k K H a xs → xs[i]? = some x) ∧ ∀ ys, SqK k' K H b ys → ys[i]? = some y,
    fun i H => ∃ xs ys : List V, SqK k K H a xs ∧ SqK k' K H b ys ∧ (xs.length ≤ i ∨ ys.length ≤ i)⟩
theorem sqk_inj {X : Cx} {pins : List (Addr × Obj)} {σ : L2.St} {H : Hp} {s : Shared} (I : Inv X pins σ H s) {k : SK} {a : Addr} {xs ys : List V} (h : SqK k X.K H a xs) (h' : SqK k X.K H a ys) : xs = ys := by
  cases k
  · exact I.list_inj h h'
  · exact I.tuple_inj h h'
theorem turn_zx {P : Program} {w : World} {K : PySem.W.Frag} {elts : List Expr} {kk : Nat} {tpos : Pos} {k k' : SK} {a b zp tI tO p1 p2 : Addr} (Z : ZipApart zp tI tO p1 p2 a b) :
    Turn P w K (.Tuple elts kk tpos) (ItzX K k k' a b) [zp, tI, tO, p1, p2] zp (fun i h => IsZip h zp tI tO .none ∧ IsPair h tI (.ref p1) (.ref p2) ∧ (∃ x y, IsPair h tO x y) ∧ k.Itr h p1 a i ∧ k'.Itr h p2 b i) where
  mem := List.mem_cons_self
  obj := fun i h st c hc => by
    obtain ⟨hZ, hI, ⟨x, y, hO⟩, i1, i2⟩ := st
    obtain ⟨o1, e1, _, d1⟩ := i1.ob
    obtain ⟨o2, e2, _, d2⟩ := i2.ob
    simp only [List.mem_cons, List.not_mem_nil, or_false] at hc
    rcases hc with rfl | rfl | rfl | rfl | rfl
    · exact ⟨_, hZ, fun v q => nomatch q⟩
    · exact ⟨_, hI, fun v q => nomatch q⟩
    · exact ⟨_, hO, fun v q => nomatch q⟩
    · exact ⟨o1, e1, fun v q => by
        rw [d1] at q
        cases q⟩
    · exact ⟨o2, e2, fun v q => by
        rw [d2] at q
        cases q⟩
  keep := fun i h h' st kp => by
    obtain ⟨hZ, hI, ⟨x, y, hO⟩, i1, i2⟩ := st
    exact ⟨kp zp (by simp) _ hZ, kp tI (by simp) _ hI, ⟨x, y, kp tO (by simp) _ hO⟩, i1.to fun o q => kp p1 (by simp) o q, i2.to fun o q => kp p2 (by simp) o q⟩
  item := by
    intro X hP hw hK hc i pins s σ H E I hf st hg
    subst hP hw hK
    obtain ⟨hZ, hI, ⟨u0, v0, hO⟩, i1, i2⟩ := st
    obtain ⟨xs, ys, x, y, qx, qy, hx, hy⟩ := hg
    obtain ⟨us, rv, sx, _⟩ := inv_sq I qx
    obtain ⟨vs, rw', sy, _⟩ := inv_sq I qy
    obtain ⟨u, hu, ru⟩ := rv.get hx
    obtain ⟨v, hv, rv'⟩ := rw'.get hy
    have ltz : zp < s.heap.objs.size := Heap.lt_size hZ
    refine pnx_item Z hZ hI hO i1 i2 sx sy (x := u) (y := v) (by simpa using hu) (by simpa using hv) fun g hZ' hO' i1' i2' hT sz old => ?_
    refine ⟨_, rfl, wpAny_letOwnedTupleGo_zip (s := { s with heap := g }) hZ' fun g2 hZ2 m2 => ?_⟩
    have hT2 : g2.get? s.heap.objs.size = some { cls := .type "tuple", data := .seq #[u, v] } := (m2.2 _ (Nat.ne_of_gt ltz)).trans hT
    have new : ObjOk X.prog X.w (upd H s.heap.objs.size (.tup [x, y])) g2 s.heap.objs.size (.tup [x, y]) :=
      ⟨by show 2 ≤ sizeLine; decide, [u, v], .cons ru (.cons rv' .nil), ⟨_, hT2, rfl, _, rfl⟩⟩
    have I1 : Inv X pins σ (upd H s.heap.objs.size (.tup [x, y])) { s with heap := g2 } :=
      I.turnedNew (t' := s.toks) (ch := [zp, tI, tO, p1, p2]) (fun c o hb q => by
        simp only [List.mem_cons, List.not_mem_nil, or_false, not_or] at hb
        exact (m2.2 c hb.1).trans (old c o hb.1 hb.2.2.1 hb.2.2.2.1 hb.2.2.2.2 q)) hf (Nat.le_refl _) new
    refine ⟨.ref s.heap.objs.size, _, I1, rfl, ⟨_, x, y, rfl, I.hok.fresh (Nat.le_refl _), rfl, fun l hl => by rw [sqk_inj I hl qx]; exact hx, fun l hl => by rw [sqk_inj I hl qy]; exact hy⟩, ⟨hZ2, ?_, ⟨u, v, ?_⟩, ?_, ?_⟩, fun c hcm => ?_⟩
    · exact (m2.2 _ Z.TIz).trans (old _ _ Z.TIz Z.TITO Z.TIi1 Z.TIi2 hI)
    · exact (m2.2 _ Z.TOz).trans hO'
    · exact i1'.to fun o q => (m2.2 _ Z.i1z).trans q
    · exact i2'.to fun o q => (m2.2 _ Z.i2z).trans q
    · have lt : c < s.heap.objs.size := by
        obtain ⟨o1, e1, _⟩ := i1.ob
        obtain ⟨o2, e2, _⟩ := i2.ob
        simp only [List.mem_cons, List.not_mem_nil, or_false] at hcm
        rcases hcm with rfl | rfl | rfl | rfl | rfl
        · exact ltz
        · exact Heap.lt_size hI
        · exact Heap.lt_size hO
        · exact Heap.lt_size e1
        · exact Heap.lt_size e2
      rw [upd_ne (Nat.ne_of_lt lt)]
      exact (hf c hcm).1
  done := by
    intro X hP hw hK hc i pins s σ H E I hf st hg
    subst hP hw hK
    obtain ⟨hZ, hI, ⟨u0, v0, hO⟩, i1, i2⟩ := st
    obtain ⟨xs, ys, qx, qy, hn⟩ := hg
    obtain ⟨us, rv, sx, _⟩ := inv_sq I qx
    obtain ⟨vs, rw', sy, _⟩ := inv_sq I qy
    have l1 := rv.length
    have l2 := rw'.length
    have he : us.toArray[i]? = none ∨ vs.toArray[i]? = none := by
      rcases hn with q | q
      · exact .inl (by simp; omega)
      · exact .inr (by simp; omega)
    exact pnx_end (I.ok.hd hc) Z hZ hI hO i1 i2 sx sy he fun g old => ⟨rfl, I.turnedL (t' := s.toks) (ch := [zp, tI, tO, p1, p2]) (fun c o hb q => by
      simp only [List.mem_cons, List.not_mem_nil, or_false, not_or] at hb
      exact old c o hb.1 hb.2.2.1 hb.2.2.2.1 hb.2.2.2.2 q) hf⟩
  self := fun A i s Q E st h => wpAny_pyIter_zip st.1 h
def iZipX (K : PySem.W.Frag) (ta : TA) : TI := fun σ H R => ta σ H fun vs H1 => ∃ k k' a b xs ys, vs = [.ref a, .ref b] ∧ SqK k K H1 a xs ∧ SqK k' K H1 b ys ∧ R (ItzX K k k' a b) H1
theorem pi_zx {X : Cx} {e e2 : Expr} {ta : TA} {p pos tpos : Pos} {elts : List Expr} {kk : Nat} (hg : Gl X "zip") (hm : X.mg "zip" = none) (ha : PA X [e, e2] ta)
    (he : starEach [e, e2] X.env = (false, eval e X.env) :: starEach [e2] X.env := by rfl) (hl : (backTo pos (starEach [e2] X.env)).any (·.1) = false := by rfl) :
    PI X (.Tuple elts kk tpos) (.Call (.Name "zip" p) [e, e2] [] pos) (iZipX X.K ta) := by
  refine ⟨fun pins s σ H R I h => ?_⟩
  refine Call_ (ld_blt I hg hm PyProof.Rows.boot_zip (PyProof.Rows.callWith_type1 (thn (ha.run pos pins s σ H _ I h) fun us t ⟨vs, H1, I1, r1, q1⟩ => ?_) he hl))
  obtain ⟨k, k', a, b, xs, ys, rfl, qx, qy, q⟩ := q1
  cases r1 with
  | cons r rr =>
    cases rr with
    | cons r' rr =>
      cases rr
      cases r
      cases r'
      obtain ⟨us, rv, sx, la⟩ := inv_sq I1 qx
      obtain ⟨vs, rw', sy, lb⟩ := inv_sq I1 qy
      refine call_zx sx sy fun g hZ hI hO i1 i2 old => wpAny_pyIter_zip hZ ?_
      have I2 : Inv X pins σ H1 { t with heap := g } := I1.kept (t' := t.toks) old
      refine ⟨t.heap.objs.size + 4, [t.heap.objs.size + 4, t.heap.objs.size + 2, t.heap.objs.size + 3, t.heap.objs.size, t.heap.objs.size + 1], _, _, H1, rfl, I2, turn_zx (PySem.W.ktu_apart t.heap.objs.size a b la lb), ⟨hZ, hI, ⟨_, _, hO⟩, i1, i2⟩, fun c hcm => ?_, q⟩
      have le : t.heap.objs.size ≤ c := by
        simp only [List.mem_cons, List.not_mem_nil, or_false] at hcm
        rcases hcm with rfl | rfl | rfl | rfl | rfl <;> first | exact Nat.le_refl _ | exact Nat.le_add_right _ _
      exact I1.fpOk le (I1.hok.fresh le)
end PD

set_option Elab.async false
set_option linter.all false
set_option maxRecDepth 100000
namespace PD
open PySem PySem.Spec PyProof.Rows L2
section
variable {X : Cx} {tg a b e : Expr} {f : Fe} {fl : Fl} {pos p tpos : Pos} {elts : List Expr} {kk : Nat}
def enumL (xs : List D) : List D := xs.zipIdx.map fun q => D.tup [.int (q.2 : Nat), q.1]
theorem enumL_get (xs : List D) (i : Nat) : (enumL xs)[i]? = xs[i]?.map fun x => D.tup [.int (i : Nat), x] := by
  unfold enumL
  rw [List.getElem?_map, List.getElem?_zipIdx]
  cases xs[i]? with
  | none => rfl
  | some x => simp
theorem enumL_len (xs : List D) : (enumL xs).length = xs.length := by
  unfold enumL
  rw [List.length_map, List.length_zipIdx]
theorem new_pair {K : PySem.W.Frag} {H G : Hp} (w : Wf H G) {T : Addr} (hT : H T = none) {x y : V} {d d' : D} (r : Rp K G d x) (r' : Rp K G d' y) : ∃ G', Ext H G (upd H T (.tup [x, y])) G' ∧ Rp K G' (.tup [d, d']) (.ref T) := by
  have e : Ext H G (upd H T (.tup [x, y])) (upd G T (.tup [x, y])) := Ext.alloc w hT
  refine ⟨_, e, ?_⟩
  simp only [Rp]
  exact ⟨T, _, rfl, SqT.of upd_same, RpL.mono e.gg _ _ (RpL.cons r (RpL.cons r' RpL.nil))⟩
theorem ite_ok {K : PySem.W.Frag} {a : Addr} {xs : List V} {ds : List D} {H1 G1 : Hp} (h : ∀ H G : Hp, Same G1 G → Wf H G → Same H1 H → SqL K H a xs) (r : RpL K G1 ds xs) : ItC K (Ite K a) (enumL ds) H1 G1 := fun i H G sh sg w => by
  have hs := h H G sg w sh
  refine ⟨fun hi => ⟨xs, hs, by rw [enumL_len] at hi; rw [← r.len]; exact hi⟩, fun d hd => ?_⟩
  rw [enumL_get] at hd
  obtain ⟨d0, hd0, rfl⟩ := Option.map_eq_some_iff.mp hd
  obtain ⟨x, hx, rx⟩ := r.at hd0
  refine ⟨⟨xs, x, hs, hx⟩, fun y H' hy => ?_⟩
  obtain ⟨T, x', rfl, hT, rfl, hy⟩ := hy
  have := hy xs hs
  rw [hx] at this
  cases this
  exact new_pair w hT (rp_int _) (Rp.mono sg _ _ rx)
theorem ite_okL {K : PySem.W.Frag} {a : Addr} {xs : List V} {ds : List D} {H1 G1 : Hp} (h : G1 a = some (.lst xs)) (r : RpL K G1 ds xs) : ItL K (Ite K a) (enumL ds) H1 G1 := fun i H G sg w =>
  ite_ok (H1 := fun _ => none) (fun H G sg w _ => SqL.of (w.sub _ _ (sg _ _ h))) r i H G (fun _ _ e => nomatch e) sg w
def iEnumD (fl : Fl) : Fl := fun env => match fl env with
  | some [.lst xs] => some (enumL xs)
  | _ => none
theorem icx_enum (hg : Gl X "enumerate") (hm : X.mg "enumerate" = none) (ha : ABX X [e] fl) (hs : starEach [e] X.env = [(false, eval e X.env)] := by rfl) : ICX X (.Tuple elts kk tpos) (.Call (.Name "enumerate" p) [e] [] pos) (iEnumD fl) := pi_imp (pi_enum hg hm ha hs) fun σ H R q => by
  obtain ⟨H0, G0, G, env, ds, S, e1, q⟩ := q
  unfold iEnumD at e1
  split at e1
  · rename_i xs hf
    cases e1
    refine ⟨H0, G0, G, env, _, S, hf, fun vs H1 G1 x1 r1 => ?_⟩
    obtain ⟨a, ys, rfl, h1, h2⟩ := rpbl_lst r1
    exact ⟨a, ys, rfl, SqL.of h1, q _ H1 G1 x1 (ite_ok (fun H G _ _ sh => SqL.of (sh _ _ h1)) h2)⟩
  · cases e1
theorem ilx_enum (hg : Gl X "enumerate") (hm : X.mg "enumerate" = none) (ha : AX X [e] fl) (hs : starEach [e] X.env = [(false, eval e X.env)] := by rfl) : ILX X (.Tuple elts kk tpos) (.Call (.Name "enumerate" p) [e] [] pos) (iEnumD fl) := pi_imp (pi_enum hg hm ha hs) fun σ H R q => by
  obtain ⟨H0, G0, G, env, ds, S, e1, q⟩ := q
  unfold iEnumD at e1
  split at e1
  · rename_i xs hf
    cases e1
    refine ⟨H0, G0, G, env, _, S, hf, fun vs H1 G1 x1 r1 => ?_⟩
    simp only [RpL, Rp] at r1
    obtain ⟨v, r, rfl, ⟨a, ys, rfl, h1, h2⟩, rfl⟩ := r1
    exact ⟨a, ys, rfl, SqL.of (x1.wf.sub _ _ h1), q _ H1 G1 x1 (ite_okL h1 h2)⟩
  · cases e1
/-! ### zip -/
def zipL : List D → List D → List D
  | x :: xs, y :: ys => .tup [x, y] :: zipL xs ys
  | _, _ => []
theorem zipL_get : ∀ (xs ys : List D) (i : Nat) (d : D), (zipL xs ys)[i]? = some d → ∃ x y, xs[i]? = some x ∧ ys[i]? = some y ∧ d = .tup [x, y]
  | [], ys, i, d, h => by simp [zipL] at h
  | x :: xs, [], i, d, h => by simp [zipL] at h
  | x :: xs, y :: ys, 0, d, h => by
    simp only [zipL, List.getElem?_cons_zero, Option.some.injEq] at h
    exact ⟨x, y, rfl, rfl, h.symm⟩
  | x :: xs, y :: ys, i + 1, d, h => by
    simp only [zipL, List.getElem?_cons_succ] at h
    exact zipL_get xs ys i d h
theorem zipL_len : ∀ (xs ys : List D), (zipL xs ys).length = min xs.length ys.length
  | [], ys => by simp [zipL]
  | x :: xs, [] => by simp [zipL]
  | x :: xs, y :: ys => by
    simp only [zipL, List.length_cons, zipL_len xs ys]
    omega
/-- a list or a tuple, as it stands in H -/
def seqD : D → Option (List D)
  | .lst xs => some xs
  | .tup xs => some xs
  | _ => none
theorem rpb_seq {K : PySem.W.Frag} {H G : Hp} (w : Wf H G) {d : D} {ds : List D} {v : V} (e : seqD d = some ds) (r : RpB K H G d v) : ∃ k a xs, v = .ref a ∧ SqK k K H a xs ∧ RpL K G ds xs ∧ ∀ H' G', Same H H' → Same G G' → Wf H' G' → SqK k K H' a xs := by
  unfold seqD at e
  split at e
  · cases e
    obtain ⟨a, xs, rfl, h1, h2⟩ := r
    exact ⟨.l, a, xs, rfl, SqL.of h1, h2, fun H' G' sh sg w' => SqL.of (sh _ _ h1)⟩
  · cases e
    obtain ⟨a, xs, rfl, h1, h2⟩ := rpb_tup r
    exact ⟨.t, a, xs, rfl, sqt_up w h1, h2, fun H' G' sh sg w' => sqt_up w' (Same.tup sg h1)⟩
  · cases e
theorem rp_seq {K : PySem.W.Frag} {H G : Hp} (w : Wf H G) {d : D} {ds : List D} {v : V} (e : seqD d = some ds) (r : Rp K G d v) : ∃ k a xs, v = .ref a ∧ SqK k K H a xs ∧ RpL K G ds xs ∧ ∀ H' G', Same G G' → Wf H' G' → SqK k K H' a xs := by
  unfold seqD at e
  split at e
  · cases e
    simp only [Rp] at r
    obtain ⟨a, xs, rfl, h1, h2⟩ := r
    exact ⟨.l, a, xs, rfl, SqL.of (w.sub _ _ h1), h2, fun H' G' sg w' => SqL.of (w'.sub _ _ (sg _ _ h1))⟩
  · cases e
    simp only [Rp] at r
    obtain ⟨a, xs, rfl, h1, h2⟩ := r
    exact ⟨.t, a, xs, rfl, sqt_up w h1, h2, fun H' G' sg w' => sqt_up w' (Same.tup sg h1)⟩
  · cases e
theorem itzx_at {K : PySem.W.Frag} {k k' : SK} {a b : Addr} {xs ys : List V} {ds es : List D} {G1 : Hp} (r : RpL K G1 ds xs) (r' : RpL K G1 es ys) (i : Nat) {H G : Hp} (sg : Same G1 G) (w : Wf H G) (s1 : SqK k K H a xs) (s2 : SqK k' K H b ys) :
    ((zipL ds es).length ≤ i → (ItzX K k k' a b).stop i H) ∧ ∀ d, (zipL ds es)[i]? = some d → (ItzX K k k' a b).go i H ∧ ∀ x H', (ItzX K k k' a b).yld i H x H' → ∃ G', Ext H G H' G' ∧ Rp K G' d x := by
  refine ⟨fun hi => ⟨xs, ys, s1, s2, ?_⟩, fun d hd => ?_⟩
  · rw [zipL_len] at hi
    rw [← r.len, ← r'.len]
    omega
  · obtain ⟨d1, d2, h1, h2, rfl⟩ := zipL_get _ _ _ _ hd
    obtain ⟨x, hx, rx⟩ := r.at h1
    obtain ⟨y, hy, ry⟩ := r'.at h2
    refine ⟨⟨xs, ys, x, y, s1, s2, hx, hy⟩, fun z H' hz => ?_⟩
    obtain ⟨T, x', y', rfl, hT, rfl, q1, q2⟩ := hz
    have z1 := q1 xs s1
    have z2 := q2 ys s2
    rw [hx] at z1
    rw [hy] at z2
    cases z1
    cases z2
    exact new_pair w hT (Rp.mono sg _ _ rx) (Rp.mono sg _ _ ry)
def iZipD (fl : Fl) : Fl := fun env => match fl env with
  | some [x, y] => (seqD x).bind fun xs => (seqD y).bind fun ys => some (zipL xs ys)
  | _ => none
theorem icx_zip (hg : Gl X "zip") (hm : X.mg "zip" = none) (ha : ABX X [a, b] fl) (hs : starEach [a, b] X.env = (false, eval a X.env) :: starEach [b] X.env := by rfl) (hpl : (backTo pos (starEach [b] X.env)).any (·.1) = false := by rfl) : ICX X (.Tuple elts kk tpos) (.Call (.Name "zip" p) [a, b] [] pos) (iZipD fl) := pi_imp (pi_zx hg hm ha hs hpl) fun σ H R q => by
  obtain ⟨H0, G0, G, env, ds, S, e1, q⟩ := q
  unfold iZipD at e1
  split at e1
  · rename_i x y hf
    obtain ⟨xs, hx, e1⟩ := Option.bind_eq_some_iff.mp e1
    obtain ⟨ys, hy, e1⟩ := Option.bind_eq_some_iff.mp e1
    cases e1
    refine ⟨H0, G0, G, env, _, S, hf, fun vs H1 G1 x1 r1 => ?_⟩
    obtain ⟨u, v, rfl, ru, rv⟩ := rpbl2 r1
    obtain ⟨k, a, xs', rfl, s1, h1, t1⟩ := rpb_seq x1.wf hx ru
    obtain ⟨k', b, ys', rfl, s2, h2, t2⟩ := rpb_seq x1.wf hy rv
    exact ⟨k, k', a, b, xs', ys', rfl, s1, s2, q _ H1 G1 x1 fun i H G sh sg w => itzx_at h1 h2 i sg w (t1 H G sh sg w) (t2 H G sh sg w)⟩
  · cases e1
theorem ilx_zip (hg : Gl X "zip") (hm : X.mg "zip" = none) (ha : AX X [a, b] fl) (hs : starEach [a, b] X.env = (false, eval a X.env) :: starEach [b] X.env := by rfl) (hpl : (backTo pos (starEach [b] X.env)).any (·.1) = false := by rfl) : ILX X (.Tuple elts kk tpos) (.Call (.Name "zip" p) [a, b] [] pos) (iZipD fl) := pi_imp (pi_zx hg hm ha hs hpl) fun σ H R q => by
  obtain ⟨H0, G0, G, env, ds, S, e1, q⟩ := q
  unfold iZipD at e1
  split at e1
  · rename_i x y hf
    obtain ⟨xs, hx, e1⟩ := Option.bind_eq_some_iff.mp e1
    obtain ⟨ys, hy, e1⟩ := Option.bind_eq_some_iff.mp e1
    cases e1
    refine ⟨H0, G0, G, env, _, S, hf, fun vs H1 G1 x1 r1 => ?_⟩
    simp only [RpL] at r1
    obtain ⟨u, r, rfl, ru, v, r', rfl, rv, rfl⟩ := r1
    obtain ⟨k, a, xs', rfl, s1, h1, t1⟩ := rp_seq x1.wf hx ru
    obtain ⟨k', b, ys', rfl, s2, h2, t2⟩ := rp_seq x1.wf hy rv
    exact ⟨k, k', a, b, xs', ys', rfl, s1, s2, q _ H1 G1 x1 fun i H G sg w => itzx_at h1 h2 i sg w (t1 H G sg w) (t2 H G sg w)⟩
  · cases e1
end
end PD

set_option Elab.async false
set_option linter.all false
set_option maxRecDepth 100000
namespace PD
open PySem PySem.Spec PyProof.Rows L2
open PySem.W (EachIs AllAlike Sortable dataLe)

/-! ### sorted of data -/
def alikeD (x y : D) : Bool := PySem.W.alike (py x) (py y)
def isTup1 : D → Bool
  | .tup (_ :: _) => true
  | _ => false
def notTN : D → Bool
  | .tup _ => false
  | .non => false
  | .dic _ => false
  | _ => true
def leD (x y : D) : Bool := dataLe false py x y
def sortD (xs : List D) : List D := xs.mergeSort leD
def sortOk (xs : List D) : Bool := xs.all (okN 62) && (xs.all isTup1 || xs.all notTN) && xs.all fun a => xs.all fun b => alikeD a b
theorem sortOk_s {xs : List D} (h : sortOk xs = true) : (∀ x ∈ xs, okN 62 x = true) ∧ Sortable (xs.map py) ∧ AllAlike (xs.map py) := by
  unfold sortOk at h
  rw [Bool.and_eq_true, Bool.and_eq_true, Bool.or_eq_true] at h
  obtain ⟨⟨h1, h2⟩, h3⟩ := h
  refine ⟨List.all_eq_true.mp h1, ?_, ?_⟩
  · rcases h2 with h2 | h2
    · left
      intro d hd
      obtain ⟨x, hx, rfl⟩ := List.mem_map.mp hd
      have := List.all_eq_true.mp h2 x hx
      cases x with
      | tup ys =>
        cases ys with
        | nil => cases this
        | cons y ys => exact ⟨py y, pyL ys, by simp only [py, pyL]⟩
      | _ => cases this
    · right
      intro d hd
      obtain ⟨x, hx, rfl⟩ := List.mem_map.mp hd
      have := List.all_eq_true.mp h2 x hx
      cases x <;> first | (cases this; done) | exact ⟨by simp [py], by simp [py]⟩
  · intro d hd d' hd'
    obtain ⟨x, hx, rfl⟩ := List.mem_map.mp hd
    obtain ⟨y, hy, rfl⟩ := List.mem_map.mp hd'
    exact List.all_eq_true.mp (List.all_eq_true.mp h3 x hx) y hy
/-- a value that stands for d -/
def Sv (K : PySem.W.Frag) (G : Hp) (v : Value) (d : D) : Prop := ∃ x, Rp K G d x ∧ RelV x v
theorem sv_each {K : PySem.W.Frag} {G : Hp} : ∀ {ds : List D} {xs : List V} {us : List Value}, RpL K G ds xs → Vals xs us → EachIs (Sv K G) us ds
  | [], _, _, h, r => by
    simp only [RpL] at h
    subst h
    cases r
    exact .nil
  | d :: ds, _, _, h, r => by
    simp only [RpL] at h
    obtain ⟨x, q, rfl, h1, h2⟩ := h
    cases r with
    | cons r1 r2 => exact .cons ⟨x, h1, r1⟩ (sv_each h2 r2)
theorem sv_back {K : PySem.W.Frag} {G : Hp} : ∀ {ds : List D} {us : List Value}, EachIs (Sv K G) us ds → ∃ xs, RpL K G ds xs ∧ Vals xs us
  | _, _, .nil => ⟨[], RpL.nil, .nil⟩
  | _, _, .cons ⟨x, h1, r1⟩ t => by
    obtain ⟨xs, h2, r2⟩ := sv_back t
    exact ⟨x :: xs, RpL.cons h1 h2, .cons r1 r2⟩
theorem sv_reads {X : Cx} {pins : List (Addr × Obj)} {σ : L2.St} {H G : Hp} {s : Shared} (I : Inv X pins σ H s) (w : Wf H G) : ∀ {ds : List D} {us : List Value}, (∀ x ∈ ds, okN 62 x = true) → EachIs (Sv X.K G) us ds → EachIs (fun v b => ∃ as, Reads s.heap v (py b) as) us ds
  | _, _, _, .nil => .nil
  | _, _, o, .cons ⟨x, h1, r1⟩ t => .cons (Dp.reads I _ x _ (Rp.dp _ x 62 (o _ List.mem_cons_self) (Rp.mono w.sub _ _ h1)) r1) (sv_reads I w (fun y hy => o y (List.mem_cons_of_mem _ hy)) t)
def rSortD (K : PySem.W.Frag) : List V → Hp → VK → Prop := fun vs H Q => ∃ a xs ds G, vs = [V.ref a] ∧ SqL K H a xs ∧ Wf H G ∧ RpL K G ds xs ∧ sortOk ds = true ∧ ∀ p ys, RpL K G (sortD ds) ys → H p = none → Q (.ref p) (upd H p (.lst ys))
theorem call_sortD {X : Cx} (hu : X.A.units + 65 < cLine) : CallR X (.builtin "sorted") (rSortD X.K) := by
  intro pins s σ H vs us Q I r h
  obtain ⟨a, xs, ds, G, rfl, hs, w, hr, hk, q⟩ := h
  obtain ⟨its, rv, hl, hz⟩ := I.list hs
  rw [Vals.ref1 r]
  obtain ⟨o1, o2, o3⟩ := sortOk_s hk
  have e := sv_each hr rv
  refine PySem.W.sorted_data hl.isList e (sv_reads I w o1 e) o3 o2 ?_ (fun b hb => ?_) fun out h1 h2 => ?_
  · rw [← e.length, ← rv.length]
    exact hz
  · have := (okN_lay 62 b (o1 b hb)).2
    omega
  · obtain ⟨ys, hy, ry⟩ := sv_back h2
    obtain ⟨ep, he'⟩ := PyProof.Rows.sortedAll_at s.heap its out.toArray
    have hlen : ys.length ≤ sizeLine := by
      rw [ry.length, h1, ← e.length, ← rv.length]
      exact hz
    exact ⟨.ref _, upd H (s.heap.objs.size + 1) (.lst ys), I.laid (t' := s.toks) (fun _ _ => PyProof.Rows.sortedAll_old) (Nat.le_succ _) ⟨hlen, out, ep, ry, he'⟩, rfl, q _ _ hy (I.hok.fresh (Nat.le_succ _))⟩
/-- sorted: whole numbers, or other data that are alike -/
def gSortA : List D → Option (List D)
  | [.lst xs] => match intsOf xs with
    | some ns => some ((sortI ns).map D.int)
    | none => if sortOk xs then some (sortD xs) else none
  | _ => none
theorem csortA {X : Cx} (hu : X.A.units + 65 < cLine) : CallR X (.builtin "sorted") (rCF X.K gSortA) := (csortF.or (call_sortD hu)).imp fun vs H Q q => by
  obtain ⟨G, ds, d, w, r, e, q⟩ := q
  unfold gSortA at e
  split at e
  · rename_i xs
    split at e
    · rename_i ns hns
      cases e
      refine .inl ⟨G, _, _, w, r, ?_, q⟩
      unfold gSortF
      simp only [hns, Option.map_some]
    · split at e
      · rename_i hk
        cases e
        obtain ⟨a, ys, rfl, h2, h3⟩ := rpbl_lst r
        exact .inr ⟨a, ys, xs, G, rfl, SqL.of h2, w, h3, hk, fun p zs hz hp => tF_new w hz q p hp⟩
      · cases e
  · cases e

/-! ### is, is not -/
def gIsB : D → D → Option D := fun x y => match x, y with
  | d, .non => some (.bl (isNon d))
  | .bl a, .bl b => some (.bl (decide (a = b)))
  | _, _ => none
def gIsNotB : D → D → Option D := fun x y => match x, y with
  | d, .non => some (.bl (!isNon d))
  | .bl a, .bl b => some (.bl (!decide (a = b)))
  | _, _ => none
theorem oisB {X : Cx} : OpR X (compareOp .Is) (rD X.K gIsB) := (ois.or op_is_bl).imp fun x y H Q q => by
  obtain ⟨G, dx, dy, d, w, rx, ry, e, q⟩ := q
  unfold gIsB at e
  split at e
  · exact .inl ⟨G, _, _, _, w, rx, ry, by simpa only [gIs] using e, q⟩
  · cases e
    exact .inr ⟨_, _, rpb_bl rx, rpb_bl ry, q _ H G (Ext.refl w) (rp_bl _)⟩
  · cases e
theorem oisnB {X : Cx} : OpR X (compareOp .IsNot) (rD X.K gIsNotB) := (oisn.or op_isnot_bl).imp fun x y H Q q => by
  obtain ⟨G, dx, dy, d, w, rx, ry, e, q⟩ := q
  unfold gIsNotB at e
  split at e
  · exact .inl ⟨G, _, _, _, w, rx, ry, by simpa only [gIsNot] using e, q⟩
  · cases e
    exact .inr ⟨_, _, rpb_bl rx, rpb_bl ry, q _ H G (Ext.refl w) (rp_bl _)⟩
  · cases e

/-! ### (a, b, ..) = a list -/
def gTl (f : Fts) : Ft := fun d env => match d with
  | .lst xs => f xs env
  | _ => none
theorem gx_tl {X : Cx} {pos : Pos} {es : List Expr} {k : Nat} {f : Fts} {S : List Nat} {n : Nat} (hc : X.calm = true) (h : GsX X es f S) (hl : ∀ ds env env', f ds env = some env' → ds.length = n)
    (hn : (assignEach es X.env).length = n := by rfl) (hst : (assignEach es X.env).findIdx? (·.1) = none := by rfl) : GX X (.Tuple es k pos) (gTl f) S := pg_imp (pg_unl hc h hn hst) fun v σ H Q q => by
  obtain ⟨H0, G0, G, env, d, env', S', r, e, q⟩ := q
  cases d with
  | lst ds =>
    simp only [Rp] at r
    obtain ⟨a, xs, rfl, r1, r2⟩ := r
    have e' : f ds env = some env' := e
    exact ⟨a, xs, rfl, SqL.of (S'.wf.sub _ _ r1), by rw [← r2.len]; exact hl _ _ _ e', H0, G0, G, env, ds, env', S', r2, e', q⟩
  | _ => cases e

/-! ### tuple * 1 -/
set_option maxHeartbeats 4000000 in
theorem tuple_mul1 (l : Addr) (items : Array Value) (n : Nat) (dd : Option Addr) (sl : Array (Option Value)) (u : Tok) :
    Meets (Builtin.«tuple.__mul__» ⟨[.ref l, .int 1 u], []⟩) (fun _ R s => s.heap.get? l = some { cls := .type "tuple", dict := dd, data := .seq items n, slots := sl } ∧
      R (.ok (.ret (Value.ref l))) s) :=
  .of_wp fun prog w A R s h => by
    obtain ⟨hp, g, d, tk, os⟩ := s
    obtain ⟨hl, h⟩ := h
    have f1 := AutoSeq1.idx_int
    wp_walk using wpAny_loadPart' hl
    exact ⟨_, rfl, h⟩
theorem op_repT1 {X : Cx} : OpR X (binaryOp .Mult) (fun x y H Q => ∃ l xs, x = .ref l ∧ y = .int 1 ∧ SqT X.K H l xs ∧ Q (.ref l) H) := by
  intro pins s σ H x y v u Q I rx ry h
  obtain ⟨l, xs, rfl, rfl, hT, q⟩ := h
  cases rx
  obtain ⟨t, rfl⟩ := ry
  obtain ⟨its, r, ⟨⟨cls, dd, data, sl⟩, ho, hc, n, hd⟩, hs⟩ := I.tuple hT
  simp only at hc hd
  subst hc hd
  exact wpAny_binaryOp_repeat_ref (T := "tuple") (U := "int") (by decide) ⟨_, ho, rfl⟩ (fun s' => typeIs_int s' 1 t) noFill_tuple_mul F.fills_int_mul F.slot_int_rmul repeat_tuple F.slot_int_index.lookup
    (call_meets F.slot_int_rmul (typeIs_int s 1 t) F.entry_int_rmul (F.args_int_rmul_2 _ _) (int_rmul_tuple 1 t l its.toArray n dd sl)
      ⟨ho, rfl, ⟨_, ho, rfl⟩, call_meets F.slot_tuple_mul ⟨_, ho, rfl⟩ F.entry_tuple_mul (F.args_tuple_mul_2 _ _) (tuple_mul1 l its.toArray n dd sl t) ⟨ho, ⟨.ref l, H, I, rfl, q⟩⟩⟩)
def gMulA : D → D → Option D := fun x y => match x, y with
  | .tup xs, .int 1 => some (.tup xs)
  | x, y => gMul x y
theorem omulA {X : Cx} : OpR X (binaryOp .Mult) (rD X.K gMulA) := (op_repT1.or omul).imp fun x y H Q q => by
  obtain ⟨G, dx, dy, d, w, rx, ry, e, q⟩ := q
  unfold gMulA at e
  split at e
  · cases e
    obtain ⟨a, xs, rfl, h2, h3⟩ := rpb_tup rx
    refine .inl ⟨a, xs, rfl, rpb_int ry, Same.tup w.sub h2, q _ H G (Ext.refl w) ?_⟩
    simp only [Rp]
    exact ⟨a, xs, rfl, h2, h3⟩
  · exact .inr ⟨G, _, _, _, w, rx, ry, e, q⟩
end PD

set_option Elab.async false
set_option linter.all false
set_option maxRecDepth 100000
namespace PD
open PySem PySem.Spec PyProof.Rows L2
theorem funt_mk {K : PySem.W.Frag} {h : Heap} {mg : Str → Option Value} {x : Str} {st : Stmt} {f : Addr} {oc : Value} {od an : Option Addr} {osl : Array (Option Value)} {kV doc pm cdv ct : Value} (X : K.In h) (G : h.Ns mainGlobals mg)
    (a : PySem.W.nsIn K mainGlobals x = some (some (.ref f))) (l : K.lookup f = some ⟨oc, od, .func (PySem.W.fnOf x x (defArgs st) (defBody st) (defScope st) .none kV doc pm an cdv ct), osl⟩)
    (c : PySem.W.codeIn K cdv x = true) (k : PySem.W.keepIn K (.ref f) = true) : FunT K mg x st := ⟨f, _, fun_mk l c k, PySem.W.mg_of X G a⟩
theorem ci_mk {K : PySem.W.Frag} {h : Heap} {mg : Str → Option Value} {x : Str} {i : Int} {t : Tok} (X : K.In h) (G : h.Ns mainGlobals mg) (a : PySem.W.nsIn K mainGlobals x = some (some (.int i t))) : CI mg x i := ⟨t, PySem.W.mg_of X G a⟩
/-- the law's own end -/
theorem law_sp {K : PySem.W.Frag} {run : List D → Option D} {H : Hp} {a : Addr} {ns : List Int} (h : run [.scr ns] = some (.bl true)) (hS : SqL K H a (ns.map V.int)) : spD K run 1 [.ref a] H (fun v _ => v = .bl true) fun _ _ _ => False :=
  ⟨rfl, H, [.scr ns], .bl true, ⟨Same.refl H, fun _ _ e _ => e⟩, RpL.cons (by simp only [Rp]; exact ⟨a, rfl, hS⟩) RpL.nil, h, fun v H' G' x r => by simpa only [Rp] using r⟩
end PD

set_option Elab.async false
set_option linter.all false
set_option maxRecDepth 100000
namespace PD
open PySem L2

/-! ### how the combinators run: one statement at a time -/
section
variable {a b c : Cmd} {env e e1 : List Sl} {o : Option Out} {d : D} {f : Fe} {t : Fb} {i : Nat}
theorem seq_nx (h : a env = some (.nx e)) (h2 : b e = o) : sSeq a b env = o := by
  unfold sSeq
  rw [h]
  exact h2
theorem seq_rt (h : a env = some (.rt d)) : sSeq a b env = some (.rt d) := by
  unfold sSeq
  rw [h]
theorem seq_set (h : f env = some d) (h2 : b (env.set i (.val d)) = o) : sSeq (sSet i f) b env = o := seq_nx (by unfold sSet; rw [h]; rfl) h2
theorem seq_setO {fl : Fl} {ds : List D} (h : fl env = some ds) (h2 : b (env.set i (.own ds)) = o) : sSeq (sSetO i fl) b env = o := seq_nx (by unfold sSetO; rw [h]; rfl) h2
theorem run_set (h : f env = some d) : sSet i f env = some (.nx (env.set i (.val d))) := by
  unfold sSet
  rw [h]
  rfl
theorem run_if1 (h : t env = some true) (h2 : a env = o) : sIf t a b env = o := by
  unfold sIf
  rw [h]
  exact h2
theorem run_if0 (h : t env = some false) (h2 : b env = o) : sIf t a b env = o := by
  unfold sIf
  rw [h]
  exact h2
theorem run_ret (h : f env = some d) : sRet f env = some (.rt d) := by
  unfold sRet
  rw [h]
  rfl
/-- if c: (else nothing): not taken -/
theorem seq_if0 (h : t env = some false) (h2 : b env = o) : sSeq (sIf t a sNop) b env = o := seq_nx (run_if0 h rfl) h2
theorem seq_if1 (h : t env = some true) (h2 : a env = some (.nx e)) (h3 : b e = o) : sSeq (sIf t a c) b env = o := seq_nx (run_if1 h h2) h3
theorem seq_if1r (h : t env = some true) (h2 : a env = some (.rt d)) : sSeq (sIf t a c) b env = some (.rt d) := seq_rt (run_if1 h h2)
theorem seq_ifE (h : t env = some false) (h2 : c env = some (.nx e)) (h3 : b e = o) : sSeq (sIf t a c) b env = o := seq_nx (run_if0 h h2) h3
theorem seq_par {j : Nat} {s1 s2 : Fn} {x y : Sl} (h1 : s1 env = some x) (h2 : s2 env = some y) (h3 : b ((env.set i x).set j y) = o) : sSeq (sParN i j s1 s2) b env = o := seq_nx (by unfold sParN; rw [h1, h2]; rfl) h3
theorem seq_par3 {j l : Nat} {s1 s2 s3 : Fn} {x y z : Sl} (h1 : s1 env = some x) (h2 : s2 env = some y) (h3 : s3 env = some z) (h4 : b (((env.set i x).set j y).set l z) = o) : sSeq (sPar3N i j l s1 s2 s3) b env = o := seq_nx (by unfold sPar3N; rw [h1, h2, h3]; rfl) h4
theorem seq_asg {g : Ft} (h1 : f env = some d) (h2 : g d env = some e) (h3 : b e = o) : sSeq (sAsg g f) b env = o := seq_nx (by unfold sAsg; rw [h1]; show (g d env).map Out.nx = _; rw [h2]; rfl) h3
theorem run_frz {is : List Nat} (h : a (frzL is env) = o) : sFrz is a env = o := h
theorem seq_frz {is : List Nat} (h : a (frzL is env) = some (.nx e)) (h2 : b e = o) : sSeq (sFrz is a) b env = o := seq_nx h h2
theorem seq_app {ds : List D} (h : f env = some d) (h1 : env[i]? = some (.own ds)) (hz : ds.length < 16777216) (h2 : b (env.set i (.own (ds ++ [d]))) = o) : sSeq (sApp i f) b env = o := seq_nx (by
  unfold sApp
  rw [h]
  show (match env[i]? with
    | some (.own ds) => if lim (ds.length + 1) then some (Out.nx (env.set i (.own (ds ++ [d])))) else none
    | _ => none) = _
  rw [h1]
  simp only [lim, decide_eq_true (show ds.length + 1 ≤ 16777216 by omega), if_true]) h2
theorem run_app {ds : List D} (h : f env = some d) (h1 : env[i]? = some (.own ds)) (hz : ds.length < 16777216) : sApp i f env = some (.nx (env.set i (.own (ds ++ [d])))) := by
  unfold sApp
  rw [h]
  show (match env[i]? with
    | some (.own ds) => if lim (ds.length + 1) then some (Out.nx (env.set i (.own (ds ++ [d])))) else none
    | _ => none) = _
  rw [h1]
  simp only [lim, decide_eq_true (show ds.length + 1 ≤ 16777216 by omega), if_true]
theorem run_par {j : Nat} {s1 s2 : Fn} {x y : Sl} (h1 : s1 env = some x) (h2 : s2 env = some y) : sParN i j s1 s2 env = some (.nx ((env.set i x).set j y)) := by
  unfold sParN
  rw [h1, h2]
  rfl
theorem runC_rt {n k : Nat} {ds : List D} (hl : ds.length = n) (h : c (ds.map .val ++ List.replicate k .un) = some (.rt d)) : runC n k c ds = some d := by
  unfold runC
  rw [if_pos hl, h]
theorem runC_nx {n k : Nat} {ds : List D} (hl : ds.length = n) (h : c (ds.map .val ++ List.replicate k .un) = some (.nx e)) : runC n k c ds = some .non := by
  unfold runC
  rw [if_pos hl, h]
/-- a for loop: the state behind each turn -/
theorem forL_inv {α : Type} {g : Ft} {enc : α → D} (st : List α → List Sl) (xs : List α) : ∀ (ys zs : List α), xs = ys ++ zs → (∀ (ys : List α) (x : α) (zs : List α), xs = ys ++ x :: zs → ∃ e, g (enc x) (st ys) = some e ∧ (a e = some (.nx (st (ys ++ [x]))) ∨ a e = some (.ct (st (ys ++ [x]))))) → forL g a (zs.map enc) (st ys) = some (.nx (st xs))
  | ys, [], hx, h => by
    rw [List.append_nil] at hx
    subst hx
    rfl
  | ys, z :: zs, hx, h => by
    obtain ⟨e, h1, h2⟩ := h ys z zs hx
    show (g (enc z) (st ys)).bind _ = _
    rw [h1]
    have ih := forL_inv (g := g) st xs (ys ++ [z]) zs (by rw [hx, List.append_assoc]; rfl) h
    show (match a e with
      | some (.nx e) => forL g a (zs.map enc) e
      | some (.ct e) => forL g a (zs.map enc) e
      | some (.bk e) => some (.nx e)
      | some (.rt d) => some (.rt d)
      | none => none) = _
    rcases h2 with h2 | h2 <;> rw [h2] <;> exact ih
theorem seq_for {α : Type} {g : Ft} {it : Fl} {enc : α → D} {xs : List α} (st : List α → List Sl) (h0 : it env = some (xs.map enc)) (hs : st [] = env) (h1 : ∀ (ys : List α) (x : α) (zs : List α), xs = ys ++ x :: zs → ∃ e, g (enc x) (st ys) = some e ∧ (a e = some (.nx (st (ys ++ [x]))) ∨ a e = some (.ct (st (ys ++ [x]))))) (h2 : b (st xs) = o) : sSeq (sFor it g a) b env = o := seq_nx (by
  unfold sFor
  rw [h0]
  show forL g a (xs.map enc) env = _
  rw [← hs]
  exact forL_inv st xs [] xs rfl h1) h2
end

/-! ### expressions -/
section
variable {env : List Sl} {fa fb f : Fe} {fl : Fl} {d x y : D} {i j : Nat}
@[simp] theorem ev_c : eC d env = some d := rfl
@[simp] theorem ev_op {g : D → D → Option D} : eOp g fa fb env = (fa env).bind fun x => (fb env).bind fun y => g x y := rfl
@[simp] theorem ev_call {g : List D → Option D} : eCall g fl env = (fl env).bind g := rfl
@[simp] theorem ev_fn {g : List D → Option D} : eFn g fl env = (fl env).bind g := rfl
@[simp] theorem ev_cons : aCons f fl env = (f env).bind fun d => (fl env).bind fun ds => some (d :: ds) := rfl
@[simp] theorem ev_nil : aNil env = some [] := rfl
@[simp] theorem ev_asL : asL fl env = (fl env).map .lst := rfl
@[simp] theorem ev_fcall {g : List D → Option (List D)} : fCall g fl env = (fl env).bind g := rfl
@[simp] theorem ev_tYes : tYesF env = some true := rfl
@[simp] theorem ev_isi {T : String} : eIsi T f env = (f env).bind fun d => some (.bl (isiD T d)) := rfl
@[simp] theorem ev_un {g : D → Option D} : eUn g f env = (f env).bind g := rfl
@[simp] theorem ev_iseq : iSeq f env = (f env).bind itemsD := rfl
@[simp] theorem ev_vN : vN f env = (f env).map .val := rfl
@[simp] theorem ev_oN : oN fl env = (fl env).map .own := rfl
@[simp] theorem ev_asT : asT f env = (f env).bind truD := rfl
@[simp] theorem ev_and {f g : Fb} : tAndF f g env = (f env).bind fun k => if k then g env else some false := rfl
@[simp] theorem ev_or {f g : Fb} : tOrF f g env = (f env).bind fun k => if k then some true else g env := rfl
@[simp] theorem ev_not {f : Fb} : tNotF f env = (f env).bind fun k => some (!k) := rfl
@[simp] theorem ev_eif {c : Fb} : eIf c fa fb env = (c env).bind fun k => if k then fa env else fb env := rfl
def blD : D → Option Bool
  | .bl b => some b
  | _ => none
@[simp] theorem blD_bl {k : Bool} : blD (.bl k) = some k := rfl
@[simp] theorem ev_asB : asB f env = (f env).bind blD := by
  unfold asB
  cases f env with
  | none => rfl
  | some d => cases d <;> rfl
@[simp] theorem ev_eand : eAnd fa fb env = (fa env).bind fun x => (blD x).bind fun k => if k then fb env else some (.bl false) := by
  unfold eAnd
  cases fa env with
  | none => rfl
  | some d => cases d with
    | bl k => cases k <;> rfl
    | _ => rfl
@[simp] theorem ev_eor : eOr fa fb env = (fa env).bind fun x => (blD x).bind fun k => if k then some (.bl true) else fb env := by
  unfold eOr
  cases fa env with
  | none => rfl
  | some d => cases d with
    | bl k => cases k <;> rfl
    | _ => rfl
@[simp] theorem ev_enot : eNot fa env = (fa env).bind fun x => (blD x).bind fun k => some (.bl !k) := by
  unfold eNot
  cases fa env with
  | none => rfl
  | some d => cases d <;> rfl
def slV : Sl → Option D
  | .val d => some d
  | _ => none
def slB : Sl → Option D
  | .val d => some d
  | .own ds => some (.lst ds)
  | .ownD ds => some (.dic ds)
  | _ => none
@[simp] theorem slV_val : slV (.val d) = some d := rfl
@[simp] theorem slB_val : slB (.val d) = some d := rfl
@[simp] theorem slB_own {ds : List D} : slB (.own ds) = some (.lst ds) := rfl
@[simp] theorem slB_ownD {ds : List (D × D)} : slB (.ownD ds) = some (.dic ds) := rfl
@[simp] theorem ev_var : eVar i env = env[i]?.bind slV := by
  unfold eVar
  cases env[i]? with
  | none => rfl
  | some s => cases s <;> rfl
@[simp] theorem ev_bvar : bVar i env = env[i]?.bind slB := by
  unfold bVar
  cases env[i]? with
  | none => rfl
  | some s => cases s <;> rfl
@[simp] theorem frz_nil : frzL [] env = env := rfl
@[simp] theorem frz_cons {is : List Nat} : frzL (i :: is) env = frzL is (frz1 i env) := rfl
theorem frz_own {ds : List D} (h : env[i]? = some (.own ds)) : frz1 i env = env.set i (.val (.lst ds)) := by
  unfold frz1
  rw [h]
theorem frz_val {d : D} (h : env[i]? = some (.val d)) : frz1 i env = env := by
  unfold frz1
  rw [h]

/-! ### operations -/
@[simp] theorem gAdd_i {i j : Int} : gAdd (.int i) (.int j) = some (.int (i + j)) := rfl
@[simp] theorem gSub_i {i j : Int} : gSub (.int i) (.int j) = some (.int (i - j)) := rfl
theorem gMul_i {i j : Int} (h : mulOk i j = true) : gMul (.int i) (.int j) = some (.int (i * j)) := by
  show (if mulOk i j = true then some (D.int (i * j)) else none) = _
  rw [if_pos h]
theorem mulOk_l {i j : Int} (h1 : -18446744073709551616 < i) (h2 : i < 18446744073709551616) : mulOk i j = true := by
  unfold mulOk
  rw [decide_eq_true h1, decide_eq_true h2]
  rfl
theorem mulOk_r {i j : Int} (h1 : -18446744073709551616 < j) (h2 : j < 18446744073709551616) : mulOk i j = true := by
  unfold mulOk
  rw [decide_eq_true h1, decide_eq_true h2]
  simp
theorem gMod_i {i j : Int} (h : 0 < j) : gMod (.int i) (.int j) = some (.int (i % j)) := by
  unfold gMod gI
  simp only [decide_eq_true h, if_true]
theorem gDiv_i {i j : Int} (h : 0 < j) (h2 : j < 1073741824) : gDiv (.int i) (.int j) = some (.int (i / j)) := by
  unfold gDiv gI
  simp only [decide_eq_true h, decide_eq_true h2, Bool.and_self, if_true]
@[simp] theorem gLt_i {i j : Int} : gLt (.int i) (.int j) = some (.bl (decide (i < j))) := rfl
@[simp] theorem gLe_i {i j : Int} : gLe (.int i) (.int j) = some (.bl (decide (i ≤ j))) := rfl
@[simp] theorem gGt_i {i j : Int} : gGt (.int i) (.int j) = some (.bl (decide (j < i))) := rfl
@[simp] theorem gGe_i {i j : Int} : gGe (.int i) (.int j) = some (.bl (decide (j ≤ i))) := rfl
@[simp] theorem gEq_i {i j : Int} : gEq (.int i) (.int j) = some (.bl (decide (i = j))) := by
  have h : (i == j) = decide (i = j) := by
    by_cases e : i = j
    · simp [e]
    · simp [e]
  simp [gEq, okN, eqD, py, PyData.eqv, h]
@[simp] theorem gNe_i {i j : Int} : gNe (.int i) (.int j) = some (.bl (!decide (i = j))) := by
  have h : (i == j) = decide (i = j) := by
    by_cases e : i = j
    · simp [e]
    · simp [e]
  simp [gNe, okN, eqD, py, PyData.eqv, h]
@[simp] theorem gEq_b {i j : Bool} : gEq (.bl i) (.bl j) = some (.bl (i == j)) := by
  simp [gEq, okN, eqD, py, PyData.eqv]
@[simp] theorem gNe_b {i j : Bool} : gNe (.bl i) (.bl j) = some (.bl (!(i == j))) := by
  simp [gNe, okN, eqD, py, PyData.eqv]
@[simp] theorem gInt_i {i : Int} : gInt [.int i] = some (.int i) := rfl
@[simp] theorem gInt_b {b : Bool} : gInt [.bl b] = some (.int (if b then 1 else 0)) := rfl
@[simp] theorem gLen_l {xs : List D} : gLen [.lst xs] = some (.int xs.length) := rfl
@[simp] theorem gLen_t {xs : List D} : gLen [.tup xs] = some (.int xs.length) := rfl
@[simp] theorem gLen_s {ns : List Int} : gLen [.scr ns] = some (.int ns.length) := rfl
@[simp] theorem gTuple_l {xs : List D} : gTuple [.lst xs] = some (.tup xs) := rfl
@[simp] theorem gTuple_t {xs : List D} : gTuple [.tup xs] = some (.tup xs) := rfl
@[simp] theorem gNeg_i {i : Int} : gNeg (.int i) = some (.int (-i)) := rfl
@[simp] theorem itemsD_l {xs : List D} : itemsD (.lst xs) = some xs := rfl
@[simp] theorem itemsD_t {xs : List D} : itemsD (.tup xs) = some xs := rfl
@[simp] theorem gSum_l {ns : List Int} : gSum [.lst (ns.map D.int)] = some (.int ns.sum) := by
  unfold gSum
  simp only [intsOf_map, Option.map_some]
@[simp] theorem gSum_t {ns : List Int} : gSum [.tup (ns.map D.int)] = some (.int ns.sum) := by
  unfold gSum
  simp only [intsOf_map, Option.map_some]
@[simp] theorem gAll_l {ns : List Bool} : gAll [.lst (ns.map D.bl)] = some (.bl (ns.all id)) := by
  unfold gAll
  simp only [blsOf_map, Option.map_some]
@[simp] theorem gAny_l {ns : List Bool} : gAny [.lst (ns.map D.bl)] = some (.bl (ns.any id)) := by
  unfold gAny
  simp only [blsOf_map, Option.map_some]
@[simp] theorem gAbs_i {i : Int} : gAbs [.int i] = some (.int (if i < 0 then -i else i)) := by
  unfold gAbs
  first | rfl | (split <;> simp_all; done) | (congr 1; congr 1; omega)
/-- xs[i] -/
theorem atI_in {α : Type} {xs : List α} {i : Int} (h0 : 0 ≤ i) (h1 : i < xs.length) : atI xs i = xs[i.toNat]? := by
  unfold atI ixN
  rw [if_pos h0, if_pos h1]
  rfl
theorem gIx_l {xs : List D} {i : Int} (h0 : 0 ≤ i) (h1 : i < xs.length) : gIx (.lst xs) (.int i) = xs[i.toNat]? := atI_in h0 h1
theorem gIx_t {xs : List D} {i : Int} (h0 : 0 ≤ i) (h1 : i < xs.length) : gIx (.tup xs) (.int i) = xs[i.toNat]? := atI_in h0 h1
theorem gIx_li {ns : List Int} {i : Int} (h0 : 0 ≤ i) (h1 : i < ns.length) : gIx (.lst (ns.map D.int)) (.int i) = some (.int (ns.getD i.toNat 0)) := by
  rw [gIx_l h0 (by rw [List.length_map]; exact h1), List.getElem?_map]
  have h : i.toNat < ns.length := by omega
  rw [List.getElem?_eq_getElem h]
  simp [List.getD, List.getElem?_eq_getElem h]
theorem gIx_ti {ns : List Int} {i : Int} (h0 : 0 ≤ i) (h1 : i < ns.length) : gIx (.tup (ns.map D.int)) (.int i) = some (.int (ns.getD i.toNat 0)) := by
  rw [gIx_t h0 (by rw [List.length_map]; exact h1), List.getElem?_map]
  have h : i.toNat < ns.length := by omega
  rw [List.getElem?_eq_getElem h]
  simp [List.getD, List.getElem?_eq_getElem h]
theorem gIx_s {ns : List Int} {i : Int} (h0 : 0 ≤ i) (h1 : i < ns.length) : gIx (.scr ns) (.int i) = some (.int (ns.getD i.toNat 0)) := by
  show (atI ns i).map D.int = _
  rw [atI_in h0 h1]
  have h : i.toNat < ns.length := by omega
  rw [List.getElem?_eq_getElem h]
  simp [List.getD, List.getElem?_eq_getElem h]

/-! ### comprehensions -/
theorem compL_filter {α : Type} {t : Ft} {c : Fb} {y : Fe} {enc g : α → D} {p : α → Bool} : ∀ xs : List α, (∀ x ∈ xs, ∃ e, t (enc x) env = some e ∧ c e = some (p x) ∧ (p x = true → y e = some (g x))) → compL t c y env (xs.map enc) = some ((xs.filter p).map g)
  | [], _ => rfl
  | x :: xs, h => by
    obtain ⟨e, h1, h2, h3⟩ := h x List.mem_cons_self
    have ih := compL_filter xs fun y hy => h y (List.mem_cons_of_mem _ hy)
    show (t (enc x) env).bind _ = _
    rw [h1]
    show (c e).bind _ = _
    rw [h2]
    show (if p x = true then (y e).bind fun d => (compL t c y env (xs.map enc)).map (d :: ·) else compL t c y env (xs.map enc)) = _
    rw [ih]
    cases hp : p x with
    | true =>
      rw [if_pos rfl, h3 hp, List.filter_cons_of_pos hp]
      rfl
    | false => rw [if_neg Bool.false_ne_true, List.filter_cons_of_neg (by simp [hp])]
theorem compL_map {α : Type} {t : Ft} {c : Fb} {y : Fe} {enc g : α → D} (xs : List α) (h : ∀ x ∈ xs, ∃ e, t (enc x) env = some e ∧ c e = some true ∧ y e = some (g x)) : compL t c y env (xs.map enc) = some (xs.map g) := by
  have := compL_filter (t := t) (c := c) (y := y) (env := env) (enc := enc) (g := g) (p := fun _ => true) xs fun x hx => by
    obtain ⟨e, h1, h2, h3⟩ := h x hx
    exact ⟨e, h1, h2, fun _ => h3⟩
  rw [this, List.filter_eq_self.mpr (fun _ _ => rfl)]
theorem fLc_map {α : Type} {own : List Nat} {it : Fl} {t : Ft} {c : Fb} {y : Fe} {enc g : α → D} {xs : List α} (h0 : it env = some (xs.map enc)) (hz : xs.length ≤ 16777216) (h : ∀ x ∈ xs, ∃ e, t (enc x) (wipeE env own) = some e ∧ c e = some true ∧ y e = some (g x)) : fLc own it t c y env = some (xs.map g) := by
  unfold fLc
  rw [h0]
  show (if lim (xs.map enc).length = true then _ else _) = _
  rw [if_pos (by rw [List.length_map]; exact decide_eq_true hz)]
  exact compL_map xs h
theorem fLc_filter {α : Type} {own : List Nat} {it : Fl} {t : Ft} {c : Fb} {y : Fe} {enc g : α → D} {p : α → Bool} {xs : List α} (h0 : it env = some (xs.map enc)) (hz : xs.length ≤ 16777216) (h : ∀ x ∈ xs, ∃ e, t (enc x) (wipeE env own) = some e ∧ c e = some (p x) ∧ (p x = true → y e = some (g x))) : fLc own it t c y env = some ((xs.filter p).map g) := by
  unfold fLc
  rw [h0]
  show (if lim (xs.map enc).length = true then _ else _) = _
  rw [if_pos (by rw [List.length_map]; exact decide_eq_true hz)]
  exact compL_filter xs h
/-- a range as a list of ints -/
def rngN (n : Nat) : List Int := (List.range n).map fun k : Nat => (k : Int)
theorem rngL_map (n : Nat) : rngL 0 n = (rngN n).map D.int := by
  unfold rngL rngN
  rw [List.map_map]
  apply List.map_congr_left
  intro k _
  simp
theorem rngN_len (n : Nat) : (rngN n).length = n := by simp [rngN]
theorem mem_rngN {n : Nat} {x : Int} (h : x ∈ rngN n) : 0 ≤ x ∧ x < n := by
  unfold rngN at h
  obtain ⟨k, hk, rfl⟩ := List.mem_map.mp h
  have := List.mem_range.mp hk
  omega
theorem ev_rg1 {j : Int} (h : fl env = some [.int j]) (h0 : -1000000000 ≤ j) (h1 : j ≤ 1000000000) : iRg1 fl env = some ((rngN j.toNat).map D.int) := by
  unfold iRg1
  rw [h]
  show (if rngOk j = true then _ else _) = _
  rw [if_pos (by unfold rngOk; rw [decide_eq_true h0, decide_eq_true h1]; rfl), rngL_map]
@[simp] theorem ev_gNm : gNm i d env = some (env.set i (.val d)) := rfl
@[simp] theorem ev_gTp {g : Fts} {xs : List D} : gTp g (.tup xs) env = g xs env := rfl
@[simp] theorem ev_gTl {g : Fts} {xs : List D} : gTl g (.lst xs) env = g xs env := rfl
@[simp] theorem ev_gsNil : gsNil [] env = some env := rfl
@[simp] theorem ev_gsCons {f : Ft} {g : Fts} {xs : List D} : gsCons f g (d :: xs) env = (f d env).bind fun e => g xs e := rfl
@[simp] theorem wipe_nil : wipeE env [] = env := rfl
@[simp] theorem wipe_cons {v : Nat} {vs : List Nat} : wipeE env (v :: vs) = (wipeE env vs).set v .un := rfl
end
end PD

set_option Elab.async false
set_option linter.all false
set_option maxRecDepth 100000
namespace PD
open PySem L2
/-! ### the helpers that every law has -/
def b_l_mixed : Cmd :=
    (sSeq (sSet 2 (eC (.int 0)))
    (sSeq (sIf (asB (eOp gGt (eCall gLen (aCons (bVar 0) aNil)) (eC (.int 0))))
    (sSet 2 (eOp gIx (bVar 0) (eOp gMod (bVar 1) (eCall gLen (aCons (bVar 0) aNil)))))
    sNop)
    (sSeq (sSet 3 (eOp gMod (eCall gInt (aCons (eOp gAdd (eOp gAdd (eOp gMul (bVar 2) (eC (.int 48271))) (eOp gMul (bVar 1) (eC (.int 69621)))) (eC (.int 8191))) aNil)) (eC (.int 2147483647))))
    (sSeq (sSet 4 (eOp gMod (eCall gInt (aCons (eOp gAdd (eOp gAdd (eOp gMul (bVar 3) (bVar 3)) (eOp gDiv (bVar 3) (eC (.int 7)))) (eOp gMul (bVar 1) (eC (.int 16807)))) aNil)) (eC (.int 2147483629))))
    (sSeq (sSet 5 (eOp gMod (eCall gInt (aCons (eOp gAdd (eOp gAdd (eOp gMul (bVar 4) (bVar 4)) (eOp gDiv (bVar 4) (eC (.int 11)))) (eC (.int 40692))) aNil)) (eC (.int 2147483563))))
    (sRet (eOp gMod (eOp gDiv (bVar 5) (eC (.int 5))) (eC (.int 1000003)))))))))
def run_l_mixed : List D → Option D := runC 2 4 b_l_mixed
def b_l_row : Cmd :=
    (sSeq (sSet 2 (eC (.int 0)))
    (sSeq (sIf (tAndF (asB (eOp gGt (eCall gLen (aCons (bVar 0) aNil)) (eC (.int 0)))) (asB (eOp gGe (eOp gIx (bVar 0) (eC (.int 0))) (eOp gPow (eC (.int 10)) (eC (.int 18))))))
    (sSet 2 (eOp gIx (bVar 0) (eC (.int 0))))
    sNop)
    (sSeq (sSetO 3 (fun env => (aNil env).bind fun ds => if lim ds.length then some ds else none))
    (sSeq (sFor (iRg1 (aCons (bVar 1) aNil)) (gNm 4)
    (sIf (asB (eOp gGt (bVar 2) (eC (.int 0))))
    (sSeq (sApp 3 (eOp gMod (eCall gInt (aCons (bVar 2) aNil)) (eC (.int 1000))))
    (sSet 2 (eOp gDiv (bVar 2) (eC (.int 1000)))))
    (sApp 3 (eFn run_l_mixed (aCons (eVar 0) (aCons (eVar 4) aNil))))))
    (sFrz [3] (sRet (eVar 3)))))))
def run_l_row : List D → Option D := runC 2 3 b_l_row
def b_l_is_int : Cmd :=
    (sRet (eAnd (eIsi "int" (bVar 0)) (eNot (eIsi "bool" (bVar 0)))))
def run_l_is_int : List D → Option D := runC 1 0 b_l_is_int
def b_l_like (rec : List D → Option D) : Cmd :=
    (sSeq (sIf (asB (eOp gIs (bVar 1) (eC .non)))
    (sRet (eOp gIs (bVar 0) (eC .non)))
    sNop)
    (sSeq (sIf (asT (eIsi "bool" (bVar 1)))
    (sRet (eAnd (eIsi "bool" (bVar 0)) (eOp gEq (bVar 0) (bVar 1))))
    sNop)
    (sSeq (sIf (asT (eIsi "tuple" (bVar 1)))
    (sSeq (sIf (tOrF (tNotF (asT (eIsi "tuple" (bVar 0)))) (asB (eOp gNe (eCall gLen (aCons (bVar 0) aNil)) (eCall gLen (aCons (bVar 1) aNil)))))
    (sRet (eC (.bl false)))
    sNop)
    (sRet (eCall gAll (aCons (asL (fLc [2] (iRg1 (aCons (eCall gLen (aCons (bVar 1) aNil)) aNil)) (gNm 2) tYesF (eFn rec (aCons (eOp gIx (bVar 0) (bVar 2)) (aCons (eOp gIx (bVar 1) (bVar 2)) aNil))))) aNil))))
    sNop)
    (sSeq (sIf (asT (eIsi "str" (bVar 1)))
    (sRet (eAnd (eIsi "str" (bVar 0)) (eOp gEq (bVar 0) (bVar 1))))
    sNop)
    (sRet (eAnd (eFn run_l_is_int (aCons (eVar 0) aNil)) (eOp gEq (bVar 0) (bVar 1))))))))
def run_l_like : Nat → List D → Option D
  | 0 => fun _ => none
  | fuel + 1 => runC 2 1 (b_l_like (run_l_like fuel))
theorem mod_lt {a b : Int} (h : 0 < b) : 0 ≤ a % b ∧ a % b < b := ⟨Int.emod_nonneg a (by omega), Int.emod_lt_of_pos a h⟩
theorem run_mixed (ns : List Int) (k : Int) (h0 : 0 ≤ k) : ∃ x : Int, run_l_mixed [.scr ns, .int k] = some (.int x) ∧ 0 ≤ x ∧ x < 1000003 := by
  have fin : ∀ cell : Int, ∃ x : Int, 0 ≤ x ∧ x < 1000003 ∧ ∀ e : List Sl, e.length = 6 → e[1]? = some (.val (.int k)) → e[2]? = some (.val (.int cell)) →
      (sSeq (sSet 3 (eOp gMod (eCall gInt (aCons (eOp gAdd (eOp gAdd (eOp gMul (bVar 2) (eC (.int 48271))) (eOp gMul (bVar 1) (eC (.int 69621)))) (eC (.int 8191))) aNil)) (eC (.int 2147483647))))
    (sSeq (sSet 4 (eOp gMod (eCall gInt (aCons (eOp gAdd (eOp gAdd (eOp gMul (bVar 3) (bVar 3)) (eOp gDiv (bVar 3) (eC (.int 7)))) (eOp gMul (bVar 1) (eC (.int 16807)))) aNil)) (eC (.int 2147483629))))
    (sSeq (sSet 5 (eOp gMod (eCall gInt (aCons (eOp gAdd (eOp gAdd (eOp gMul (bVar 4) (bVar 4)) (eOp gDiv (bVar 4) (eC (.int 11)))) (eC (.int 40692))) aNil)) (eC (.int 2147483563))))
    (sRet (eOp gMod (eOp gDiv (bVar 5) (eC (.int 5))) (eC (.int 1000003))))))) e = some (.rt (.int x)) := by
    intro cell
    have b1 := mod_lt (a := cell * 48271 + k * 69621 + 8191) (b := 2147483647) (by omega)
    generalize e1 : (cell * 48271 + k * 69621 + 8191) % 2147483647 = x1 at b1
    have b2 := mod_lt (a := x1 * x1 + x1 / 7 + k * 16807) (b := 2147483629) (by omega)
    generalize e2 : (x1 * x1 + x1 / 7 + k * 16807) % 2147483629 = x2 at b2
    have b3 := mod_lt (a := x2 * x2 + x2 / 11 + 40692) (b := 2147483563) (by omega)
    generalize e3 : (x2 * x2 + x2 / 11 + 40692) % 2147483563 = x3 at b3
    have b4 := mod_lt (a := x3 / 5) (b := 1000003) (by omega)
    refine ⟨_, b4.1, b4.2, fun e hl h1 h2 => ?_⟩
    refine seq_set (d := .int x1) ?_ ?_
    · simp only [ev_op, ev_call, ev_cons, ev_nil, ev_c, ev_bvar, h1, h2, Option.bind_some, slB_val, gMul_i (mulOk_r (i := cell) (j := 48271) (by omega) (by omega)), gMul_i (mulOk_r (i := k) (j := 69621) (by omega) (by omega)), gAdd_i, gInt_i, gMod_i (show (0:Int) < 2147483647 by omega), e1]
    refine seq_set (d := .int x2) ?_ ?_
    · have g1 : (e.set 3 (.val (.int x1)))[1]? = some (.val (.int k)) := by rw [List.getElem?_set_ne (by omega)]; exact h1
      have g3 : (e.set 3 (.val (.int x1)))[3]? = some (.val (.int x1)) := by rw [List.getElem?_set_self (by omega)]
      simp only [ev_op, ev_call, ev_cons, ev_nil, ev_c, ev_bvar, g1, g3, Option.bind_some, slB_val, gMul_i (mulOk_r (i := x1) (j := x1) (by omega) (by omega)), gMul_i (mulOk_r (i := k) (j := 16807) (by omega) (by omega)), gDiv_i (i := x1) (show (0:Int) < 7 by omega) (by omega), gAdd_i, gInt_i, gMod_i (show (0:Int) < 2147483629 by omega), e2]
    refine seq_set (d := .int x3) ?_ ?_
    · have g4 : ((e.set 3 (.val (.int x1))).set 4 (.val (.int x2)))[4]? = some (.val (.int x2)) := by rw [List.getElem?_set_self (by simp; omega)]
      simp only [ev_op, ev_call, ev_cons, ev_nil, ev_c, ev_bvar, g4, Option.bind_some, slB_val, gMul_i (mulOk_r (i := x2) (j := x2) (by omega) (by omega)), gDiv_i (i := x2) (show (0:Int) < 11 by omega) (by omega), gAdd_i, gInt_i, gMod_i (show (0:Int) < 2147483563 by omega), e3]
    refine run_ret ?_
    have g5 : (((e.set 3 (.val (.int x1))).set 4 (.val (.int x2))).set 5 (.val (.int x3)))[5]? = some (.val (.int x3)) := by rw [List.getElem?_set_self (by simp; omega)]
    simp only [ev_op, ev_c, ev_bvar, g5, Option.bind_some, slB_val, gDiv_i (i := x3) (show (0:Int) < 5 by omega) (by omega), gMod_i (show (0:Int) < 1000003 by omega)]
  by_cases hp : 0 < ns.length
  · have hpz : (0 : Int) < (ns.length : Nat) := by omega
    have bm := mod_lt (a := k) hpz
    obtain ⟨x, hx0, hx1, hx⟩ := fin (ns.getD (k % (ns.length : Nat)).toNat 0)
    refine ⟨x, runC_rt rfl ?_, hx0, hx1⟩
    refine seq_set (d := .int 0) rfl ?_
    refine seq_if1 (e := [.val (.scr ns), .val (.int k), .val (.int (ns.getD (k % (ns.length : Nat)).toNat 0)), .un, .un, .un]) ?_ ?_ ?_
    · simp [hp]
    · refine run_set ?_
      simp [gMod_i hpz, gIx_s bm.1 bm.2]
    · exact hx _ rfl rfl rfl
  · obtain ⟨x, hx0, hx1, hx⟩ := fin 0
    refine ⟨x, runC_rt rfl ?_, hx0, hx1⟩
    refine seq_set (d := .int 0) rfl ?_
    refine seq_if0 ?_ ?_
    · have z : ns = [] := List.length_eq_zero_iff.mp (by omega)
      simp [z]
    · exact hx _ rfl rfl rfl

def rowBody : Cmd := (sIf (asB (eOp gGt (bVar 2) (eC (.int 0))))
    (sSeq (sApp 3 (eOp gMod (eCall gInt (aCons (bVar 2) aNil)) (eC (.int 1000))))
    (sSet 2 (eOp gDiv (bVar 2) (eC (.int 1000)))))
    (sApp 3 (eFn run_l_mixed (aCons (eVar 0) (aCons (eVar 4) aNil)))))
theorem row_loop (ns : List Int) (m : D) : ∀ (zs : List Int) (acc : List Int) (big : Int) (k0 : Sl), (∀ z ∈ zs, 0 ≤ z) → 0 ≤ big → acc.length + zs.length ≤ 1000000 → (∀ x ∈ acc, 0 ≤ x ∧ x < 1000003) →
    ∃ (acc' : List Int) (big' : Int) (k1 : Sl), forL (gNm 4) rowBody (zs.map D.int) [.val (.scr ns), .val m, .val (.int big), .own (acc.map D.int), k0] = some (.nx [.val (.scr ns), .val m, .val (.int big'), .own (acc'.map D.int), k1]) ∧ acc'.length = acc.length + zs.length ∧ ∀ x ∈ acc', 0 ≤ x ∧ x < 1000003
  | [], acc, big, k0, _, _, _, ha => ⟨acc, big, k0, rfl, rfl, ha⟩
  | z :: zs, acc, big, k0, hz, hb, hl, ha => by
    rw [List.length_cons] at hl
    have hz0 := hz z List.mem_cons_self
    by_cases hp : 0 < big
    · have bm := mod_lt (a := big) (b := 1000) (by omega)
      have hb' : 0 ≤ big / 1000 := Int.ediv_nonneg hb (by omega)
      obtain ⟨acc', big', k1, h1, h2, h3⟩ := row_loop ns m zs (acc ++ [big % 1000]) (big / 1000) (.val (.int z)) (fun y hy => hz y (List.mem_cons_of_mem _ hy)) hb' (by simp; omega) (fun x hx => by
        rcases List.mem_append.mp hx with h | h
        · exact ha x h
        · rw [List.mem_singleton.mp h]
          omega)
      refine ⟨acc', big', k1, ?_, by rw [h2]; simp; omega, h3⟩
      show ((gNm 4 (.int z) _).bind _) = _
      rw [ev_gNm]
      show (match rowBody [.val (.scr ns), .val m, .val (.int big), .own (acc.map D.int), .val (.int z)] with
        | some (.nx e) => forL (gNm 4) rowBody (zs.map D.int) e
        | some (.ct e) => forL (gNm 4) rowBody (zs.map D.int) e
        | some (.bk e) => some (.nx e)
        | some (.rt d) => some (.rt d)
        | none => none) = _
      have hbd : rowBody [.val (.scr ns), .val m, .val (.int big), .own (acc.map D.int), .val (.int z)] = some (.nx [.val (.scr ns), .val m, .val (.int (big / 1000)), .own ((acc ++ [big % 1000]).map D.int), .val (.int z)]) := by
        refine run_if1 (by simp [hp]) ?_
        refine seq_app (d := .int (big % 1000)) (ds := acc.map D.int) (by simp [gMod_i (i := big) (show (0:Int) < 1000 by omega)]) rfl (by simp; omega) ?_
        rw [List.map_append]
        exact run_set (d := .int (big / 1000)) (by simp [gDiv_i (i := big) (show (0:Int) < 1000 by omega) (by omega)])
      rw [hbd]
      exact h1
    · obtain ⟨x, hx, hx0, hx1⟩ := run_mixed ns z hz0
      obtain ⟨acc', big', k1, h1, h2, h3⟩ := row_loop ns m zs (acc ++ [x]) big (.val (.int z)) (fun y hy => hz y (List.mem_cons_of_mem _ hy)) hb (by simp; omega) (fun y hy => by
        rcases List.mem_append.mp hy with h | h
        · exact ha y h
        · rw [List.mem_singleton.mp h]
          omega)
      refine ⟨acc', big', k1, ?_, by rw [h2]; simp; omega, h3⟩
      show (match rowBody [.val (.scr ns), .val m, .val (.int big), .own (acc.map D.int), .val (.int z)] with
        | some (.nx e) => forL (gNm 4) rowBody (zs.map D.int) e
        | some (.ct e) => forL (gNm 4) rowBody (zs.map D.int) e
        | some (.bk e) => some (.nx e)
        | some (.rt d) => some (.rt d)
        | none => none) = _
      have hbd : rowBody [.val (.scr ns), .val m, .val (.int big), .own (acc.map D.int), .val (.int z)] = some (.nx [.val (.scr ns), .val m, .val (.int big), .own ((acc ++ [x]).map D.int), .val (.int z)]) := by
        refine run_if0 (by simp; omega) ?_
        rw [List.map_append]
        exact run_app (d := .int x) (by simp [hx]) rfl (by simp; omega)
      rw [hbd]
      exact h1
/-- the numbers that a law draws -/
theorem run_row (ns : List Int) (many : Nat) (hm : many ≤ 1000000) : ∃ row : List Int, run_l_row [.scr ns, .int many] = some (.lst (row.map D.int)) ∧ row.length = many ∧ ∀ x ∈ row, 0 ≤ x ∧ x < 1000003 := by
  have fin : ∀ big : Int, 0 ≤ big → ∃ row : List Int, row.length = many ∧ (∀ x ∈ row, 0 ≤ x ∧ x < 1000003) ∧
      (sSeq (sSetO 3 (fun env => (aNil env).bind fun ds => if lim ds.length then some ds else none))
    (sSeq (sFor (iRg1 (aCons (bVar 1) aNil)) (gNm 4) rowBody)
    (sFrz [3] (sRet (eVar 3))))) [.val (.scr ns), .val (.int many), .val (.int big), .un, .un] = some (.rt (.lst (row.map D.int))) := by
    intro big hb
    obtain ⟨row, big', k1, h1, h2, h3⟩ := row_loop ns (.int many) (rngN many) [] big .un (fun z hz => (mem_rngN hz).1) hb (by rw [rngN_len]; simpa using hm) (fun x hx => nomatch hx)
    refine ⟨row, by rw [h2, rngN_len]; simp, h3, ?_⟩
    refine seq_setO (ds := []) rfl ?_
    refine seq_nx (e := [.val (.scr ns), .val (.int many), .val (.int big'), .own (row.map D.int), k1]) ?_ ?_
    · unfold sFor
      have hr := ev_rg1 (fl := aCons (bVar 1) aNil) (env := [.val (.scr ns), .val (.int many), .val (.int big), .own [], .un]) (j := many) rfl (by omega) (by omega)
      show (iRg1 (aCons (bVar 1) aNil) [.val (.scr ns), .val (.int many), .val (.int big), .own [], .un]).bind _ = _
      rw [hr, Int.toNat_natCast]
      exact h1
    · refine run_frz ?_
      rw [frz_cons, frz_own (ds := row.map D.int) rfl]
      exact run_ret rfl
  have key : ∃ big : Int, 0 ≤ big ∧ ∀ o, (sSeq (sSetO 3 (fun env => (aNil env).bind fun ds => if lim ds.length then some ds else none))
    (sSeq (sFor (iRg1 (aCons (bVar 1) aNil)) (gNm 4) rowBody)
    (sFrz [3] (sRet (eVar 3))))) [.val (.scr ns), .val (.int many), .val (.int big), .un, .un] = o → b_l_row [.val (.scr ns), .val (.int many), .un, .un, .un] = o := by
    have p10 : gPow (.int 10) (.int 18) = some (.int 1000000000000000000) := rfl
    by_cases hp : 0 < ns.length
    · have hx := gIx_s (ns := ns) (i := 0) (by omega) (by omega)
      by_cases hq : 1000000000000000000 ≤ ns.getD 0 0
      · refine ⟨ns.getD 0 0, by omega, fun o h => ?_⟩
        refine seq_set (d := .int 0) rfl ?_
        refine seq_if1 (e := [.val (.scr ns), .val (.int many), .val (.int (ns.getD 0 0)), .un, .un]) ?_ (run_set hx) h
        simp only [ev_and, ev_asB, ev_op, ev_call, ev_cons, ev_nil, ev_c, ev_bvar, List.set_cons_succ, List.set_cons_zero, List.getElem?_cons_zero, Option.bind_some, slB_val, gLen_s, gGt_i, blD_bl, p10, hx, gGe_i]
        simp only [Int.toNat_zero, decide_eq_true hq, decide_eq_true (show (0:Int) < (ns.length : Nat) by omega), if_true]
      · refine ⟨0, by omega, fun o h => ?_⟩
        refine seq_set (d := .int 0) rfl ?_
        refine seq_if0 ?_ h
        simp only [ev_and, ev_asB, ev_op, ev_call, ev_cons, ev_nil, ev_c, ev_bvar, List.set_cons_succ, List.set_cons_zero, List.getElem?_cons_zero, Option.bind_some, slB_val, gLen_s, gGt_i, blD_bl, p10, hx, gGe_i]
        simp only [Int.toNat_zero, decide_eq_false hq, decide_eq_true (show (0:Int) < (ns.length : Nat) by omega), if_true]
    · refine ⟨0, by omega, fun o h => ?_⟩
      refine seq_set (d := .int 0) rfl ?_
      refine seq_if0 ?_ h
      simp only [ev_and, ev_asB, ev_op, ev_call, ev_cons, ev_nil, ev_c, ev_bvar, List.set_cons_succ, List.set_cons_zero, List.getElem?_cons_zero, Option.bind_some, slB_val, gLen_s, gGt_i, blD_bl]
      simp only [decide_eq_false (show ¬ (0:Int) < (ns.length : Nat) by omega), Bool.false_eq_true, if_false]
  obtain ⟨big, hb, hk⟩ := key
  obtain ⟨row, h1, h2, h3⟩ := fin big hb
  exact ⟨row, runC_rt rfl (hk _ h3), h1, h2⟩

/-! ### _law_like -/
def okL : Nat → D → Bool
  | _ + 1, .non => true
  | _ + 1, .bl _ => true
  | _ + 1, .int _ => true
  | _ + 1, .str x => PyData.strOk x
  | n + 1, .tup xs => xs.all (okL n) && lim xs.length
  | _, _ => false
theorem gIs_non {d : D} : gIs d .non = some (.bl (isNon d)) := rfl
theorem isiD_of {T : String} {d : D} {b : Bool} (h : isiD T d = b) : isiD T d = b := h
theorem isi_bool_int {i : Int} : isiD "bool" (.int i) = false := by simp [isiD, tyD]
theorem isi_bool_bl {i : Bool} : isiD "bool" (.bl i) = true := by simp [isiD, tyD]
theorem isi_bool_tup {i : List D} : isiD "bool" (.tup i) = false := by simp [isiD, tyD]
theorem isi_bool_lst {i : List D} : isiD "bool" (.lst i) = false := by simp [isiD, tyD]
theorem isi_bool_str {i : Str} : isiD "bool" (.str i) = false := by simp [isiD, tyD]
theorem isi_bool_non : isiD "bool" .non = false := by simp [isiD, tyD]
theorem isi_tup_int {i : Int} : isiD "tuple" (.int i) = false := by simp [isiD, tyD]
theorem isi_tup_bl {i : Bool} : isiD "tuple" (.bl i) = false := by simp [isiD, tyD]
theorem isi_tup_tup {i : List D} : isiD "tuple" (.tup i) = true := by simp [isiD, tyD]
theorem isi_tup_lst {i : List D} : isiD "tuple" (.lst i) = false := by simp [isiD, tyD]
theorem isi_tup_str {i : Str} : isiD "tuple" (.str i) = false := by simp [isiD, tyD]
theorem isi_tup_non : isiD "tuple" .non = false := by simp [isiD, tyD]
theorem isi_str_int {i : Int} : isiD "str" (.int i) = false := by simp [isiD, tyD]
theorem isi_str_bl {i : Bool} : isiD "str" (.bl i) = false := by simp [isiD, tyD]
theorem isi_str_tup {i : List D} : isiD "str" (.tup i) = false := by simp [isiD, tyD]
theorem isi_str_str {i : Str} : isiD "str" (.str i) = true := by simp [isiD, tyD]
theorem isi_int_int {i : Int} : isiD "int" (.int i) = true := by simp [isiD, tyD]
theorem isi_int_bl {i : Bool} : isiD "int" (.bl i) = true := by simp [isiD, tyD]
theorem isi_int_tup {i : List D} : isiD "int" (.tup i) = false := by simp [isiD, tyD]
theorem isi_int_str {i : Str} : isiD "int" (.str i) = false := by simp [isiD, tyD]
theorem isi_int_non : isiD "int" .non = false := by simp [isiD, tyD]
@[simp] theorem truD_bl {b : Bool} : truD (.bl b) = some b := rfl
theorem run_is_int (d : D) : run_l_is_int [d] = some (.bl (isiD "int" d && !isiD "bool" d)) := by
  refine runC_rt rfl (run_ret ?_)
  show (eAnd (eIsi "int" (bVar 0)) (eNot (eIsi "bool" (bVar 0)))) [.val d] = _
  simp only [ev_eand, ev_isi, ev_enot, ev_bvar, List.getElem?_cons_zero, Option.bind_some, slB_val, blD_bl]
  cases isiD "int" d <;> cases isiD "bool" d <;> rfl
section
variable {n : Nat} {v d : D}
theorem like_int {i j : Int} : run_l_like (n + 1) [.int i, .int j] = some (.bl (decide (i = j))) := by
  refine runC_rt rfl ?_
  show b_l_like (run_l_like n) [.val (.int i), .val (.int j), .un] = _
  refine seq_if0 (by simp [gIs_non, isNon]) ?_
  refine seq_if0 (by simp [isi_bool_int]) ?_
  refine seq_if0 (by simp [isi_tup_int]) ?_
  refine seq_if0 (by simp [isi_str_int]) ?_
  refine run_ret ?_
  simp [run_is_int, isi_int_int, isi_bool_int]
theorem like_bool {i j : Bool} : run_l_like (n + 1) [.bl i, .bl j] = some (.bl (i == j)) := by
  refine runC_rt rfl ?_
  show b_l_like (run_l_like n) [.val (.bl i), .val (.bl j), .un] = _
  refine seq_if0 (by simp [gIs_non, isNon]) ?_
  refine seq_if1r (by simp [isi_bool_bl]) (run_ret ?_)
  simp [isi_bool_bl]
theorem like_non : run_l_like (n + 1) [.non, .non] = some (.bl true) := by
  refine runC_rt rfl ?_
  show b_l_like (run_l_like n) [.val .non, .val .non, .un] = _
  refine seq_if1r (by simp [gIs_non, isNon]) (run_ret ?_)
  simp [gIs_non, isNon]
theorem str_beq (x : Str) : (x == x) = true := by simp
theorem like_str {x : Str} (h : PyData.strOk x = true) : run_l_like (n + 1) [.str x, .str x] = some (.bl true) := by
  refine runC_rt rfl ?_
  show b_l_like (run_l_like n) [.val (.str x), .val (.str x), .un] = _
  refine seq_if0 (by simp [gIs_non, isNon]) ?_
  refine seq_if0 (by simp [isi_bool_str]) ?_
  refine seq_if0 (by simp [isi_tup_str]) ?_
  refine seq_if1r (by simp [isi_str_str]) (run_ret ?_)
  simp [isi_str_str, gEq, okN, h, eqD, py, PyData.eqv]
theorem like_tup {xs : List D} (hz : xs.length ≤ 16777216) (h : ∀ x ∈ xs, run_l_like n [x, x] = some (.bl true)) : run_l_like (n + 1) [.tup xs, .tup xs] = some (.bl true) := by
  refine runC_rt rfl ?_
  show b_l_like (run_l_like n) [.val (.tup xs), .val (.tup xs), .un] = _
  refine seq_if0 (by simp [gIs_non, isNon]) ?_
  refine seq_if0 (by simp [isi_bool_tup]) ?_
  refine seq_if1r (by simp [isi_tup_tup]) ?_
  refine seq_if0 (by simp [isi_tup_tup]) ?_
  refine run_ret ?_
  have hr : iRg1 (aCons (eCall gLen (aCons (bVar 1) aNil)) aNil) [.val (.tup xs), .val (.tup xs), .un] = some ((rngN xs.length).map D.int) := by
    have := ev_rg1 (fl := aCons (eCall gLen (aCons (bVar 1) aNil)) aNil) (env := [.val (.tup xs), .val (.tup xs), .un]) (j := xs.length) rfl (by omega) (by omega)
    rw [this, Int.toNat_natCast]
  have hf := fLc_map (own := [2]) (t := gNm 2) (c := tYesF) (y := eFn (run_l_like n) (aCons (eOp gIx (bVar 0) (bVar 2)) (aCons (eOp gIx (bVar 1) (bVar 2)) aNil))) (g := fun _ => D.bl true) hr (by rw [rngN_len]; exact hz) (fun z hz => by
    obtain ⟨z0, z1⟩ := mem_rngN hz
    have zn : z.toNat < xs.length := by omega
    refine ⟨_, rfl, rfl, ?_⟩
    have g1 : gIx (.tup xs) (.int z) = some xs[z.toNat] := by rw [gIx_t z0 z1, List.getElem?_eq_getElem zn]
    simp [g1, h _ (List.getElem_mem zn)])
  rw [ev_call, ev_cons, ev_asL, hf]
  have e : (rngN xs.length).map (fun _ => D.bl true) = ((rngN xs.length).map fun _ => true).map D.bl := by rw [List.map_map]; rfl
  simp only [Option.map_some, Option.bind_some, ev_nil]
  rw [e, gAll_l]
  congr 2
  rw [List.all_eq_true]
  intro b hb
  obtain ⟨_, _, rfl⟩ := List.mem_map.mp hb
  rfl
end
theorem like_refl : ∀ (n : Nat) (d : D), okL n d = true → run_l_like n [d, d] = some (.bl true)
  | 0, d, h => by cases d <;> simp [okL] at h
  | n + 1, .non, _ => like_non
  | n + 1, .bl b, _ => by rw [like_bool]; simp
  | n + 1, .int i, _ => by rw [like_int]; simp
  | n + 1, .str x, h => like_str (by simpa [okL] using h)
  | n + 1, .tup xs, h => by
    simp only [okL, Bool.and_eq_true] at h
    exact like_tup (by simpa [lim] using h.2) fun x hx => like_refl n x (List.all_eq_true.mp h.1 x hx)
  | n + 1, .lst _, h => by simp [okL] at h
  | n + 1, .dic _, h => by simp [okL] at h
  | n + 1, .scr _, h => by simp [okL] at h
end PD

set_option Elab.async false
set_option linter.all false
set_option maxRecDepth 100000
set_option maxHeartbeats 4000000
namespace K01
section
open PySem PySem.Spec PyProof.Rows L2 PD
def topS (i : Nat) : Stmt := PySem.Challenge.pw_farkept_k01_whole_ways.main.body.getD i (.Pass ⟨0, 0, 0, 0⟩)
structure Bs (mg : Str → Option Value) : Prop where
  b_len : mg "len" = none
  b_range : mg "range" = none
  b_zip : mg "zip" = none
  b_sum : mg "sum" = none
  b_abs : mg "abs" = none
  b_max : mg "max" = none
  b_sorted : mg "sorted" = none
  b_tuple : mg "tuple" = none
  b_int : mg "int" = none
  b_isinstance : mg "isinstance" = none
  b_bool : mg "bool" = none
  b_str : mg "str" = none
  b_all : mg "all" = none
variable {P : Program} {w : World} {K : PySem.W.Frag} {mg : Str → Option Value} {base : Heap}

/-! far(way, u, v): 0 way, 1 u, 2 v, 3 steps, 4 rows, 5 one, 6 other, 7 step, 8 weight, 9 i, 10 part -/
abbrev s_far : Stmt := topS 1
theorem sc_far : FnScope ["way", "u", "v", "steps", "rows", "one", "other", "step", "weight", "i", "part"] ["way", "u", "v"] (defScope s_far) := ⟨rfl, rfl, rfl, by decide +kernel, rfl, by decide +kernel, by decide +kernel⟩
def b_far : Cmd :=
    (sSeq (sSet 3 (asL (fLc [5, 6] (iZipD (aCons (bVar 1) (aCons (bVar 2) aNil))) (gTp (gsCons (gNm 5) (gsCons (gNm 6) gsNil))) tYesF (eOp gSub (bVar 5) (bVar 6)))))
    (sSeq (sIf (asB (eOp gEq (bVar 0) (eC (.str (PySem.Str.ofString "steps")))))
    (sRet (eCall gSum (aCons (asL (fLc [7] (iSeq (bVar 3)) (gNm 7) tYesF (eCall gAbs (aCons (bVar 7) aNil)))) aNil)))
    sNop)
    (sSeq (sIf (asB (eOp gEq (bVar 0) (eC (.str (PySem.Str.ofString "air")))))
    (sRet (eCall gSum (aCons (asL (fLc [7] (iSeq (bVar 3)) (gNm 7) tYesF (eOp gMul (bVar 7) (bVar 7)))) aNil)))
    sNop)
    (sSeq (sIf (asB (eOp gEq (bVar 0) (eC (.str (PySem.Str.ofString "widest")))))
    (sRet (eCall gMaxI (aCons (asL (fLc [7] (iSeq (bVar 3)) (gNm 7) tYesF (eCall gAbs (aCons (bVar 7) aNil)))) aNil)))
    sNop)
    (sSeq (sIf (asB (eOp gEq (bVar 0) (eC (.str (PySem.Str.ofString "unlike")))))
    (sRet (eCall gLen (aCons (asL (fLc [7] (iSeq (bVar 3)) (gNm 7) (asB (eOp gNe (bVar 7) (eC (.int 0)))) (eC (.int 1)))) aNil)))
    sNop)
    (sSeq (sIf (asB (eOp gEq (eOp gIx (bVar 0) (eC (.int 0))) (eC (.str (PySem.Str.ofString "weights")))))
    (sRet (eCall gSum (aCons (asL (fLc [8, 7] (iZipD (aCons (eOp gIx (bVar 0) (eC (.int 1))) (aCons (bVar 3) aNil))) (gTp (gsCons (gNm 8) (gsCons (gNm 7) gsNil))) tYesF (eOp gMul (bVar 8) (eCall gAbs (aCons (bVar 7) aNil))))) aNil)))
    sNop)
    (sSeq (sSet 4 (eOp gIx (bVar 0) (eC (.int 1))))
    (sRet (eCall gSum (aCons (asL (fLc [9] (iRg1 (aCons (eCall gLen (aCons (bVar 3) aNil)) aNil)) (gNm 9) tYesF (eOp gMul (eOp gIx (bVar 3) (bVar 9)) (eCall gSum (aCons (asL (fLc [10, 7] (iZipD (aCons (eOp gIx (bVar 4) (bVar 9)) (aCons (bVar 3) aNil))) (gTp (gsCons (gNm 10) (gsCons (gNm 7) gsNil))) tYesF (eOp gMul (bVar 10) (bVar 7)))) aNil))))) aNil))))))))))
def run_far : List D → Option D := runC 3 8 b_far
theorem ok_far (B : Bs mg) (F : FunT K mg "far" s_far) : FnT P w K mg base "far" 1 3 run_far :=
  fnt_mk (lv := 0) F sc_far rfl rfl (fun _ _ _ _ _ _ us hl => match us, hl with | [_, _, _], _ => rfl) (fun f cdv A outer s H E hr =>
    (ssx_cons (sx_set (i := 3) sc_far.nd rfl (Or.inr rfl) (ex_f (fx_lc (own := [("one", 5), ("other", 6)]) rfl sc_far.nd (icx_zip (by rfl) B.b_zip (abx_cons (bx_var (i := 1) rfl (Or.inl rfl)) (abx_cons (bx_var (i := 2) rfl (Or.inl rfl)) abx_nil))) (blkOk_by (by kernel_rfl)) (by decide) (fun _ _ _ _ _ => (gx_tp rfl (gsx_cons (gx_nm (i := 5) sc_far.nd rfl (by first | exact Or.inl rfl | exact Or.inr rfl)) (gsx_cons (gx_nm (i := 6) sc_far.nd rfl (by first | exact Or.inl rfl | exact Or.inr rfl)) gsx_nil)) (gsl_cons (gsl_cons gsl_nil)))) (fun _ _ _ _ _ => pts_no) (fun _ _ _ _ _ => (ex_op osub (bx_var (i := 5) rfl (by first | exact Or.inl rfl | exact Or.inr (Or.inr rfl) | exact Or.inr (Or.inl rfl))) (bx_var (i := 6) rfl (by first | exact Or.inl rfl | exact Or.inr (Or.inr rfl) | exact Or.inr (Or.inl rfl)))))))) (ssx_cons (sx_if (tx_cmp (oeq hr.units) (bx_var (i := 0) rfl (Or.inl rfl)) (bx ex_str) (nomark _)) (ssx_one (sx_ret (ex_callB (csum rfl) (by rfl) B.b_sum (by decide +kernel) (abx_cons (bx (ex_f (fx_lc (own := [("step", 7)]) rfl sc_far.nd (icx_seq (bx_var (i := 3) rfl (Or.inr (Or.inl rfl)))) (blkOk_by (by kernel_rfl)) (by decide) (fun _ _ _ _ _ => (gx_nm (i := 7) sc_far.nd rfl (by first | exact Or.inl rfl | exact Or.inr rfl))) (fun _ _ _ _ _ => pts_no) (fun _ _ _ _ _ => (ex_callB cabs (by rfl) B.b_abs (by decide +kernel) (abx_cons (bx_var (i := 7) rfl (by first | exact Or.inl rfl | exact Or.inr (Or.inr rfl) | exact Or.inr (Or.inl rfl))) abx_nil)))))) abx_nil)))) ssx_nil) (ssx_cons (sx_if (tx_cmp (oeq hr.units) (bx_var (i := 0) rfl (Or.inl rfl)) (bx ex_str) (nomark _)) (ssx_one (sx_ret (ex_callB (csum rfl) (by rfl) B.b_sum (by decide +kernel) (abx_cons (bx (ex_f (fx_lc (own := [("step", 7)]) rfl sc_far.nd (icx_seq (bx_var (i := 3) rfl (Or.inr (Or.inl rfl)))) (blkOk_by (by kernel_rfl)) (by decide) (fun _ _ _ _ _ => (gx_nm (i := 7) sc_far.nd rfl (by first | exact Or.inl rfl | exact Or.inr rfl))) (fun _ _ _ _ _ => pts_no) (fun _ _ _ _ _ => (ex_op omul (bx_var (i := 7) rfl (by first | exact Or.inl rfl | exact Or.inr (Or.inr rfl) | exact Or.inr (Or.inl rfl))) (bx_var (i := 7) rfl (by first | exact Or.inl rfl | exact Or.inr (Or.inr rfl) | exact Or.inr (Or.inl rfl)))))))) abx_nil)))) ssx_nil) (ssx_cons (sx_if (tx_cmp (oeq hr.units) (bx_var (i := 0) rfl (Or.inl rfl)) (bx ex_str) (nomark _)) (ssx_one (sx_ret (ex_callB (cmaxI rfl) (by rfl) B.b_max (by decide +kernel) (abx_cons (bx (ex_f (fx_lc (own := [("step", 7)]) rfl sc_far.nd (icx_seq (bx_var (i := 3) rfl (Or.inr (Or.inl rfl)))) (blkOk_by (by kernel_rfl)) (by decide) (fun _ _ _ _ _ => (gx_nm (i := 7) sc_far.nd rfl (by first | exact Or.inl rfl | exact Or.inr rfl))) (fun _ _ _ _ _ => pts_no) (fun _ _ _ _ _ => (ex_callB cabs (by rfl) B.b_abs (by decide +kernel) (abx_cons (bx_var (i := 7) rfl (by first | exact Or.inl rfl | exact Or.inr (Or.inr rfl) | exact Or.inr (Or.inl rfl))) abx_nil)))))) abx_nil)))) ssx_nil) (ssx_cons (sx_if (tx_cmp (oeq hr.units) (bx_var (i := 0) rfl (Or.inl rfl)) (bx ex_str) (nomark _)) (ssx_one (sx_ret (ex_callB clen (by rfl) B.b_len PySem.boot_len (abx_cons (bx (ex_f (fx_lc (own := [("step", 7)]) rfl sc_far.nd (icx_seq (bx_var (i := 3) rfl (Or.inr (Or.inl rfl)))) (blkOk_by (by kernel_rfl)) (by decide) (fun _ _ _ _ _ => (gx_nm (i := 7) sc_far.nd rfl (by first | exact Or.inl rfl | exact Or.inr rfl))) (fun _ _ _ _ _ => (pts_if (tx_cmp (one hr.units) (bx_var (i := 7) rfl (by first | exact Or.inl rfl | exact Or.inr (Or.inr rfl) | exact Or.inr (Or.inl rfl))) (bx ex_int) (nomark _)))) (fun _ _ _ _ _ => ex_int)))) abx_nil)))) ssx_nil) (ssx_cons (sx_if (tx_cmp (oeq hr.units) (bx (ex_ix (bx_var (i := 0) rfl (Or.inl rfl)) (bx ex_int) (fun _ _ => rfl))) (bx ex_str) (nomark _)) (ssx_one (sx_ret (ex_callB (csum rfl) (by rfl) B.b_sum (by decide +kernel) (abx_cons (bx (ex_f (fx_lc (own := [("weight", 8), ("step", 7)]) rfl sc_far.nd (icx_zip (by rfl) B.b_zip (abx_cons (bx (ex_ix (bx_var (i := 0) rfl (Or.inl rfl)) (bx ex_int) (fun _ _ => rfl))) (abx_cons (bx_var (i := 3) rfl (Or.inr (Or.inl rfl))) abx_nil))) (blkOk_by (by kernel_rfl)) (by decide) (fun _ _ _ _ _ => (gx_tp rfl (gsx_cons (gx_nm (i := 8) sc_far.nd rfl (by first | exact Or.inl rfl | exact Or.inr rfl)) (gsx_cons (gx_nm (i := 7) sc_far.nd rfl (by first | exact Or.inl rfl | exact Or.inr rfl)) gsx_nil)) (gsl_cons (gsl_cons gsl_nil)))) (fun _ _ _ _ _ => pts_no) (fun _ _ _ _ _ => (ex_op omul (bx_var (i := 8) rfl (by first | exact Or.inl rfl | exact Or.inr (Or.inr rfl) | exact Or.inr (Or.inl rfl))) (bx (ex_callB cabs (by rfl) B.b_abs (by decide +kernel) (abx_cons (bx_var (i := 7) rfl (by first | exact Or.inl rfl | exact Or.inr (Or.inr rfl) | exact Or.inr (Or.inl rfl))) abx_nil)))))))) abx_nil)))) ssx_nil) (ssx_cons (sx_set (i := 4) sc_far.nd rfl (Or.inr rfl) (ex_ix (bx_var (i := 0) rfl (Or.inl rfl)) (bx ex_int) (fun _ _ => rfl))) (ssx_one (sx_ret (ex_callB (csum rfl) (by rfl) B.b_sum (by decide +kernel) (abx_cons (bx (ex_f (fx_lc (own := [("i", 9)]) rfl sc_far.nd (ilx_c (ilx_rg1 (by rfl) B.b_range (abx_cons (bx (ex_callB clen (by rfl) B.b_len PySem.boot_len (abx_cons (bx_var (i := 3) rfl (Or.inr (Or.inl rfl))) abx_nil))) abx_nil))) (blkOk_by (by kernel_rfl)) (by decide) (fun _ _ _ _ _ => (gx_nm (i := 9) sc_far.nd rfl (by first | exact Or.inl rfl | exact Or.inr rfl))) (fun _ _ _ _ _ => pts_no) (fun _ _ _ _ _ => (ex_op omul (bx (ex_ix (bx_var (i := 3) rfl (by first | exact Or.inl rfl | exact Or.inr (Or.inr rfl) | exact Or.inr (Or.inl rfl))) (bx_var (i := 9) rfl (by first | exact Or.inl rfl | exact Or.inr (Or.inr rfl) | exact Or.inr (Or.inl rfl))) (fun _ _ => rfl))) (bx (ex_callB (csum rfl) (by rfl) B.b_sum (by decide +kernel) (abx_cons (bx (ex_f (fx_lc (own := [("part", 10), ("step", 7)]) rfl sc_far.nd (icx_zip (by rfl) B.b_zip (abx_cons (bx (ex_ix (bx_var (i := 4) rfl (by first | exact Or.inl rfl | exact Or.inr (Or.inr rfl) | exact Or.inr (Or.inl rfl))) (bx_var (i := 9) rfl (by first | exact Or.inl rfl | exact Or.inr (Or.inr rfl) | exact Or.inr (Or.inl rfl))) (fun _ _ => rfl))) (abx_cons (bx_var (i := 3) rfl (by first | exact Or.inl rfl | exact Or.inr (Or.inr rfl) | exact Or.inr (Or.inl rfl))) abx_nil))) (blkOk_by (by kernel_rfl)) (by decide) (fun _ _ _ _ _ => (gx_tp rfl (gsx_cons (gx_nm (i := 10) sc_far.nd rfl (by first | exact Or.inl rfl | exact Or.inr rfl)) (gsx_cons (gx_nm (i := 7) sc_far.nd rfl (by first | exact Or.inl rfl | exact Or.inr rfl)) gsx_nil)) (gsl_cons (gsl_cons gsl_nil)))) (fun _ _ _ _ _ => pts_no) (fun _ _ _ _ _ => (ex_op omul (bx_var (i := 10) rfl (by first | exact Or.inl rfl | exact Or.inr (Or.inr rfl) | exact Or.inr (Or.inl rfl))) (bx_var (i := 7) rfl (by first | exact Or.inl rfl | exact Or.inr (Or.inr rfl) | exact Or.inr (Or.inl rfl)))))))) abx_nil)))))))) abx_nil))))))))))))

/-! keeps_turn(a, b, c): 0 a, 1 b, 2 c, 3 rest -/
abbrev s_keeps_turn : Stmt := topS 2
theorem sc_keeps_turn : FnScope ["a", "b", "c", "rest"] ["a", "b", "c"] (defScope s_keeps_turn) := ⟨rfl, rfl, rfl, by decide +kernel, rfl, by decide +kernel, by decide +kernel⟩
def b_keeps_turn : Cmd :=
    (sSeq (sSet 3 (eOp gSub (eOp gSub (bVar 0) (bVar 1)) (bVar 2)))
    (sRet (eOr (eOp gLe (bVar 3) (eC (.int 0))) (eOp gLe (eOp gMul (bVar 3) (bVar 3)) (eOp gMul (eOp gMul (eC (.int 4)) (bVar 1)) (bVar 2))))))
def run_keeps_turn : List D → Option D := runC 3 1 b_keeps_turn
theorem ok_keeps_turn (B : Bs mg) (F : FunT K mg "keeps_turn" s_keeps_turn) : FnT P w K mg base "keeps_turn" 1 3 run_keeps_turn :=
  fnt_mk (lv := 0) F sc_keeps_turn rfl rfl (fun _ _ _ _ _ _ us hl => match us, hl with | [_, _, _], _ => rfl) (fun f cdv A outer s H E hr =>
    (ssx_cons (sx_set (i := 3) sc_keeps_turn.nd rfl (Or.inl rfl) (ex_op osub (bx (ex_op osub (bx_var (i := 0) rfl (Or.inl rfl)) (bx_var (i := 1) rfl (Or.inl rfl)))) (bx_var (i := 2) rfl (Or.inl rfl)))) (ssx_one (sx_ret (ex_or (ex_cmp ole (bx_var (i := 3) rfl (Or.inl rfl)) (bx ex_int) (nomark _)) (ex_one (ex_cmp ole (bx (ex_op omul (bx_var (i := 3) rfl (Or.inl rfl)) (bx_var (i := 3) rfl (Or.inl rfl)))) (bx (ex_op omul (bx (ex_op omul (bx ex_int) (bx_var (i := 1) rfl (Or.inl rfl)))) (bx_var (i := 2) rfl (Or.inl rfl)))) (nomark _))))))))

/-! told_pairs(shelf, vector, way): 0 shelf, 1 vector, 2 way, 3 key, 4 kept, 5 tag -/
abbrev s_told_pairs : Stmt := topS 4
theorem sc_told_pairs : FnScope ["shelf", "vector", "way", "key", "kept", "tag"] ["shelf", "vector", "way"] (defScope s_told_pairs) := ⟨rfl, rfl, rfl, by decide +kernel, rfl, by decide +kernel, by decide +kernel⟩
def b_told_pairs : Cmd :=
    (sRet (asL (fCall gSortA (aCons (asL (fLc [3, 4, 5] (iSeq (bVar 0)) (gTp (gsCons (gNm 3) (gsCons (gNm 4) (gsCons (gNm 5) gsNil)))) tYesF (eTup (aCons (eFn run_far (aCons (eVar 2) (aCons (eVar 1) (aCons (eVar 4) aNil)))) (aCons (eVar 3) aNil))))) aNil))))
def run_told_pairs : List D → Option D := runC 3 3 b_told_pairs
theorem ok_told_pairs (B : Bs mg) (F : FunT K mg "told_pairs" s_told_pairs) (c_far : FnT P w K mg base "far" 1 3 run_far) : FnT P w K mg base "told_pairs" 2 3 run_told_pairs :=
  fnt_mk (lv := 1) F sc_told_pairs rfl rfl (fun _ _ _ _ _ _ us hl => match us, hl with | [_, _, _], _ => rfl) (fun f cdv A outer s H E hr =>
    (ssx_one (sx_ret (ex_f (fx_callB (csortA (room65 hr)) (by rfl) B.b_sorted (by decide +kernel) (abx_cons (bx (ex_f (fx_lc (own := [("key", 3), ("kept", 4), ("tag", 5)]) rfl sc_told_pairs.nd (icx_seq (bx_var (i := 0) rfl (Or.inl rfl))) (blkOk_by (by kernel_rfl)) (by decide) (fun _ _ _ _ _ => (gx_tp rfl (gsx_cons (gx_nm (i := 3) sc_told_pairs.nd rfl (by first | exact Or.inl rfl | exact Or.inr rfl)) (gsx_cons (gx_nm (i := 4) sc_told_pairs.nd rfl (by first | exact Or.inl rfl | exact Or.inr rfl)) (gsx_cons (gx_nm (i := 5) sc_told_pairs.nd rfl (by first | exact Or.inl rfl | exact Or.inr rfl)) gsx_nil))) (gsl_cons (gsl_cons (gsl_cons gsl_nil))))) (fun _ _ _ _ _ => pts_no) (fun _ _ _ _ _ => (ex_tup (ax_cons (ex_fnT c_far hr (by decide) (by rfl) (ax_cons (ex_var (i := 2) rfl (by first | exact Or.inl rfl | exact Or.inr (Or.inr rfl) | exact Or.inr (Or.inl rfl))) (ax_cons (ex_var (i := 1) rfl (by first | exact Or.inl rfl | exact Or.inr (Or.inr rfl) | exact Or.inr (Or.inl rfl))) (ax_cons (ex_var (i := 4) rfl (by first | exact Or.inl rfl | exact Or.inr (Or.inr rfl) | exact Or.inr (Or.inl rfl))) ax_nil)))) (ax_cons (ex_var (i := 3) rfl (by first | exact Or.inl rfl | exact Or.inr (Or.inr rfl) | exact Or.inr (Or.inl rfl))) ax_nil))))))) abx_nil))))))

/-! nearest(shelf, vector, way, k): 0 shelf, 1 vector, 2 way, 3 k -/
abbrev s_nearest : Stmt := topS 5
theorem sc_nearest : FnScope ["shelf", "vector", "way", "k"] ["shelf", "vector", "way", "k"] (defScope s_nearest) := ⟨rfl, rfl, rfl, by decide +kernel, rfl, by decide +kernel, by decide +kernel⟩
def b_nearest : Cmd :=
    (sRet (eCall gTuple (aCons (eSl (eFn run_told_pairs (aCons (eVar 0) (aCons (eVar 1) (aCons (eVar 2) aNil)))) oNo (oYes (bVar 3))) aNil)))
def run_nearest : List D → Option D := runC 4 0 b_nearest
theorem ok_nearest (B : Bs mg) (F : FunT K mg "nearest" s_nearest) (c_told_pairs : FnT P w K mg base "told_pairs" 2 3 run_told_pairs) : FnT P w K mg base "nearest" 3 4 run_nearest :=
  fnt_mk (lv := 2) F sc_nearest rfl rfl (fun _ _ _ _ _ _ us hl => match us, hl with | [_, _, _, _], _ => rfl) (fun f cdv A outer s H E hr =>
    (ssx_one (sx_ret (ex_callTy ctuple (by rfl) B.b_tuple (by decide +kernel) (abx_cons (bx (ex_sl (bx (ex_fnT c_told_pairs hr (by decide) (by rfl) (ax_cons (ex_var (i := 0) rfl (Or.inl rfl)) (ax_cons (ex_var (i := 1) rfl (Or.inl rfl)) (ax_cons (ex_var (i := 2) rfl (Or.inl rfl)) ax_nil))))) ox_no (ox_yes (bx_var (i := 3) rfl (Or.inl rfl))))) abx_nil)))))

/-! _law_mixed(script, k): 0 script, 1 k, 2 cell, 3 first, 4 second, 5 third -/
abbrev s_l_mixed : Stmt := topS 7
theorem sc_l_mixed : FnScope ["script", "k", "cell", "first", "second", "third"] ["script", "k"] (defScope s_l_mixed) := ⟨rfl, rfl, rfl, by decide +kernel, rfl, by decide +kernel, by decide +kernel⟩
def b_l_mixed : Cmd :=
    (sSeq (sSet 2 (eC (.int 0)))
    (sSeq (sIf (asB (eOp gGt (eCall gLen (aCons (bVar 0) aNil)) (eC (.int 0))))
    (sSet 2 (eOp gIx (bVar 0) (eOp gMod (bVar 1) (eCall gLen (aCons (bVar 0) aNil)))))
    sNop)
    (sSeq (sSet 3 (eOp gMod (eCall gInt (aCons (eOp gAdd (eOp gAdd (eOp gMul (bVar 2) (eC (.int 48271))) (eOp gMul (bVar 1) (eC (.int 69621)))) (eC (.int 8191))) aNil)) (eC (.int 2147483647))))
    (sSeq (sSet 4 (eOp gMod (eCall gInt (aCons (eOp gAdd (eOp gAdd (eOp gMul (bVar 3) (bVar 3)) (eOp gDiv (bVar 3) (eC (.int 7)))) (eOp gMul (bVar 1) (eC (.int 16807)))) aNil)) (eC (.int 2147483629))))
    (sSeq (sSet 5 (eOp gMod (eCall gInt (aCons (eOp gAdd (eOp gAdd (eOp gMul (bVar 4) (bVar 4)) (eOp gDiv (bVar 4) (eC (.int 11)))) (eC (.int 40692))) aNil)) (eC (.int 2147483563))))
    (sRet (eOp gMod (eOp gDiv (bVar 5) (eC (.int 5))) (eC (.int 1000003)))))))))
def run_l_mixed : List D → Option D := runC 2 4 b_l_mixed
theorem ok_l_mixed (B : Bs mg) (F : FunT K mg "_law_mixed" s_l_mixed) : FnT P w K mg base "_law_mixed" 1 2 run_l_mixed :=
  fnt_mk (lv := 0) F sc_l_mixed rfl rfl (fun _ _ _ _ _ _ us hl => match us, hl with | [_, _], _ => rfl) (fun f cdv A outer s H E hr =>
    (ssx_cons (sx_set (i := 2) sc_l_mixed.nd rfl (Or.inl rfl) ex_int) (ssx_cons (sx_if (tx_cmp ogt (bx (ex_callB clen (by rfl) B.b_len PySem.boot_len (abx_cons (bx_var (i := 0) rfl (Or.inl rfl)) abx_nil))) (bx ex_int) (nomark _)) (ssx_one (sx_set (i := 2) sc_l_mixed.nd rfl (Or.inl rfl) (ex_ix (bx_var (i := 0) rfl (Or.inl rfl)) (bx (ex_op omod (bx_var (i := 1) rfl (Or.inl rfl)) (bx (ex_callB clen (by rfl) B.b_len PySem.boot_len (abx_cons (bx_var (i := 0) rfl (Or.inl rfl)) abx_nil))))) (fun _ _ => rfl)))) ssx_nil) (ssx_cons (sx_set (i := 3) sc_l_mixed.nd rfl (Or.inl rfl) (ex_op omod (bx (ex_callTy cint (by rfl) B.b_int (by decide +kernel) (abx_cons (bx (ex_op oadd (bx (ex_op oadd (bx (ex_op omul (bx_var (i := 2) rfl (Or.inl rfl)) (bx ex_int))) (bx (ex_op omul (bx_var (i := 1) rfl (Or.inl rfl)) (bx ex_int))))) (bx ex_int))) abx_nil))) (bx ex_int))) (ssx_cons (sx_set (i := 4) sc_l_mixed.nd rfl (Or.inl rfl) (ex_op omod (bx (ex_callTy cint (by rfl) B.b_int (by decide +kernel) (abx_cons (bx (ex_op oadd (bx (ex_op oadd (bx (ex_op omul (bx_var (i := 3) rfl (Or.inl rfl)) (bx_var (i := 3) rfl (Or.inl rfl)))) (bx (ex_op odiv (bx_var (i := 3) rfl (Or.inl rfl)) (bx ex_int))))) (bx (ex_op omul (bx_var (i := 1) rfl (Or.inl rfl)) (bx ex_int))))) abx_nil))) (bx ex_int))) (ssx_cons (sx_set (i := 5) sc_l_mixed.nd rfl (Or.inl rfl) (ex_op omod (bx (ex_callTy cint (by rfl) B.b_int (by decide +kernel) (abx_cons (bx (ex_op oadd (bx (ex_op oadd (bx (ex_op omul (bx_var (i := 4) rfl (Or.inl rfl)) (bx_var (i := 4) rfl (Or.inl rfl)))) (bx (ex_op odiv (bx_var (i := 4) rfl (Or.inl rfl)) (bx ex_int))))) (bx ex_int))) abx_nil))) (bx ex_int))) (ssx_one (sx_ret (ex_op omod (bx (ex_op odiv (bx_var (i := 5) rfl (Or.inl rfl)) (bx ex_int))) (bx ex_int))))))))))

/-! _law_row(script, many): 0 script, 1 many, 2 big, 3 row, 4 k -/
abbrev s_l_row : Stmt := topS 8
theorem sc_l_row : FnScope ["script", "many", "big", "row", "k"] ["script", "many"] (defScope s_l_row) := ⟨rfl, rfl, rfl, by decide +kernel, rfl, by decide +kernel, by decide +kernel⟩
def b_l_row : Cmd :=
    (sSeq (sSet 2 (eC (.int 0)))
    (sSeq (sIf (tAndF (asB (eOp gGt (eCall gLen (aCons (bVar 0) aNil)) (eC (.int 0)))) (asB (eOp gGe (eOp gIx (bVar 0) (eC (.int 0))) (eOp gPow (eC (.int 10)) (eC (.int 18))))))
    (sSet 2 (eOp gIx (bVar 0) (eC (.int 0))))
    sNop)
    (sSeq (sSetO 3 (fun env => (aNil env).bind fun ds => if lim ds.length then some ds else none))
    (sSeq (sFor (iRg1 (aCons (bVar 1) aNil)) (gNm 4)
    (sIf (asB (eOp gGt (bVar 2) (eC (.int 0))))
    (sSeq (sApp 3 (eOp gMod (eCall gInt (aCons (bVar 2) aNil)) (eC (.int 1000))))
    (sSet 2 (eOp gDiv (bVar 2) (eC (.int 1000)))))
    (sApp 3 (eFn run_l_mixed (aCons (eVar 0) (aCons (eVar 4) aNil))))))
    (sFrz [3] (sRet (eVar 3)))))))
def run_l_row : List D → Option D := runC 2 3 b_l_row
theorem ok_l_row (B : Bs mg) (F : FunT K mg "_law_row" s_l_row) (c_l_mixed : FnT P w K mg base "_law_mixed" 1 2 run_l_mixed) : FnT P w K mg base "_law_row" 2 2 run_l_row :=
  fnt_mk (lv := 1) F sc_l_row rfl rfl (fun _ _ _ _ _ _ us hl => match us, hl with | [_, _], _ => rfl) (fun f cdv A outer s H E hr =>
    (ssx_cons (sx_set (i := 2) sc_l_row.nd rfl (Or.inl rfl) ex_int) (ssx_cons (sx_if (PW.pt (wx_and (tx_cmp ogt (bx (ex_callB clen (by rfl) B.b_len PySem.boot_len (abx_cons (bx_var (i := 0) rfl (Or.inl rfl)) abx_nil))) (bx ex_int) (nomark _)) (wx_and1 (tx_cmp oge (bx (ex_ix (bx_var (i := 0) rfl (Or.inl rfl)) (bx ex_int) (fun _ _ => rfl))) (bx (ex_op opow (bx ex_int) (bx ex_int))) (nomark _))))) (ssx_one (sx_set (i := 2) sc_l_row.nd rfl (Or.inl rfl) (ex_ix (bx_var (i := 0) rfl (Or.inl rfl)) (bx ex_int) (fun _ _ => rfl)))) ssx_nil) (ssx_cons (sx_setO (i := 3) sc_l_row.nd rfl (Or.inl rfl) (fx_lst ax_nil)) (ssx_cons (sx_for PassesOwn.never rfl (ilx_rg1 (by rfl) B.b_range (abx_cons (bx_var (i := 1) rfl (Or.inl rfl)) abx_nil)) (gx_nm (i := 4) sc_l_row.nd rfl (Or.inl rfl)) (ssx_one (sx_if (tx_cmp ogt (bx_var (i := 2) rfl (Or.inl rfl)) (bx ex_int) (nomark _)) (ssx_cons (sx_app (i := 3) rfl (Or.inl rfl) (ex_op omod (bx (ex_callTy cint (by rfl) B.b_int (by decide +kernel) (abx_cons (bx_var (i := 2) rfl (Or.inl rfl)) abx_nil))) (bx ex_int))) (ssx_one (sx_set (i := 2) sc_l_row.nd rfl (Or.inl rfl) (ex_op odiv (bx_var (i := 2) rfl (Or.inl rfl)) (bx ex_int))))) (ssx_one (sx_app (i := 3) rfl (Or.inl rfl) (ex_fnT c_l_mixed hr (by decide) (by rfl) (ax_cons (ex_var (i := 0) rfl (Or.inl rfl)) (ax_cons (ex_var (i := 4) rfl (Or.inl rfl)) ax_nil)))))))) (ssx_one (sx_frz (is := [3]) (sx_ret (ex_var (i := 3) rfl (Or.inl rfl))))))))))

/-! _law_is_int(value): 0 value -/
abbrev s_l_is_int : Stmt := topS 9
theorem sc_l_is_int : FnScope ["value"] ["value"] (defScope s_l_is_int) := ⟨rfl, rfl, rfl, by decide +kernel, rfl, by decide +kernel, by decide +kernel⟩
def b_l_is_int : Cmd :=
    (sRet (eAnd (eIsi "int" (bVar 0)) (eNot (eIsi "bool" (bVar 0)))))
def run_l_is_int : List D → Option D := runC 1 0 b_l_is_int
theorem ok_l_is_int (B : Bs mg) (F : FunT K mg "_law_is_int" s_l_is_int) : FnT P w K mg base "_law_is_int" 1 1 run_l_is_int :=
  fnt_mk (lv := 0) F sc_l_is_int rfl rfl (fun _ _ _ _ _ _ us hl => match us, hl with | [_], _ => rfl) (fun f cdv A outer s H E hr =>
    (ssx_one (sx_ret (ex_and (ex_isi kit_int (by rfl) B.b_isinstance (bx_var (i := 0) rfl (Or.inl rfl)) (by rfl) B.b_int (by decide +kernel)) (ex_one (ex_not (ex_isi kit_bool (by rfl) B.b_isinstance (bx_var (i := 0) rfl (Or.inl rfl)) (by rfl) B.b_bool (by decide +kernel))))))))

/-! _law_like(value, due): 0 value, 1 due, 2 k -/
abbrev s_l_like : Stmt := topS 10
theorem sc_l_like : FnScope ["value", "due", "k"] ["value", "due"] (defScope s_l_like) := ⟨rfl, rfl, rfl, by decide +kernel, rfl, by decide +kernel, by decide +kernel⟩
def b_l_like (rec : List D → Option D) : Cmd :=
    (sSeq (sIf (asB (eOp gIs (bVar 1) (eC .non)))
    (sRet (eOp gIs (bVar 0) (eC .non)))
    sNop)
    (sSeq (sIf (asT (eIsi "bool" (bVar 1)))
    (sRet (eAnd (eIsi "bool" (bVar 0)) (eOp gEq (bVar 0) (bVar 1))))
    sNop)
    (sSeq (sIf (asT (eIsi "tuple" (bVar 1)))
    (sSeq (sIf (tOrF (tNotF (asT (eIsi "tuple" (bVar 0)))) (asB (eOp gNe (eCall gLen (aCons (bVar 0) aNil)) (eCall gLen (aCons (bVar 1) aNil)))))
    (sRet (eC (.bl false)))
    sNop)
    (sRet (eCall gAll (aCons (asL (fLc [2] (iRg1 (aCons (eCall gLen (aCons (bVar 1) aNil)) aNil)) (gNm 2) tYesF (eFn rec (aCons (eOp gIx (bVar 0) (bVar 2)) (aCons (eOp gIx (bVar 1) (bVar 2)) aNil))))) aNil))))
    sNop)
    (sSeq (sIf (asT (eIsi "str" (bVar 1)))
    (sRet (eAnd (eIsi "str" (bVar 0)) (eOp gEq (bVar 0) (bVar 1))))
    sNop)
    (sRet (eAnd (eFn run_l_is_int (aCons (eVar 0) aNil)) (eOp gEq (bVar 0) (bVar 1))))))))
def run_l_like : Nat → List D → Option D
  | 0 => fun _ => none
  | fuel + 1 => runC 2 1 (b_l_like (run_l_like fuel))
theorem ok_l_like (B : Bs mg) (F : FunT K mg "_law_like" s_l_like) (c_l_is_int : FnT P w K mg base "_law_is_int" 1 1 run_l_is_int) : ∀ fuel, FnT P w K mg base "_law_like" (1 + fuel) 2 (run_l_like fuel)
  | 0 => fnt_zero (ps := ["value", "due"]) F (fun _ _ _ _ _ _ us hl => match us, hl with | [_, _], _ => rfl)
  | fuel + 1 => have c_l_like := ok_l_like B F c_l_is_int fuel
    fnt_mk (lv := 1 + fuel) F sc_l_like rfl rfl (fun _ _ _ _ _ _ us hl => match us, hl with | [_, _], _ => rfl) (fun f cdv A outer s H E hr =>
    (ssx_cons (sx_if (tx_cmp ois (bx_var (i := 1) rfl (Or.inr (Or.inl rfl))) (bx ex_non) (nomark _)) (ssx_one (sx_ret (ex_cmp ois (bx_var (i := 0) rfl (Or.inr (Or.inl rfl))) (bx ex_non) (nomark _)))) ssx_nil) (ssx_cons (sx_if (tx_tru (bx (ex_isi kit_bool (by rfl) B.b_isinstance (bx_var (i := 1) rfl (Or.inr (Or.inl rfl))) (by rfl) B.b_bool (by decide +kernel)))) (ssx_one (sx_ret (ex_and (ex_isi kit_bool (by rfl) B.b_isinstance (bx_var (i := 0) rfl (Or.inr (Or.inl rfl))) (by rfl) B.b_bool (by decide +kernel)) (ex_one (ex_cmp (oeq hr.units) (bx_var (i := 0) rfl (Or.inr (Or.inl rfl))) (bx_var (i := 1) rfl (Or.inr (Or.inl rfl))) (nomark _)))))) ssx_nil) (ssx_cons (sx_if (tx_tru (bx (ex_isi kit_tuple (by rfl) B.b_isinstance (bx_var (i := 1) rfl (Or.inr (Or.inl rfl))) (by rfl) B.b_tuple (by decide +kernel)))) (ssx_cons (sx_if (PW.pt (wx_or (tx_not (tx_tru (bx (ex_isi kit_tuple (by rfl) B.b_isinstance (bx_var (i := 0) rfl (Or.inr (Or.inl rfl))) (by rfl) B.b_tuple (by decide +kernel))))) (wx_or1 (tx_cmp (one hr.units) (bx (ex_callB clen (by rfl) B.b_len PySem.boot_len (abx_cons (bx_var (i := 0) rfl (Or.inr (Or.inl rfl))) abx_nil))) (bx (ex_callB clen (by rfl) B.b_len PySem.boot_len (abx_cons (bx_var (i := 1) rfl (Or.inr (Or.inl rfl))) abx_nil))) (nomark _))))) (ssx_one (sx_ret ex_bl)) ssx_nil) (ssx_one (sx_ret (ex_callB (call rfl) (by rfl) B.b_all (by decide +kernel) (abx_cons (bx (ex_f (fx_lc (own := [("k", 2)]) rfl sc_l_like.nd (ilx_c (ilx_rg1 (by rfl) B.b_range (abx_cons (bx (ex_callB clen (by rfl) B.b_len PySem.boot_len (abx_cons (bx_var (i := 1) rfl (Or.inr (Or.inl rfl))) abx_nil))) abx_nil))) (blkOk_by (by kernel_rfl)) (by decide) (fun _ _ _ _ _ => (gx_nm (i := 2) sc_l_like.nd rfl (by first | exact Or.inl rfl | exact Or.inr rfl))) (fun _ _ _ _ _ => pts_no) (fun _ _ _ _ _ => (ex_fnT c_l_like hr (by omega) (by rfl) (ax_cons (ex_ix (bx_var (i := 0) rfl (by first | exact Or.inl rfl | exact Or.inr (Or.inr rfl) | exact Or.inr (Or.inl rfl))) (bx_var (i := 2) rfl (by first | exact Or.inl rfl | exact Or.inr (Or.inr rfl) | exact Or.inr (Or.inl rfl))) (fun _ _ => rfl)) (ax_cons (ex_ix (bx_var (i := 1) rfl (by first | exact Or.inl rfl | exact Or.inr (Or.inr rfl) | exact Or.inr (Or.inl rfl))) (bx_var (i := 2) rfl (by first | exact Or.inl rfl | exact Or.inr (Or.inr rfl) | exact Or.inr (Or.inl rfl))) (fun _ _ => rfl)) ax_nil))))))) abx_nil))))) ssx_nil) (ssx_cons (sx_if (tx_tru (bx (ex_isi kit_str (by rfl) B.b_isinstance (bx_var (i := 1) rfl (Or.inr (Or.inl rfl))) (by rfl) B.b_str (by decide +kernel)))) (ssx_one (sx_ret (ex_and (ex_isi kit_str (by rfl) B.b_isinstance (bx_var (i := 0) rfl (Or.inr (Or.inl rfl))) (by rfl) B.b_str (by decide +kernel)) (ex_one (ex_cmp (oeq hr.units) (bx_var (i := 0) rfl (Or.inr (Or.inl rfl))) (bx_var (i := 1) rfl (Or.inr (Or.inl rfl))) (nomark _)))))) ssx_nil) (ssx_one (sx_ret (ex_and (ex_fnT c_l_is_int hr (by omega) (by rfl) (ax_cons (ex_var (i := 0) rfl (Or.inr (Or.inl rfl))) ax_nil)) (ex_one (ex_cmp (oeq hr.units) (bx_var (i := 0) rfl (Or.inr (Or.inl rfl))) (bx_var (i := 1) rfl (Or.inr (Or.inl rfl))) (nomark _)))))))))))

/-! _law_cloud(row, at, most, length, top): 0 row, 1 at, 2 most, 3 length, 4 top, 5 found, 6 k, 7 j -/
abbrev s_l_cloud : Stmt := topS 11
theorem sc_l_cloud : FnScope ["row", "at", "most", "length", "top", "found", "k", "j"] ["row", "at", "most", "length", "top"] (defScope s_l_cloud) := ⟨rfl, rfl, rfl, by decide +kernel, rfl, by decide +kernel, by decide +kernel⟩
def b_l_cloud : Cmd :=
    (sSeq (sSetO 5 (fun env => (aNil env).bind fun ds => if lim ds.length then some ds else none))
    (sSeq (sFor (iRg1 (aCons (eOp gMod (eCall gInt (aCons (eOp gIx (bVar 0) (bVar 1)) aNil)) (eOp gAdd (bVar 2) (eC (.int 1)))) aNil)) (gNm 6)
    (sApp 5 (eCall gTuple (aCons (asL (fLc [7] (iRg1 (aCons (bVar 3) aNil)) (gNm 7) tYesF (eOp gSub (eOp gMod (eCall gInt (aCons (eOp gIx (bVar 0) (eOp gAdd (eOp gAdd (eOp gAdd (bVar 1) (eC (.int 1))) (eOp gMul (eC (.int 3)) (bVar 6))) (bVar 7))) aNil)) (eOp gAdd (eOp gMul (eC (.int 2)) (bVar 4)) (eC (.int 1)))) (bVar 4)))) aNil))))
    (sRet (eCall gTuple (aCons (bVar 5) aNil)))))
def run_l_cloud : List D → Option D := runC 5 3 b_l_cloud
theorem ok_l_cloud (B : Bs mg) (F : FunT K mg "_law_cloud" s_l_cloud) : FnT P w K mg base "_law_cloud" 1 5 run_l_cloud :=
  fnt_mk (lv := 0) F sc_l_cloud rfl rfl (fun _ _ _ _ _ _ us hl => match us, hl with | [_, _, _, _, _], _ => rfl) (fun f cdv A outer s H E hr =>
    (ssx_cons (sx_setO (i := 5) sc_l_cloud.nd rfl (Or.inl rfl) (fx_lst ax_nil)) (ssx_cons (sx_for PassesOwn.never rfl (ilx_rg1 (by rfl) B.b_range (abx_cons (bx (ex_op omod (bx (ex_callTy cint (by rfl) B.b_int (by decide +kernel) (abx_cons (bx (ex_ix (bx_var (i := 0) rfl (Or.inr (Or.inl rfl))) (bx_var (i := 1) rfl (Or.inr (Or.inl rfl))) (fun _ _ => rfl))) abx_nil))) (bx (ex_op oadd (bx_var (i := 2) rfl (Or.inl rfl)) (bx ex_int))))) abx_nil)) (gx_nm (i := 6) sc_l_cloud.nd rfl (Or.inr rfl)) (ssx_one (sx_app (i := 5) rfl (Or.inl rfl) (ex_callTy ctuple (by rfl) B.b_tuple (by decide +kernel) (abx_cons (bx (ex_f (fx_lc (own := [("j", 7)]) rfl sc_l_cloud.nd (ilx_c (ilx_rg1 (by rfl) B.b_range (abx_cons (bx_var (i := 3) rfl (Or.inl rfl)) abx_nil))) (blkOk_by (by kernel_rfl)) (by decide) (fun _ _ _ _ _ => (gx_nm (i := 7) sc_l_cloud.nd rfl (by first | exact Or.inl rfl | exact Or.inr rfl))) (fun _ _ _ _ _ => pts_no) (fun _ _ _ _ _ => (ex_op osub (bx (ex_op omod (bx (ex_callTy cint (by rfl) B.b_int (by decide +kernel) (abx_cons (bx (ex_ix (bx_var (i := 0) rfl (by first | exact Or.inl rfl | exact Or.inr (Or.inr rfl) | exact Or.inr (Or.inl rfl))) (bx (ex_op oadd (bx (ex_op oadd (bx (ex_op oadd (bx_var (i := 1) rfl (by first | exact Or.inl rfl | exact Or.inr (Or.inr rfl) | exact Or.inr (Or.inl rfl))) (bx ex_int))) (bx (ex_op omul (bx ex_int) (bx_var (i := 6) rfl (by first | exact Or.inl rfl | exact Or.inr (Or.inr rfl) | exact Or.inr (Or.inl rfl))))))) (bx_var (i := 7) rfl (by first | exact Or.inl rfl | exact Or.inr (Or.inr rfl) | exact Or.inr (Or.inl rfl))))) (fun _ _ => rfl))) abx_nil))) (bx (ex_op oadd (bx (ex_op omul (bx ex_int) (bx_var (i := 4) rfl (by first | exact Or.inl rfl | exact Or.inr (Or.inr rfl) | exact Or.inr (Or.inl rfl))))) (bx ex_int))))) (bx_var (i := 4) rfl (by first | exact Or.inl rfl | exact Or.inr (Or.inr rfl) | exact Or.inr (Or.inl rfl)))))))) abx_nil))))) (ssx_one (sx_ret (ex_callTy ctuple (by rfl) B.b_tuple (by decide +kernel) (abx_cons (bx_var (i := 5) rfl (Or.inl rfl)) abx_nil)))))))

/-! _law_way(row, at, length): 0 row, 1 at, 2 length, 3 kind, 4 lines, 5 i, 6 j -/
abbrev s_l_way : Stmt := topS 12
theorem sc_l_way : FnScope ["row", "at", "length", "kind", "lines", "i", "j"] ["row", "at", "length"] (defScope s_l_way) := ⟨rfl, rfl, rfl, by decide +kernel, rfl, by decide +kernel, by decide +kernel⟩
def b_l_way : Cmd :=
    (sSeq (sSet 3 (eOp gMod (eCall gInt (aCons (eOp gIx (bVar 0) (bVar 1)) aNil)) (eC (.int 6))))
    (sSeq (sIf (asB (eOp gEq (bVar 3) (eC (.int 4))))
    (sRet (eTup (aCons (eC (.str (PySem.Str.ofString "weights"))) (aCons (eCall gTuple (aCons (asL (fLc [6] (iRg1 (aCons (bVar 2) aNil)) (gNm 6) tYesF (eOp gAdd (eC (.int 1)) (eOp gMod (eCall gInt (aCons (eOp gIx (bVar 0) (eOp gAdd (eOp gAdd (bVar 1) (eC (.int 1))) (bVar 6))) aNil)) (eC (.int 5)))))) aNil)) aNil))))
    sNop)
    (sSeq (sIf (asB (eOp gEq (bVar 3) (eC (.int 5))))
    (sSeq (sSetO 4 (fun env => (aNil env).bind fun ds => if lim ds.length then some ds else none))
    (sSeq (sFor (iRg1 (aCons (bVar 2) aNil)) (gNm 5)
    (sApp 4 (eCall gTuple (aCons (asL (fLc [6] (iRg1 (aCons (bVar 2) aNil)) (gNm 6) tYesF (eOp gAdd (eOp gMul (eOp gAdd (eOp gMod (eCall gInt (aCons (eOp gIx (bVar 0) (eOp gAdd (eOp gAdd (bVar 1) (eC (.int 1))) (bVar 5))) aNil)) (eC (.int 3))) (eC (.int 4))) (eCall gInt (aCons (eOp gEq (bVar 5) (bVar 6)) aNil))) (eOp gMul (eOp gSub (eOp gMod (eCall gInt (aCons (eOp gIx (bVar 0) (eOp gAdd (bVar 1) (eC (.int 4)))) aNil)) (eC (.int 3))) (eC (.int 1))) (eCall gInt (aCons (eOp gNe (bVar 5) (bVar 6)) aNil)))))) aNil))))
    (sRet (eTup (aCons (eC (.str (PySem.Str.ofString "form"))) (aCons (eCall gTuple (aCons (bVar 4) aNil)) aNil))))))
    sNop)
    (sRet (eOp gIx (eTup (aCons (eC (.str (PySem.Str.ofString "steps"))) (aCons (eC (.str (PySem.Str.ofString "air"))) (aCons (eC (.str (PySem.Str.ofString "widest"))) (aCons (eC (.str (PySem.Str.ofString "unlike"))) aNil))))) (bVar 3))))))
def run_l_way : List D → Option D := runC 3 4 b_l_way
theorem ok_l_way (B : Bs mg) (F : FunT K mg "_law_way" s_l_way) : FnT P w K mg base "_law_way" 1 3 run_l_way :=
  fnt_mk (lv := 0) F sc_l_way rfl rfl (fun _ _ _ _ _ _ us hl => match us, hl with | [_, _, _], _ => rfl) (fun f cdv A outer s H E hr =>
    (ssx_cons (sx_set (i := 3) sc_l_way.nd rfl (Or.inl rfl) (ex_op omod (bx (ex_callTy cint (by rfl) B.b_int (by decide +kernel) (abx_cons (bx (ex_ix (bx_var (i := 0) rfl (Or.inr (Or.inl rfl))) (bx_var (i := 1) rfl (Or.inr (Or.inl rfl))) (fun _ _ => rfl))) abx_nil))) (bx ex_int))) (ssx_cons (sx_if (tx_cmp (oeq hr.units) (bx_var (i := 3) rfl (Or.inl rfl)) (bx ex_int) (nomark _)) (ssx_one (sx_ret (ex_tup (ax_cons ex_str (ax_cons (ex_callTy ctuple (by rfl) B.b_tuple (by decide +kernel) (abx_cons (bx (ex_f (fx_lc (own := [("j", 6)]) rfl sc_l_way.nd (ilx_c (ilx_rg1 (by rfl) B.b_range (abx_cons (bx_var (i := 2) rfl (Or.inl rfl)) abx_nil))) (blkOk_by (by kernel_rfl)) (by decide) (fun _ _ _ _ _ => (gx_nm (i := 6) sc_l_way.nd rfl (by first | exact Or.inl rfl | exact Or.inr rfl))) (fun _ _ _ _ _ => pts_no) (fun _ _ _ _ _ => (ex_op oadd (bx ex_int) (bx (ex_op omod (bx (ex_callTy cint (by rfl) B.b_int (by decide +kernel) (abx_cons (bx (ex_ix (bx_var (i := 0) rfl (by first | exact Or.inl rfl | exact Or.inr (Or.inr rfl) | exact Or.inr (Or.inl rfl))) (bx (ex_op oadd (bx (ex_op oadd (bx_var (i := 1) rfl (by first | exact Or.inl rfl | exact Or.inr (Or.inr rfl) | exact Or.inr (Or.inl rfl))) (bx ex_int))) (bx_var (i := 6) rfl (by first | exact Or.inl rfl | exact Or.inr (Or.inr rfl) | exact Or.inr (Or.inl rfl))))) (fun _ _ => rfl))) abx_nil))) (bx ex_int)))))))) abx_nil)) ax_nil))))) ssx_nil) (ssx_cons (sx_if (tx_cmp (oeq hr.units) (bx_var (i := 3) rfl (Or.inl rfl)) (bx ex_int) (nomark _)) (ssx_cons (sx_setO (i := 4) sc_l_way.nd rfl (Or.inl rfl) (fx_lst ax_nil)) (ssx_cons (sx_for PassesOwn.never rfl (ilx_rg1 (by rfl) B.b_range (abx_cons (bx_var (i := 2) rfl (Or.inl rfl)) abx_nil)) (gx_nm (i := 5) sc_l_way.nd rfl (Or.inr rfl)) (ssx_one (sx_app (i := 4) rfl (Or.inl rfl) (ex_callTy ctuple (by rfl) B.b_tuple (by decide +kernel) (abx_cons (bx (ex_f (fx_lc (own := [("j", 6)]) rfl sc_l_way.nd (ilx_c (ilx_rg1 (by rfl) B.b_range (abx_cons (bx_var (i := 2) rfl (Or.inl rfl)) abx_nil))) (blkOk_by (by kernel_rfl)) (by decide) (fun _ _ _ _ _ => (gx_nm (i := 6) sc_l_way.nd rfl (by first | exact Or.inl rfl | exact Or.inr rfl))) (fun _ _ _ _ _ => pts_no) (fun _ _ _ _ _ => (ex_op oadd (bx (ex_op omul (bx (ex_op oadd (bx (ex_op omod (bx (ex_callTy cint (by rfl) B.b_int (by decide +kernel) (abx_cons (bx (ex_ix (bx_var (i := 0) rfl (by first | exact Or.inl rfl | exact Or.inr (Or.inr rfl) | exact Or.inr (Or.inl rfl))) (bx (ex_op oadd (bx (ex_op oadd (bx_var (i := 1) rfl (by first | exact Or.inl rfl | exact Or.inr (Or.inr rfl) | exact Or.inr (Or.inl rfl))) (bx ex_int))) (bx_var (i := 5) rfl (by first | exact Or.inl rfl | exact Or.inr (Or.inr rfl) | exact Or.inr (Or.inl rfl))))) (fun _ _ => rfl))) abx_nil))) (bx ex_int))) (bx ex_int))) (bx (ex_callTy cint (by rfl) B.b_int (by decide +kernel) (abx_cons (bx (ex_cmp (oeq hr.units) (bx_var (i := 5) rfl (by first | exact Or.inl rfl | exact Or.inr (Or.inr rfl) | exact Or.inr (Or.inl rfl))) (bx_var (i := 6) rfl (by first | exact Or.inl rfl | exact Or.inr (Or.inr rfl) | exact Or.inr (Or.inl rfl))) (nomark _))) abx_nil))))) (bx (ex_op omul (bx (ex_op osub (bx (ex_op omod (bx (ex_callTy cint (by rfl) B.b_int (by decide +kernel) (abx_cons (bx (ex_ix (bx_var (i := 0) rfl (by first | exact Or.inl rfl | exact Or.inr (Or.inr rfl) | exact Or.inr (Or.inl rfl))) (bx (ex_op oadd (bx_var (i := 1) rfl (by first | exact Or.inl rfl | exact Or.inr (Or.inr rfl) | exact Or.inr (Or.inl rfl))) (bx ex_int))) (fun _ _ => rfl))) abx_nil))) (bx ex_int))) (bx ex_int))) (bx (ex_callTy cint (by rfl) B.b_int (by decide +kernel) (abx_cons (bx (ex_cmp (one hr.units) (bx_var (i := 5) rfl (by first | exact Or.inl rfl | exact Or.inr (Or.inr rfl) | exact Or.inr (Or.inl rfl))) (bx_var (i := 6) rfl (by first | exact Or.inl rfl | exact Or.inr (Or.inr rfl) | exact Or.inr (Or.inl rfl))) (nomark _))) abx_nil)))))))))) abx_nil))))) (ssx_one (sx_ret (ex_tup (ax_cons ex_str (ax_cons (ex_callTy ctuple (by rfl) B.b_tuple (by decide +kernel) (abx_cons (bx_var (i := 4) rfl (Or.inl rfl)) abx_nil)) ax_nil))))))) ssx_nil) (ssx_one (sx_ret (ex_ix (bx (ex_tup (ax_cons ex_str (ax_cons ex_str (ax_cons ex_str (ax_cons ex_str ax_nil)))))) (bx_var (i := 3) rfl (Or.inl rfl)) (fun _ _ => rfl))))))))

/-! _law_far(way, u, v): 0 way, 1 u, 2 v, 3 steps, 4 total, 5 i, 6 k, 7 step, 8 j -/
abbrev s_l_far : Stmt := topS 13
theorem sc_l_far : FnScope ["way", "u", "v", "steps", "total", "i", "k", "step", "j"] ["way", "u", "v"] (defScope s_l_far) := ⟨rfl, rfl, rfl, by decide +kernel, rfl, by decide +kernel, by decide +kernel⟩
def b_l_far : Cmd :=
    (sSeq (sSet 3 (asL (fLc [6] (iRg1 (aCons (eCall gLen (aCons (bVar 1) aNil)) aNil)) (gNm 6) tYesF (eOp gSub (eOp gIx (bVar 1) (bVar 6)) (eOp gIx (bVar 2) (bVar 6))))))
    (sSeq (sIf (asB (eOp gEq (bVar 0) (eC (.str (PySem.Str.ofString "steps")))))
    (sRet (eCall gSum (aCons (asL (fLc [7] (iSeq (bVar 3)) (gNm 7) tYesF (eCall gAbs (aCons (bVar 7) aNil)))) aNil)))
    sNop)
    (sSeq (sIf (asB (eOp gEq (bVar 0) (eC (.str (PySem.Str.ofString "air")))))
    (sRet (eCall gSum (aCons (asL (fLc [7] (iSeq (bVar 3)) (gNm 7) tYesF (eOp gMul (bVar 7) (bVar 7)))) aNil)))
    sNop)
    (sSeq (sIf (asB (eOp gEq (bVar 0) (eC (.str (PySem.Str.ofString "widest")))))
    (sRet (eCall gMaxI (aCons (asL (fLc [7] (iSeq (bVar 3)) (gNm 7) tYesF (eCall gAbs (aCons (bVar 7) aNil)))) aNil)))
    sNop)
    (sSeq (sIf (asB (eOp gEq (bVar 0) (eC (.str (PySem.Str.ofString "unlike")))))
    (sRet (eCall gLen (aCons (asL (fLc [7] (iSeq (bVar 3)) (gNm 7) (asB (eOp gNe (bVar 7) (eC (.int 0)))) (eVar 7))) aNil)))
    sNop)
    (sSeq (sIf (asB (eOp gEq (eOp gIx (bVar 0) (eC (.int 0))) (eC (.str (PySem.Str.ofString "weights")))))
    (sRet (eCall gSum (aCons (asL (fLc [6] (iRg1 (aCons (eCall gLen (aCons (bVar 1) aNil)) aNil)) (gNm 6) tYesF (eOp gMul (eOp gIx (eOp gIx (bVar 0) (eC (.int 1))) (bVar 6)) (eCall gAbs (aCons (eOp gIx (bVar 3) (bVar 6)) aNil))))) aNil)))
    sNop)
    (sSeq (sSet 4 (eC (.int 0)))
    (sSeq (sFor (iRg1 (aCons (eCall gLen (aCons (bVar 1) aNil)) aNil)) (gNm 5)
    (sSet 4 (eOp gAdd (bVar 4) (eOp gMul (eOp gIx (bVar 3) (bVar 5)) (eCall gSum (aCons (asL (fLc [8] (iRg1 (aCons (eCall gLen (aCons (bVar 1) aNil)) aNil)) (gNm 8) tYesF (eOp gMul (eOp gIx (eOp gIx (eOp gIx (bVar 0) (eC (.int 1))) (bVar 5)) (bVar 8)) (eOp gIx (bVar 3) (bVar 8))))) aNil))))))
    (sRet (eVar 4))))))))))
def run_l_far : List D → Option D := runC 3 6 b_l_far
theorem ok_l_far (B : Bs mg) (F : FunT K mg "_law_far" s_l_far) : FnT P w K mg base "_law_far" 1 3 run_l_far :=
  fnt_mk (lv := 0) F sc_l_far rfl rfl (fun _ _ _ _ _ _ us hl => match us, hl with | [_, _, _], _ => rfl) (fun f cdv A outer s H E hr =>
    (ssx_cons (sx_set (i := 3) sc_l_far.nd rfl (Or.inr rfl) (ex_f (fx_lc (own := [("k", 6)]) rfl sc_l_far.nd (ilx_c (ilx_rg1 (by rfl) B.b_range (abx_cons (bx (ex_callB clen (by rfl) B.b_len PySem.boot_len (abx_cons (bx_var (i := 1) rfl (Or.inr (Or.inl rfl))) abx_nil))) abx_nil))) (blkOk_by (by kernel_rfl)) (by decide) (fun _ _ _ _ _ => (gx_nm (i := 6) sc_l_far.nd rfl (by first | exact Or.inl rfl | exact Or.inr rfl))) (fun _ _ _ _ _ => pts_no) (fun _ _ _ _ _ => (ex_op osub (bx (ex_ix (bx_var (i := 1) rfl (by first | exact Or.inl rfl | exact Or.inr (Or.inr rfl) | exact Or.inr (Or.inl rfl))) (bx_var (i := 6) rfl (by first | exact Or.inl rfl | exact Or.inr (Or.inr rfl) | exact Or.inr (Or.inl rfl))) (fun _ _ => rfl))) (bx (ex_ix (bx_var (i := 2) rfl (by first | exact Or.inl rfl | exact Or.inr (Or.inr rfl) | exact Or.inr (Or.inl rfl))) (bx_var (i := 6) rfl (by first | exact Or.inl rfl | exact Or.inr (Or.inr rfl) | exact Or.inr (Or.inl rfl))) (fun _ _ => rfl)))))))) (ssx_cons (sx_if (tx_cmp (oeq hr.units) (bx_var (i := 0) rfl (Or.inr (Or.inl rfl))) (bx ex_str) (nomark _)) (ssx_one (sx_ret (ex_callB (csum rfl) (by rfl) B.b_sum (by decide +kernel) (abx_cons (bx (ex_f (fx_lc (own := [("step", 7)]) rfl sc_l_far.nd (icx_seq (bx_var (i := 3) rfl (Or.inr (Or.inl rfl)))) (blkOk_by (by kernel_rfl)) (by decide) (fun _ _ _ _ _ => (gx_nm (i := 7) sc_l_far.nd rfl (by first | exact Or.inl rfl | exact Or.inr rfl))) (fun _ _ _ _ _ => pts_no) (fun _ _ _ _ _ => (ex_callB cabs (by rfl) B.b_abs (by decide +kernel) (abx_cons (bx_var (i := 7) rfl (by first | exact Or.inl rfl | exact Or.inr (Or.inr rfl) | exact Or.inr (Or.inl rfl))) abx_nil)))))) abx_nil)))) ssx_nil) (ssx_cons (sx_if (tx_cmp (oeq hr.units) (bx_var (i := 0) rfl (Or.inr (Or.inl rfl))) (bx ex_str) (nomark _)) (ssx_one (sx_ret (ex_callB (csum rfl) (by rfl) B.b_sum (by decide +kernel) (abx_cons (bx (ex_f (fx_lc (own := [("step", 7)]) rfl sc_l_far.nd (icx_seq (bx_var (i := 3) rfl (Or.inr (Or.inl rfl)))) (blkOk_by (by kernel_rfl)) (by decide) (fun _ _ _ _ _ => (gx_nm (i := 7) sc_l_far.nd rfl (by first | exact Or.inl rfl | exact Or.inr rfl))) (fun _ _ _ _ _ => pts_no) (fun _ _ _ _ _ => (ex_op omul (bx_var (i := 7) rfl (by first | exact Or.inl rfl | exact Or.inr (Or.inr rfl) | exact Or.inr (Or.inl rfl))) (bx_var (i := 7) rfl (by first | exact Or.inl rfl | exact Or.inr (Or.inr rfl) | exact Or.inr (Or.inl rfl)))))))) abx_nil)))) ssx_nil) (ssx_cons (sx_if (tx_cmp (oeq hr.units) (bx_var (i := 0) rfl (Or.inr (Or.inl rfl))) (bx ex_str) (nomark _)) (ssx_one (sx_ret (ex_callB (cmaxI rfl) (by rfl) B.b_max (by decide +kernel) (abx_cons (bx (ex_f (fx_lc (own := [("step", 7)]) rfl sc_l_far.nd (icx_seq (bx_var (i := 3) rfl (Or.inr (Or.inl rfl)))) (blkOk_by (by kernel_rfl)) (by decide) (fun _ _ _ _ _ => (gx_nm (i := 7) sc_l_far.nd rfl (by first | exact Or.inl rfl | exact Or.inr rfl))) (fun _ _ _ _ _ => pts_no) (fun _ _ _ _ _ => (ex_callB cabs (by rfl) B.b_abs (by decide +kernel) (abx_cons (bx_var (i := 7) rfl (by first | exact Or.inl rfl | exact Or.inr (Or.inr rfl) | exact Or.inr (Or.inl rfl))) abx_nil)))))) abx_nil)))) ssx_nil) (ssx_cons (sx_if (tx_cmp (oeq hr.units) (bx_var (i := 0) rfl (Or.inr (Or.inl rfl))) (bx ex_str) (nomark _)) (ssx_one (sx_ret (ex_callB clen (by rfl) B.b_len PySem.boot_len (abx_cons (bx (ex_f (fx_lc (own := [("step", 7)]) rfl sc_l_far.nd (icx_seq (bx_var (i := 3) rfl (Or.inr (Or.inl rfl)))) (blkOk_by (by kernel_rfl)) (by decide) (fun _ _ _ _ _ => (gx_nm (i := 7) sc_l_far.nd rfl (by first | exact Or.inl rfl | exact Or.inr rfl))) (fun _ _ _ _ _ => (pts_if (tx_cmp (one hr.units) (bx_var (i := 7) rfl (by first | exact Or.inl rfl | exact Or.inr (Or.inr rfl) | exact Or.inr (Or.inl rfl))) (bx ex_int) (nomark _)))) (fun _ _ _ _ _ => (ex_var (i := 7) rfl (by first | exact Or.inl rfl | exact Or.inr (Or.inr rfl) | exact Or.inr (Or.inl rfl))))))) abx_nil)))) ssx_nil) (ssx_cons (sx_if (tx_cmp (oeq hr.units) (bx (ex_ix (bx_var (i := 0) rfl (Or.inr (Or.inl rfl))) (bx ex_int) (fun _ _ => rfl))) (bx ex_str) (nomark _)) (ssx_one (sx_ret (ex_callB (csum rfl) (by rfl) B.b_sum (by decide +kernel) (abx_cons (bx (ex_f (fx_lc (own := [("k", 6)]) rfl sc_l_far.nd (ilx_c (ilx_rg1 (by rfl) B.b_range (abx_cons (bx (ex_callB clen (by rfl) B.b_len PySem.boot_len (abx_cons (bx_var (i := 1) rfl (Or.inr (Or.inl rfl))) abx_nil))) abx_nil))) (blkOk_by (by kernel_rfl)) (by decide) (fun _ _ _ _ _ => (gx_nm (i := 6) sc_l_far.nd rfl (by first | exact Or.inl rfl | exact Or.inr rfl))) (fun _ _ _ _ _ => pts_no) (fun _ _ _ _ _ => (ex_op omul (bx (ex_ix (bx (ex_ix (bx_var (i := 0) rfl (by first | exact Or.inl rfl | exact Or.inr (Or.inr rfl) | exact Or.inr (Or.inl rfl))) (bx ex_int) (fun _ _ => rfl))) (bx_var (i := 6) rfl (by first | exact Or.inl rfl | exact Or.inr (Or.inr rfl) | exact Or.inr (Or.inl rfl))) (fun _ _ => rfl))) (bx (ex_callB cabs (by rfl) B.b_abs (by decide +kernel) (abx_cons (bx (ex_ix (bx_var (i := 3) rfl (by first | exact Or.inl rfl | exact Or.inr (Or.inr rfl) | exact Or.inr (Or.inl rfl))) (bx_var (i := 6) rfl (by first | exact Or.inl rfl | exact Or.inr (Or.inr rfl) | exact Or.inr (Or.inl rfl))) (fun _ _ => rfl))) abx_nil)))))))) abx_nil)))) ssx_nil) (ssx_cons (sx_set (i := 4) sc_l_far.nd rfl (Or.inl rfl) ex_int) (ssx_cons (sx_for PassesOwn.never rfl (ilx_rg1 (by rfl) B.b_range (abx_cons (bx (ex_callB clen (by rfl) B.b_len PySem.boot_len (abx_cons (bx_var (i := 1) rfl (Or.inr (Or.inl rfl))) abx_nil))) abx_nil)) (gx_nm (i := 5) sc_l_far.nd rfl (Or.inr rfl)) (ssx_one (sx_set (i := 4) sc_l_far.nd rfl (Or.inl rfl) (ex_op oadd (bx_var (i := 4) rfl (Or.inl rfl)) (bx (ex_op omul (bx (ex_ix (bx_var (i := 3) rfl (Or.inr (Or.inl rfl))) (bx_var (i := 5) rfl (Or.inr (Or.inl rfl))) (fun _ _ => rfl))) (bx (ex_callB (csum rfl) (by rfl) B.b_sum (by decide +kernel) (abx_cons (bx (ex_f (fx_lc (own := [("j", 8)]) rfl sc_l_far.nd (ilx_c (ilx_rg1 (by rfl) B.b_range (abx_cons (bx (ex_callB clen (by rfl) B.b_len PySem.boot_len (abx_cons (bx_var (i := 1) rfl (Or.inr (Or.inl rfl))) abx_nil))) abx_nil))) (blkOk_by (by kernel_rfl)) (by decide) (fun _ _ _ _ _ => (gx_nm (i := 8) sc_l_far.nd rfl (by first | exact Or.inl rfl | exact Or.inr rfl))) (fun _ _ _ _ _ => pts_no) (fun _ _ _ _ _ => (ex_op omul (bx (ex_ix (bx (ex_ix (bx (ex_ix (bx_var (i := 0) rfl (by first | exact Or.inl rfl | exact Or.inr (Or.inr rfl) | exact Or.inr (Or.inl rfl))) (bx ex_int) (fun _ _ => rfl))) (bx_var (i := 5) rfl (by first | exact Or.inl rfl | exact Or.inr (Or.inr rfl) | exact Or.inr (Or.inl rfl))) (fun _ _ => rfl))) (bx_var (i := 8) rfl (by first | exact Or.inl rfl | exact Or.inr (Or.inr rfl) | exact Or.inr (Or.inl rfl))) (fun _ _ => rfl))) (bx (ex_ix (bx_var (i := 3) rfl (by first | exact Or.inl rfl | exact Or.inr (Or.inr rfl) | exact Or.inr (Or.inl rfl))) (bx_var (i := 8) rfl (by first | exact Or.inl rfl | exact Or.inr (Or.inr rfl) | exact Or.inr (Or.inl rfl))) (fun _ _ => rfl)))))))) abx_nil))))))))) (ssx_one (sx_ret (ex_var (i := 4) rfl (Or.inl rfl)))))))))))))

/-! law(script): 0 script, 1 row, 2 n, 3 u, 4 v, 5 w, 6 way, 7 a, 8 b, 9 c, 10 rooted, 11 x, 12 y, 13 z, 14 due, 15 ones, 16 i, 17 shelf, 18 pairs, 19 k, 20 at, 21 j, 22 key, 23 kept, 24 tag -/
abbrev s_law : Stmt := topS 14
theorem sc_law : FnScope ["script", "row", "n", "u", "v", "w", "way", "a", "b", "c", "rooted", "x", "y", "z", "due", "ones", "i", "shelf", "pairs", "k", "at", "j", "key", "kept", "tag"] ["script"] (defScope s_law) := ⟨rfl, rfl, rfl, by decide +kernel, rfl, by decide +kernel, by decide +kernel⟩
def b_law : Cmd :=
    (sSeq (sSet 1 (eFn run_l_row (aCons (eVar 0) (aCons (eC (.int 30)) aNil))))
    (sSeq (sSet 2 (eOp gAdd (eC (.int 1)) (eOp gMod (eCall gInt (aCons (eOp gIx (bVar 1) (eC (.int 0))) aNil)) (eC (.int 3)))))
    (sSeq (sAsg (gTl (gsCons (gNm 3) (gsCons (gNm 4) (gsCons (gNm 5) gsNil)))) (asL (fLc [20] (iSeq (eTup (aCons (eC (.int 1)) (aCons (eC (.int 4)) (aCons (eC (.int 7)) aNil))))) (gNm 20) tYesF (eCall gTuple (aCons (asL (fLc [21] (iRg1 (aCons (bVar 2) aNil)) (gNm 21) tYesF (eOp gSub (eOp gMod (eCall gInt (aCons (eOp gIx (bVar 1) (eOp gAdd (bVar 20) (bVar 21))) aNil)) (eC (.int 41))) (eC (.int 20))))) aNil)))))
    (sSeq (sSet 6 (eFn run_l_way (aCons (eVar 1) (aCons (eC (.int 10)) (aCons (eVar 2) aNil)))))
    (sSeq (sPar3N 7 8 9 (vN (eFn run_far (aCons (eVar 6) (aCons (eVar 3) (aCons (eVar 5) aNil))))) (vN (eFn run_far (aCons (eVar 6) (aCons (eVar 3) (aCons (eVar 4) aNil))))) (vN (eFn run_far (aCons (eVar 6) (aCons (eVar 4) (aCons (eVar 5) aNil))))))
    (sSeq (sIf (tOrF (tNotF (asT (eFn (run_l_like 8) (aCons (eVar 7) (aCons (eFn run_l_far (aCons (eVar 6) (aCons (eVar 3) (aCons (eVar 5) aNil)))) aNil))))) (tOrF (tNotF (asT (eFn (run_l_like 8) (aCons (eVar 8) (aCons (eFn run_l_far (aCons (eVar 6) (aCons (eVar 3) (aCons (eVar 4) aNil)))) aNil))))) (tNotF (asT (eFn (run_l_like 8) (aCons (eFn run_far (aCons (eVar 6) (aCons (eVar 5) (aCons (eVar 3) aNil)))) (aCons (eVar 7) aNil)))))))
    (sRet (eC (.bl false)))
    sNop)
    (sSeq (sIf (tOrF (asB (eOp gNe (eOp gEq (bVar 7) (eC (.int 0))) (eOp gEq (bVar 3) (bVar 5)))) (tNotF (asT (eFn (run_l_like 8) (aCons (eFn run_far (aCons (eVar 6) (aCons (eVar 3) (aCons (eVar 3) aNil)))) (aCons (eC (.int 0)) aNil))))))
    (sRet (eC (.bl false)))
    sNop)
    (sSeq (sSet 10 (eOr (eOp gEq (bVar 6) (eC (.str (PySem.Str.ofString "air")))) (eAnd (eIsi "tuple" (bVar 6)) (eOp gEq (eOp gIx (bVar 6) (eC (.int 0))) (eC (.str (PySem.Str.ofString "form")))))))
    (sSeq (sIf (tOrF (tAndF (asT (bVar 10)) (asB (eOp gIsNotB (eFn run_keeps_turn (aCons (eVar 7) (aCons (eVar 8) (aCons (eVar 9) aNil)))) (eC (.bl true))))) (tAndF (tNotF (asT (bVar 10))) (asB (eOp gGt (bVar 7) (eOp gAdd (bVar 8) (bVar 9))))))
    (sRet (eC (.bl false)))
    sNop)
    (sSeq (sPar3N 11 12 13 (vN (eCall gInt (aCons (eOp gIx (bVar 1) (eC (.int 20))) aNil))) (vN (eCall gInt (aCons (eOp gIx (bVar 1) (eC (.int 21))) aNil))) (vN (eCall gInt (aCons (eOp gIx (bVar 1) (eC (.int 22))) aNil))))
    (sSeq (sIf (asB (eOp gEq (eOp gMod (eOp gIx (bVar 1) (eC (.int 23))) (eC (.int 3))) (eC (.int 1))))
    (sSeq (sParN 12 13 (vN (eOp gMod (eCall gInt (aCons (eOp gIx (bVar 1) (eC (.int 21))) aNil)) (eC (.int 30)))) (vN (eOp gMod (eCall gInt (aCons (eOp gIx (bVar 1) (eC (.int 22))) aNil)) (eC (.int 30)))))
    (sSeq (sSet 11 (eOp gSub (eOp gAdd (eOp gAdd (eOp gAdd (eOp gMul (bVar 12) (bVar 12)) (eOp gMul (eOp gMul (eC (.int 2)) (bVar 12)) (bVar 13))) (eOp gMul (bVar 13) (bVar 13))) (eOp gMod (eCall gInt (aCons (eOp gIx (bVar 1) (eC (.int 20))) aNil)) (eC (.int 3)))) (eC (.int 1))))
    (sParN 12 13 (vN (eOp gMul (bVar 12) (bVar 12))) (vN (eOp gMul (bVar 13) (bVar 13))))))
    sNop)
    (sSeq (sSet 14 (eOr (eOp gLe (eOp gSub (eOp gSub (bVar 11) (bVar 12)) (bVar 13)) (eC (.int 0))) (eOp gLe (eOp gMul (eOp gSub (eOp gSub (bVar 11) (bVar 12)) (bVar 13)) (eOp gSub (eOp gSub (bVar 11) (bVar 12)) (bVar 13))) (eOp gMul (eOp gMul (eC (.int 4)) (bVar 12)) (bVar 13)))))
    (sSeq (sIf (tAndF (asB (eOp gGe (bVar 11) (eC (.int 0)))) (tNotF (asT (eFn (run_l_like 8) (aCons (eFn run_keeps_turn (aCons (eVar 11) (aCons (eVar 12) (aCons (eVar 13) aNil)))) (aCons (eVar 14) aNil))))))
    (sRet (eC (.bl false)))
    sNop)
    (sSeq (sSetO 15 (fun env => (aNil env).bind fun ds => if lim ds.length then some ds else none))
    (sSeq (sFor (iRg1 (aCons (bVar 2) aNil)) (gNm 16)
    (sApp 15 (eCall gTuple (aCons (asL (fLc [21] (iRg1 (aCons (bVar 2) aNil)) (gNm 21) tYesF (eCall gInt (aCons (eOp gEq (bVar 16) (bVar 21)) aNil)))) aNil))))
    (sSeq (sSet 15 (eCall gTuple (aCons (bVar 15) aNil)))
    (sSeq (sFrz [15] (sIf (tOrF (asB (eOp gNe (eFn run_far (aCons (eTup (aCons (eC (.str (PySem.Str.ofString "form"))) (aCons (eVar 15) aNil))) (aCons (eVar 3) (aCons (eVar 4) aNil)))) (eFn run_far (aCons (eC (.str (PySem.Str.ofString "air"))) (aCons (eVar 3) (aCons (eVar 4) aNil)))))) (asB (eOp gNe (eFn run_far (aCons (eTup (aCons (eC (.str (PySem.Str.ofString "weights"))) (aCons (eOp gMulA (eTup (aCons (eC (.int 1)) aNil)) (bVar 2)) aNil))) (aCons (eVar 3) (aCons (eVar 4) aNil)))) (eFn run_far (aCons (eC (.str (PySem.Str.ofString "steps"))) (aCons (eVar 3) (aCons (eVar 4) aNil)))))))
    (sRet (eC (.bl false)))
    sNop))
    (sSeq (sSet 17 (eTup (aCons (eTup (aCons (eC (.int 3)) (aCons (eVar 3) (aCons (eC (.int 0)) aNil)))) (aCons (eTup (aCons (eC (.int 5)) (aCons (eVar 4) (aCons (eC (.int 1)) aNil)))) (aCons (eTup (aCons (eC (.int 8)) (aCons (eVar 5) (aCons (eC (.int 2)) aNil)))) aNil)))))
    (sSeq (sSet 18 (asL (fCall gSortA (aCons (asL (fLc [22, 23, 24] (iSeq (bVar 17)) (gTp (gsCons (gNm 22) (gsCons (gNm 23) (gsCons (gNm 24) gsNil)))) tYesF (eTup (aCons (eFn run_l_far (aCons (eVar 6) (aCons (eVar 3) (aCons (eVar 23) aNil)))) (aCons (eVar 22) aNil))))) aNil))))
    (sSeq (sSet 19 (eOp gMod (eCall gInt (aCons (eOp gIx (bVar 1) (eC (.int 24))) aNil)) (eC (.int 5))))
    (sRet (eFn (run_l_like 8) (aCons (eFn run_nearest (aCons (eVar 17) (aCons (eVar 3) (aCons (eVar 6) (aCons (eVar 19) aNil))))) (aCons (eCall gTuple (aCons (eSl (bVar 18) oNo (oYes (bVar 19))) aNil)) aNil))))))))))))))))))))))))
def run_law : List D → Option D := runC 1 24 b_law
theorem okf_law (B : Bs mg) {f : Addr} {fd : FuncData} (F : Fun K "law" "law" s_law f fd) (c_l_like : FnT P w K mg base "_law_like" 9 2 (run_l_like 8)) (c_nearest : FnT P w K mg base "nearest" 3 4 run_nearest) (c_l_far : FnT P w K mg base "_law_far" 1 3 run_l_far) (c_far : FnT P w K mg base "far" 1 3 run_far) (c_keeps_turn : FnT P w K mg base "keeps_turn" 1 3 run_keeps_turn) (c_l_way : FnT P w K mg base "_law_way" 1 3 run_l_way) (c_l_row : FnT P w K mg base "_law_row" 2 2 run_l_row) : FnOk P w K mg base CX0 10 f fd ["script"] (spD K run_law 1) :=
  fn_ok (lv := 9) F sc_law rfl rfl (fun cdv A outer s H E hr =>
    (ssx_cons (sx_set (i := 1) sc_law.nd rfl (Or.inr rfl) (ex_fnT c_l_row hr (by decide) (by rfl) (ax_cons (ex_var (i := 0) rfl (Or.inl rfl)) (ax_cons ex_int ax_nil)))) (ssx_cons (sx_set (i := 2) sc_law.nd rfl (Or.inr rfl) (ex_op oadd (bx ex_int) (bx (ex_op omod (bx (ex_callTy cint (by rfl) B.b_int (by decide +kernel) (abx_cons (bx (ex_ix (bx_var (i := 1) rfl (Or.inr (Or.inl rfl))) (bx ex_int) (fun _ _ => rfl))) abx_nil))) (bx ex_int))))) (ssx_cons (sx_asg (ex_f (fx_lc (own := [("at", 20)]) rfl sc_law.nd (icx_seq (bx (ex_tup (ax_cons ex_int (ax_cons ex_int (ax_cons ex_int ax_nil)))))) (blkOk_by (by kernel_rfl)) (by decide) (fun _ _ _ _ _ => (gx_nm (i := 20) sc_law.nd rfl (by first | exact Or.inl rfl | exact Or.inr rfl))) (fun _ _ _ _ _ => pts_no) (fun _ _ _ _ _ => (ex_callTy ctuple (by rfl) B.b_tuple (by decide +kernel) (abx_cons (bx (ex_f (fx_lc (own := [("j", 21)]) rfl sc_law.nd (ilx_c (ilx_rg1 (by rfl) B.b_range (abx_cons (bx_var (i := 2) rfl (by first | exact Or.inl rfl | exact Or.inr (Or.inr rfl) | exact Or.inr (Or.inl rfl))) abx_nil))) (blkOk_by (by kernel_rfl)) (by decide) (fun _ _ _ _ _ => (gx_nm (i := 21) sc_law.nd rfl (by first | exact Or.inl rfl | exact Or.inr rfl))) (fun _ _ _ _ _ => pts_no) (fun _ _ _ _ _ => (ex_op osub (bx (ex_op omod (bx (ex_callTy cint (by rfl) B.b_int (by decide +kernel) (abx_cons (bx (ex_ix (bx_var (i := 1) rfl (by first | exact Or.inl rfl | exact Or.inr (Or.inr rfl) | exact Or.inr (Or.inl rfl))) (bx (ex_op oadd (bx_var (i := 20) rfl (by first | exact Or.inl rfl | exact Or.inr (Or.inr rfl) | exact Or.inr (Or.inl rfl))) (bx_var (i := 21) rfl (by first | exact Or.inl rfl | exact Or.inr (Or.inr rfl) | exact Or.inr (Or.inl rfl))))) (fun _ _ => rfl))) abx_nil))) (bx ex_int))) (bx ex_int)))))) abx_nil))))) (gx_tl rfl (gsx_cons (gx_nm (i := 3) sc_law.nd rfl (Or.inr rfl)) (gsx_cons (gx_nm (i := 4) sc_law.nd rfl (Or.inl rfl)) (gsx_cons (gx_nm (i := 5) sc_law.nd rfl (Or.inl rfl)) gsx_nil))) (gsl_cons (gsl_cons (gsl_cons gsl_nil))))) (ssx_cons (sx_set (i := 6) sc_law.nd rfl (Or.inr rfl) (ex_fnT c_l_way hr (by decide) (by rfl) (ax_cons (ex_var (i := 1) rfl (Or.inr (Or.inl rfl))) (ax_cons ex_int (ax_cons (ex_var (i := 2) rfl (Or.inr (Or.inl rfl))) ax_nil))))) (ssx_cons (sx_par3N (i := 7) (j := 8) (l := 9) rfl sc_law.nd rfl rfl rfl (by decide) (by decide) (by decide) rfl rfl rfl (nx_v (ex_fnT c_far hr (by decide) (by rfl) (ax_cons (ex_var (i := 6) rfl (Or.inr (Or.inl rfl))) (ax_cons (ex_var (i := 3) rfl (Or.inr (Or.inl rfl))) (ax_cons (ex_var (i := 5) rfl (Or.inl rfl)) ax_nil))))) (nx_v (ex_fnT c_far hr (by decide) (by rfl) (ax_cons (ex_var (i := 6) rfl (Or.inr (Or.inl rfl))) (ax_cons (ex_var (i := 3) rfl (Or.inr (Or.inl rfl))) (ax_cons (ex_var (i := 4) rfl (Or.inl rfl)) ax_nil))))) (nx_v (ex_fnT c_far hr (by decide) (by rfl) (ax_cons (ex_var (i := 6) rfl (Or.inr (Or.inl rfl))) (ax_cons (ex_var (i := 4) rfl (Or.inl rfl)) (ax_cons (ex_var (i := 5) rfl (Or.inl rfl)) ax_nil))))) (by rfl)) (ssx_cons (sx_if (PW.pt (wx_or (tx_not (tx_tru (bx (ex_fnT c_l_like hr (by decide) (by rfl) (ax_cons (ex_var (i := 7) rfl (Or.inl rfl)) (ax_cons (ex_fnT c_l_far hr (by decide) (by rfl) (ax_cons (ex_var (i := 6) rfl (Or.inr (Or.inl rfl))) (ax_cons (ex_var (i := 3) rfl (Or.inr (Or.inl rfl))) (ax_cons (ex_var (i := 5) rfl (Or.inl rfl)) ax_nil)))) ax_nil)))))) (wx_or (tx_not (tx_tru (bx (ex_fnT c_l_like hr (by decide) (by rfl) (ax_cons (ex_var (i := 8) rfl (Or.inl rfl)) (ax_cons (ex_fnT c_l_far hr (by decide) (by rfl) (ax_cons (ex_var (i := 6) rfl (Or.inr (Or.inl rfl))) (ax_cons (ex_var (i := 3) rfl (Or.inr (Or.inl rfl))) (ax_cons (ex_var (i := 4) rfl (Or.inl rfl)) ax_nil)))) ax_nil)))))) (wx_or1 (tx_not (tx_tru (bx (ex_fnT c_l_like hr (by decide) (by rfl) (ax_cons (ex_fnT c_far hr (by decide) (by rfl) (ax_cons (ex_var (i := 6) rfl (Or.inr (Or.inl rfl))) (ax_cons (ex_var (i := 5) rfl (Or.inl rfl)) (ax_cons (ex_var (i := 3) rfl (Or.inr (Or.inl rfl))) ax_nil)))) (ax_cons (ex_var (i := 7) rfl (Or.inl rfl)) ax_nil)))))))))) (ssx_one (sx_ret ex_bl)) ssx_nil) (ssx_cons (sx_if (PW.pt (wx_or (tx_cmp (one hr.units) (bx (ex_cmp (oeq hr.units) (bx_var (i := 7) rfl (Or.inl rfl)) (bx ex_int) (nomark _))) (bx (ex_cmp (oeq hr.units) (bx_var (i := 3) rfl (Or.inr (Or.inl rfl))) (bx_var (i := 5) rfl (Or.inl rfl)) (nomark _))) (nomark _)) (wx_or1 (tx_not (tx_tru (bx (ex_fnT c_l_like hr (by decide) (by rfl) (ax_cons (ex_fnT c_far hr (by decide) (by rfl) (ax_cons (ex_var (i := 6) rfl (Or.inr (Or.inl rfl))) (ax_cons (ex_var (i := 3) rfl (Or.inr (Or.inl rfl))) (ax_cons (ex_var (i := 3) rfl (Or.inr (Or.inl rfl))) ax_nil)))) (ax_cons ex_int ax_nil))))))))) (ssx_one (sx_ret ex_bl)) ssx_nil) (ssx_cons (sx_set (i := 10) sc_law.nd rfl (Or.inl rfl) (ex_or (ex_cmp (oeq hr.units) (bx_var (i := 6) rfl (Or.inr (Or.inl rfl))) (bx ex_str) (nomark _)) (ex_one (ex_and (ex_isi kit_tuple (by rfl) B.b_isinstance (bx_var (i := 6) rfl (Or.inr (Or.inl rfl))) (by rfl) B.b_tuple (by decide +kernel)) (ex_one (ex_cmp (oeq hr.units) (bx (ex_ix (bx_var (i := 6) rfl (Or.inr (Or.inl rfl))) (bx ex_int) (fun _ _ => rfl))) (bx ex_str) (nomark _))))))) (ssx_cons (sx_if (PW.pt (wx_or (PW.pt (wx_and (tx_tru (bx_var (i := 10) rfl (Or.inl rfl))) (wx_and1 (tx_cmp oisnB (bx (ex_fnT c_keeps_turn hr (by decide) (by rfl) (ax_cons (ex_var (i := 7) rfl (Or.inl rfl)) (ax_cons (ex_var (i := 8) rfl (Or.inl rfl)) (ax_cons (ex_var (i := 9) rfl (Or.inl rfl)) ax_nil))))) (bx ex_bl) (nomark _))))) (wx_or1 (PW.pt (wx_and (tx_not (tx_tru (bx_var (i := 10) rfl (Or.inl rfl)))) (wx_and1 (tx_cmp ogt (bx_var (i := 7) rfl (Or.inl rfl)) (bx (ex_op oadd (bx_var (i := 8) rfl (Or.inl rfl)) (bx_var (i := 9) rfl (Or.inl rfl)))) (nomark _)))))))) (ssx_one (sx_ret ex_bl)) ssx_nil) (ssx_cons (sx_par3N (i := 11) (j := 12) (l := 13) rfl sc_law.nd rfl rfl rfl (by decide) (by decide) (by decide) rfl rfl rfl (nx_v (ex_callTy cint (by rfl) B.b_int (by decide +kernel) (abx_cons (bx (ex_ix (bx_var (i := 1) rfl (Or.inr (Or.inl rfl))) (bx ex_int) (fun _ _ => rfl))) abx_nil))) (nx_v (ex_callTy cint (by rfl) B.b_int (by decide +kernel) (abx_cons (bx (ex_ix (bx_var (i := 1) rfl (Or.inr (Or.inl rfl))) (bx ex_int) (fun _ _ => rfl))) abx_nil))) (nx_v (ex_callTy cint (by rfl) B.b_int (by decide +kernel) (abx_cons (bx (ex_ix (bx_var (i := 1) rfl (Or.inr (Or.inl rfl))) (bx ex_int) (fun _ _ => rfl))) abx_nil))) (by rfl)) (ssx_cons (sx_if (tx_cmp (oeq hr.units) (bx (ex_op omod (bx (ex_ix (bx_var (i := 1) rfl (Or.inr (Or.inl rfl))) (bx ex_int) (fun _ _ => rfl))) (bx ex_int))) (bx ex_int) (nomark _)) (ssx_cons (sx_parN (i := 12) (j := 13) rfl sc_law.nd rfl rfl (by decide) rfl rfl (nx_v (ex_op omod (bx (ex_callTy cint (by rfl) B.b_int (by decide +kernel) (abx_cons (bx (ex_ix (bx_var (i := 1) rfl (Or.inr (Or.inl rfl))) (bx ex_int) (fun _ _ => rfl))) abx_nil))) (bx ex_int))) (nx_v (ex_op omod (bx (ex_callTy cint (by rfl) B.b_int (by decide +kernel) (abx_cons (bx (ex_ix (bx_var (i := 1) rfl (Or.inr (Or.inl rfl))) (bx ex_int) (fun _ _ => rfl))) abx_nil))) (bx ex_int))) (by rfl)) (ssx_cons (sx_set (i := 11) sc_law.nd rfl (Or.inl rfl) (ex_op osub (bx (ex_op oadd (bx (ex_op oadd (bx (ex_op oadd (bx (ex_op omul (bx_var (i := 12) rfl (Or.inl rfl)) (bx_var (i := 12) rfl (Or.inl rfl)))) (bx (ex_op omul (bx (ex_op omul (bx ex_int) (bx_var (i := 12) rfl (Or.inl rfl)))) (bx_var (i := 13) rfl (Or.inl rfl)))))) (bx (ex_op omul (bx_var (i := 13) rfl (Or.inl rfl)) (bx_var (i := 13) rfl (Or.inl rfl)))))) (bx (ex_op omod (bx (ex_callTy cint (by rfl) B.b_int (by decide +kernel) (abx_cons (bx (ex_ix (bx_var (i := 1) rfl (Or.inr (Or.inl rfl))) (bx ex_int) (fun _ _ => rfl))) abx_nil))) (bx ex_int))))) (bx ex_int))) (ssx_one (sx_parN (i := 12) (j := 13) rfl sc_law.nd rfl rfl (by decide) rfl rfl (nx_v (ex_op omul (bx_var (i := 12) rfl (Or.inl rfl)) (bx_var (i := 12) rfl (Or.inl rfl)))) (nx_v (ex_op omul (bx_var (i := 13) rfl (Or.inl rfl)) (bx_var (i := 13) rfl (Or.inl rfl)))) (by rfl))))) ssx_nil) (ssx_cons (sx_set (i := 14) sc_law.nd rfl (Or.inl rfl) (ex_or (ex_cmp ole (bx (ex_op osub (bx (ex_op osub (bx_var (i := 11) rfl (Or.inl rfl)) (bx_var (i := 12) rfl (Or.inl rfl)))) (bx_var (i := 13) rfl (Or.inl rfl)))) (bx ex_int) (nomark _)) (ex_one (ex_cmp ole (bx (ex_op omul (bx (ex_op osub (bx (ex_op osub (bx_var (i := 11) rfl (Or.inl rfl)) (bx_var (i := 12) rfl (Or.inl rfl)))) (bx_var (i := 13) rfl (Or.inl rfl)))) (bx (ex_op osub (bx (ex_op osub (bx_var (i := 11) rfl (Or.inl rfl)) (bx_var (i := 12) rfl (Or.inl rfl)))) (bx_var (i := 13) rfl (Or.inl rfl)))))) (bx (ex_op omul (bx (ex_op omul (bx ex_int) (bx_var (i := 12) rfl (Or.inl rfl)))) (bx_var (i := 13) rfl (Or.inl rfl)))) (nomark _))))) (ssx_cons (sx_if (PW.pt (wx_and (tx_cmp oge (bx_var (i := 11) rfl (Or.inl rfl)) (bx ex_int) (nomark _)) (wx_and1 (tx_not (tx_tru (bx (ex_fnT c_l_like hr (by decide) (by rfl) (ax_cons (ex_fnT c_keeps_turn hr (by decide) (by rfl) (ax_cons (ex_var (i := 11) rfl (Or.inl rfl)) (ax_cons (ex_var (i := 12) rfl (Or.inl rfl)) (ax_cons (ex_var (i := 13) rfl (Or.inl rfl)) ax_nil)))) (ax_cons (ex_var (i := 14) rfl (Or.inl rfl)) ax_nil))))))))) (ssx_one (sx_ret ex_bl)) ssx_nil) (ssx_cons (sx_setO (i := 15) sc_law.nd rfl (Or.inl rfl) (fx_lst ax_nil)) (ssx_cons (sx_for PassesOwn.never rfl (ilx_rg1 (by rfl) B.b_range (abx_cons (bx_var (i := 2) rfl (Or.inr (Or.inl rfl))) abx_nil)) (gx_nm (i := 16) sc_law.nd rfl (Or.inr rfl)) (ssx_one (sx_app (i := 15) rfl (Or.inl rfl) (ex_callTy ctuple (by rfl) B.b_tuple (by decide +kernel) (abx_cons (bx (ex_f (fx_lc (own := [("j", 21)]) rfl sc_law.nd (ilx_c (ilx_rg1 (by rfl) B.b_range (abx_cons (bx_var (i := 2) rfl (Or.inr (Or.inl rfl))) abx_nil))) (blkOk_by (by kernel_rfl)) (by decide) (fun _ _ _ _ _ => (gx_nm (i := 21) sc_law.nd rfl (by first | exact Or.inl rfl | exact Or.inr rfl))) (fun _ _ _ _ _ => pts_no) (fun _ _ _ _ _ => (ex_callTy cint (by rfl) B.b_int (by decide +kernel) (abx_cons (bx (ex_cmp (oeq hr.units) (bx_var (i := 16) rfl (by first | exact Or.inl rfl | exact Or.inr (Or.inr rfl) | exact Or.inr (Or.inl rfl))) (bx_var (i := 21) rfl (by first | exact Or.inl rfl | exact Or.inr (Or.inr rfl) | exact Or.inr (Or.inl rfl))) (nomark _))) abx_nil)))))) abx_nil))))) (ssx_cons (sx_set (i := 15) sc_law.nd rfl (Or.inl rfl) (ex_callTy ctuple (by rfl) B.b_tuple (by decide +kernel) (abx_cons (bx_var (i := 15) rfl (Or.inl rfl)) abx_nil))) (ssx_cons (sx_frz (is := [15]) (sx_if (PW.pt (wx_or (tx_cmp (one hr.units) (bx (ex_fnT c_far hr (by decide) (by rfl) (ax_cons (ex_tup (ax_cons ex_str (ax_cons (ex_var (i := 15) rfl (Or.inl rfl)) ax_nil))) (ax_cons (ex_var (i := 3) rfl (Or.inr (Or.inl rfl))) (ax_cons (ex_var (i := 4) rfl (Or.inl rfl)) ax_nil))))) (bx (ex_fnT c_far hr (by decide) (by rfl) (ax_cons ex_str (ax_cons (ex_var (i := 3) rfl (Or.inr (Or.inl rfl))) (ax_cons (ex_var (i := 4) rfl (Or.inl rfl)) ax_nil))))) (nomark _)) (wx_or1 (tx_cmp (one hr.units) (bx (ex_fnT c_far hr (by decide) (by rfl) (ax_cons (ex_tup (ax_cons ex_str (ax_cons (ex_op omulA (bx (ex_tup (ax_cons ex_int ax_nil))) (bx_var (i := 2) rfl (Or.inr (Or.inl rfl)))) ax_nil))) (ax_cons (ex_var (i := 3) rfl (Or.inr (Or.inl rfl))) (ax_cons (ex_var (i := 4) rfl (Or.inl rfl)) ax_nil))))) (bx (ex_fnT c_far hr (by decide) (by rfl) (ax_cons ex_str (ax_cons (ex_var (i := 3) rfl (Or.inr (Or.inl rfl))) (ax_cons (ex_var (i := 4) rfl (Or.inl rfl)) ax_nil))))) (nomark _))))) (ssx_one (sx_ret ex_bl)) ssx_nil)) (ssx_cons (sx_set (i := 17) sc_law.nd rfl (Or.inl rfl) (ex_tup (ax_cons (ex_tup (ax_cons ex_int (ax_cons (ex_var (i := 3) rfl (Or.inr (Or.inl rfl))) (ax_cons ex_int ax_nil)))) (ax_cons (ex_tup (ax_cons ex_int (ax_cons (ex_var (i := 4) rfl (Or.inl rfl)) (ax_cons ex_int ax_nil)))) (ax_cons (ex_tup (ax_cons ex_int (ax_cons (ex_var (i := 5) rfl (Or.inl rfl)) (ax_cons ex_int ax_nil)))) ax_nil))))) (ssx_cons (sx_set (i := 18) sc_law.nd rfl (Or.inl rfl) (ex_f (fx_callB (csortA (room65 hr)) (by rfl) B.b_sorted (by decide +kernel) (abx_cons (bx (ex_f (fx_lc (own := [("key", 22), ("kept", 23), ("tag", 24)]) rfl sc_law.nd (icx_seq (bx_var (i := 17) rfl (Or.inl rfl))) (blkOk_by (by kernel_rfl)) (by decide) (fun _ _ _ _ _ => (gx_tp rfl (gsx_cons (gx_nm (i := 22) sc_law.nd rfl (by first | exact Or.inl rfl | exact Or.inr rfl)) (gsx_cons (gx_nm (i := 23) sc_law.nd rfl (by first | exact Or.inl rfl | exact Or.inr rfl)) (gsx_cons (gx_nm (i := 24) sc_law.nd rfl (by first | exact Or.inl rfl | exact Or.inr rfl)) gsx_nil))) (gsl_cons (gsl_cons (gsl_cons gsl_nil))))) (fun _ _ _ _ _ => pts_no) (fun _ _ _ _ _ => (ex_tup (ax_cons (ex_fnT c_l_far hr (by decide) (by rfl) (ax_cons (ex_var (i := 6) rfl (by first | exact Or.inl rfl | exact Or.inr (Or.inr rfl) | exact Or.inr (Or.inl rfl))) (ax_cons (ex_var (i := 3) rfl (by first | exact Or.inl rfl | exact Or.inr (Or.inr rfl) | exact Or.inr (Or.inl rfl))) (ax_cons (ex_var (i := 23) rfl (by first | exact Or.inl rfl | exact Or.inr (Or.inr rfl) | exact Or.inr (Or.inl rfl))) ax_nil)))) (ax_cons (ex_var (i := 22) rfl (by first | exact Or.inl rfl | exact Or.inr (Or.inr rfl) | exact Or.inr (Or.inl rfl))) ax_nil))))))) abx_nil)))) (ssx_cons (sx_set (i := 19) sc_law.nd rfl (Or.inl rfl) (ex_op omod (bx (ex_callTy cint (by rfl) B.b_int (by decide +kernel) (abx_cons (bx (ex_ix (bx_var (i := 1) rfl (Or.inr (Or.inl rfl))) (bx ex_int) (fun _ _ => rfl))) abx_nil))) (bx ex_int))) (ssx_one (sx_ret (ex_fnT c_l_like hr (by decide) (by rfl) (ax_cons (ex_fnT c_nearest hr (by decide) (by rfl) (ax_cons (ex_var (i := 17) rfl (Or.inl rfl)) (ax_cons (ex_var (i := 3) rfl (Or.inr (Or.inl rfl))) (ax_cons (ex_var (i := 6) rfl (Or.inr (Or.inl rfl))) (ax_cons (ex_var (i := 19) rfl (Or.inl rfl)) ax_nil))))) (ax_cons (ex_callTy ctuple (by rfl) B.b_tuple (by decide +kernel) (abx_cons (bx (ex_sl (bx_var (i := 18) rfl (Or.inl rfl)) ox_no (ox_yes (bx_var (i := 19) rfl (Or.inl rfl))))) abx_nil)) ax_nil))))))))))))))))))))))))))

theorem all_mk {l : PySem.W.OpenLaw} {w : World} {K : PySem.W.Frag} {h : Heap} {mg : Str → Option Value} {fa : Addr} (X : K.In h) (G : h.Ns mainGlobals mg) (hfa : mg "law" = some (.ref fa))
    {f0 : Addr} {od0 an0 : Option Addr} {sl0 : Array (Option Value)} {oc0 kV0 dc0 pm0 cd0 ct0 : Value}
    (a0 : PySem.W.nsIn K mainGlobals "far" = some (some (.ref f0))) (l0 : K.lookup f0 = some ⟨oc0, od0, .func (PySem.W.fnOf "far" "far" (defArgs s_far) (defBody s_far) (defScope s_far) .none kV0 dc0 pm0 an0 cd0 ct0), sl0⟩) (c0 : PySem.W.codeIn K cd0 "far" = true) (k0 : PySem.W.keepIn K (.ref f0) = true)
    {f1 : Addr} {od1 an1 : Option Addr} {sl1 : Array (Option Value)} {oc1 kV1 dc1 pm1 cd1 ct1 : Value}
    (a1 : PySem.W.nsIn K mainGlobals "keeps_turn" = some (some (.ref f1))) (l1 : K.lookup f1 = some ⟨oc1, od1, .func (PySem.W.fnOf "keeps_turn" "keeps_turn" (defArgs s_keeps_turn) (defBody s_keeps_turn) (defScope s_keeps_turn) .none kV1 dc1 pm1 an1 cd1 ct1), sl1⟩) (c1 : PySem.W.codeIn K cd1 "keeps_turn" = true) (k1 : PySem.W.keepIn K (.ref f1) = true)
    {f2 : Addr} {od2 an2 : Option Addr} {sl2 : Array (Option Value)} {oc2 kV2 dc2 pm2 cd2 ct2 : Value}
    (a2 : PySem.W.nsIn K mainGlobals "told_pairs" = some (some (.ref f2))) (l2 : K.lookup f2 = some ⟨oc2, od2, .func (PySem.W.fnOf "told_pairs" "told_pairs" (defArgs s_told_pairs) (defBody s_told_pairs) (defScope s_told_pairs) .none kV2 dc2 pm2 an2 cd2 ct2), sl2⟩) (c2 : PySem.W.codeIn K cd2 "told_pairs" = true) (k2 : PySem.W.keepIn K (.ref f2) = true)
    {f3 : Addr} {od3 an3 : Option Addr} {sl3 : Array (Option Value)} {oc3 kV3 dc3 pm3 cd3 ct3 : Value}
    (a3 : PySem.W.nsIn K mainGlobals "nearest" = some (some (.ref f3))) (l3 : K.lookup f3 = some ⟨oc3, od3, .func (PySem.W.fnOf "nearest" "nearest" (defArgs s_nearest) (defBody s_nearest) (defScope s_nearest) .none kV3 dc3 pm3 an3 cd3 ct3), sl3⟩) (c3 : PySem.W.codeIn K cd3 "nearest" = true) (k3 : PySem.W.keepIn K (.ref f3) = true)
    {f4 : Addr} {od4 an4 : Option Addr} {sl4 : Array (Option Value)} {oc4 kV4 dc4 pm4 cd4 ct4 : Value}
    (a4 : PySem.W.nsIn K mainGlobals "_law_mixed" = some (some (.ref f4))) (l4 : K.lookup f4 = some ⟨oc4, od4, .func (PySem.W.fnOf "_law_mixed" "_law_mixed" (defArgs s_l_mixed) (defBody s_l_mixed) (defScope s_l_mixed) .none kV4 dc4 pm4 an4 cd4 ct4), sl4⟩) (c4 : PySem.W.codeIn K cd4 "_law_mixed" = true) (k4 : PySem.W.keepIn K (.ref f4) = true)
    {f5 : Addr} {od5 an5 : Option Addr} {sl5 : Array (Option Value)} {oc5 kV5 dc5 pm5 cd5 ct5 : Value}
    (a5 : PySem.W.nsIn K mainGlobals "_law_row" = some (some (.ref f5))) (l5 : K.lookup f5 = some ⟨oc5, od5, .func (PySem.W.fnOf "_law_row" "_law_row" (defArgs s_l_row) (defBody s_l_row) (defScope s_l_row) .none kV5 dc5 pm5 an5 cd5 ct5), sl5⟩) (c5 : PySem.W.codeIn K cd5 "_law_row" = true) (k5 : PySem.W.keepIn K (.ref f5) = true)
    {f6 : Addr} {od6 an6 : Option Addr} {sl6 : Array (Option Value)} {oc6 kV6 dc6 pm6 cd6 ct6 : Value}
    (a6 : PySem.W.nsIn K mainGlobals "_law_is_int" = some (some (.ref f6))) (l6 : K.lookup f6 = some ⟨oc6, od6, .func (PySem.W.fnOf "_law_is_int" "_law_is_int" (defArgs s_l_is_int) (defBody s_l_is_int) (defScope s_l_is_int) .none kV6 dc6 pm6 an6 cd6 ct6), sl6⟩) (c6 : PySem.W.codeIn K cd6 "_law_is_int" = true) (k6 : PySem.W.keepIn K (.ref f6) = true)
    {f7 : Addr} {od7 an7 : Option Addr} {sl7 : Array (Option Value)} {oc7 kV7 dc7 pm7 cd7 ct7 : Value}
    (a7 : PySem.W.nsIn K mainGlobals "_law_like" = some (some (.ref f7))) (l7 : K.lookup f7 = some ⟨oc7, od7, .func (PySem.W.fnOf "_law_like" "_law_like" (defArgs s_l_like) (defBody s_l_like) (defScope s_l_like) .none kV7 dc7 pm7 an7 cd7 ct7), sl7⟩) (c7 : PySem.W.codeIn K cd7 "_law_like" = true) (k7 : PySem.W.keepIn K (.ref f7) = true)
    {f8 : Addr} {od8 an8 : Option Addr} {sl8 : Array (Option Value)} {oc8 kV8 dc8 pm8 cd8 ct8 : Value}
    (a8 : PySem.W.nsIn K mainGlobals "_law_way" = some (some (.ref f8))) (l8 : K.lookup f8 = some ⟨oc8, od8, .func (PySem.W.fnOf "_law_way" "_law_way" (defArgs s_l_way) (defBody s_l_way) (defScope s_l_way) .none kV8 dc8 pm8 an8 cd8 ct8), sl8⟩) (c8 : PySem.W.codeIn K cd8 "_law_way" = true) (k8 : PySem.W.keepIn K (.ref f8) = true)
    {f9 : Addr} {od9 an9 : Option Addr} {sl9 : Array (Option Value)} {oc9 kV9 dc9 pm9 cd9 ct9 : Value}
    (a9 : PySem.W.nsIn K mainGlobals "_law_far" = some (some (.ref f9))) (l9 : K.lookup f9 = some ⟨oc9, od9, .func (PySem.W.fnOf "_law_far" "_law_far" (defArgs s_l_far) (defBody s_l_far) (defScope s_l_far) .none kV9 dc9 pm9 an9 cd9 ct9), sl9⟩) (c9 : PySem.W.codeIn K cd9 "_law_far" = true) (k9 : PySem.W.keepIn K (.ref f9) = true)
    {f10 : Addr} {od10 an10 : Option Addr} {sl10 : Array (Option Value)} {oc10 kV10 dc10 pm10 cd10 ct10 : Value}
    (a10 : PySem.W.nsIn K mainGlobals "law" = some (some (.ref f10))) (l10 : K.lookup f10 = some ⟨oc10, od10, .func (PySem.W.fnOf "law" "law" (defArgs s_law) (defBody s_law) (defScope s_law) .none kV10 dc10 pm10 an10 cd10 ct10), sl10⟩) (c10 : PySem.W.codeIn K cd10 "law" = true) (k10 : PySem.W.keepIn K (.ref f10) = true)
    (z0 : PySem.W.nsIn K mainGlobals "len" = some none)
    (z1 : PySem.W.nsIn K mainGlobals "range" = some none)
    (z2 : PySem.W.nsIn K mainGlobals "zip" = some none)
    (z3 : PySem.W.nsIn K mainGlobals "sum" = some none)
    (z4 : PySem.W.nsIn K mainGlobals "abs" = some none)
    (z5 : PySem.W.nsIn K mainGlobals "max" = some none)
    (z6 : PySem.W.nsIn K mainGlobals "sorted" = some none)
    (z7 : PySem.W.nsIn K mainGlobals "tuple" = some none)
    (z8 : PySem.W.nsIn K mainGlobals "int" = some none)
    (z9 : PySem.W.nsIn K mainGlobals "isinstance" = some none)
    (z10 : PySem.W.nsIn K mainGlobals "bool" = some none)
    (z11 : PySem.W.nsIn K mainGlobals "str" = some none)
    (z12 : PySem.W.nsIn K mainGlobals "all" = some none)
    : ∃ fd : FuncData, (∀ (s : Shared) (v : Value), BindsTo s fd ⟨[v], []⟩ [("script", v)]) ∧ ∀ base : Heap, K.In base → base.Ns mainGlobals mg → FnOk l.prog w K mg base CX0 10 fa fd ["script"] (spD K run_law 1) := by
  have e := hfa.symm.trans (PySem.W.mg_of X G a10)
  cases e
  have B : Bs mg := ⟨PySem.W.mg_none_of X G z0, PySem.W.mg_none_of X G z1, PySem.W.mg_none_of X G z2, PySem.W.mg_none_of X G z3, PySem.W.mg_none_of X G z4, PySem.W.mg_none_of X G z5, PySem.W.mg_none_of X G z6, PySem.W.mg_none_of X G z7, PySem.W.mg_none_of X G z8, PySem.W.mg_none_of X G z9, PySem.W.mg_none_of X G z10, PySem.W.mg_none_of X G z11, PySem.W.mg_none_of X G z12⟩
  have FL := fun_mk (st := s_law) l10 c10 k10
  refine ⟨PySem.W.fnOf "law" "law" (defArgs s_law) (defBody s_law) (defScope s_law) .none kV10 dc10 pm10 an10 cd10 ct10, fun s v => .of_eq rfl, fun base _ _ => ?_⟩
  have q_far := ok_far (P := l.prog) (w := w) (base := base) B (funt_mk (st := s_far) X G a0 l0 c0 k0)
  have q_keeps_turn := ok_keeps_turn (P := l.prog) (w := w) (base := base) B (funt_mk (st := s_keeps_turn) X G a1 l1 c1 k1)
  have q_told_pairs := ok_told_pairs (P := l.prog) (w := w) (base := base) B (funt_mk (st := s_told_pairs) X G a2 l2 c2 k2) q_far
  have q_nearest := ok_nearest (P := l.prog) (w := w) (base := base) B (funt_mk (st := s_nearest) X G a3 l3 c3 k3) q_told_pairs
  have q_l_mixed := ok_l_mixed (P := l.prog) (w := w) (base := base) B (funt_mk (st := s_l_mixed) X G a4 l4 c4 k4)
  have q_l_row := ok_l_row (P := l.prog) (w := w) (base := base) B (funt_mk (st := s_l_row) X G a5 l5 c5 k5) q_l_mixed
  have q_l_is_int := ok_l_is_int (P := l.prog) (w := w) (base := base) B (funt_mk (st := s_l_is_int) X G a6 l6 c6 k6)
  have q_l_like := ok_l_like (P := l.prog) (w := w) (base := base) B (funt_mk (st := s_l_like) X G a7 l7 c7 k7) q_l_is_int 8
  have q_l_way := ok_l_way (P := l.prog) (w := w) (base := base) B (funt_mk (st := s_l_way) X G a8 l8 c8 k8)
  have q_l_far := ok_l_far (P := l.prog) (w := w) (base := base) B (funt_mk (st := s_l_far) X G a9 l9 c9 k9)
  exact okf_law (P := l.prog) (w := w) (base := base) B FL q_l_like q_nearest q_l_far q_far q_keeps_turn q_l_way q_l_row
end
end K01

set_option Elab.async false
set_option linter.all false
set_option maxRecDepth 100000
namespace PD
open PySem L2
/-! ### far, and the law's own sum -/
def b_far : Cmd :=
    (sSeq (sSet 3 (asL (fLc [5, 6] (iZipD (aCons (bVar 1) (aCons (bVar 2) aNil))) (gTp (gsCons (gNm 5) (gsCons (gNm 6) gsNil))) tYesF (eOp gSub (bVar 5) (bVar 6)))))
    (sSeq (sIf (asB (eOp gEq (bVar 0) (eC (.str (PySem.Str.ofString "steps")))))
    (sRet (eCall gSum (aCons (asL (fLc [7] (iSeq (bVar 3)) (gNm 7) tYesF (eCall gAbs (aCons (bVar 7) aNil)))) aNil)))
    sNop)
    (sSeq (sIf (asB (eOp gEq (bVar 0) (eC (.str (PySem.Str.ofString "air")))))
    (sRet (eCall gSum (aCons (asL (fLc [7] (iSeq (bVar 3)) (gNm 7) tYesF (eOp gMul (bVar 7) (bVar 7)))) aNil)))
    sNop)
    (sSeq (sIf (asB (eOp gEq (bVar 0) (eC (.str (PySem.Str.ofString "widest")))))
    (sRet (eCall gMaxI (aCons (asL (fLc [7] (iSeq (bVar 3)) (gNm 7) tYesF (eCall gAbs (aCons (bVar 7) aNil)))) aNil)))
    sNop)
    (sSeq (sIf (asB (eOp gEq (bVar 0) (eC (.str (PySem.Str.ofString "unlike")))))
    (sRet (eCall gLen (aCons (asL (fLc [7] (iSeq (bVar 3)) (gNm 7) (asB (eOp gNe (bVar 7) (eC (.int 0)))) (eC (.int 1)))) aNil)))
    sNop)
    (sSeq (sIf (asB (eOp gEq (eOp gIx (bVar 0) (eC (.int 0))) (eC (.str (PySem.Str.ofString "weights")))))
    (sRet (eCall gSum (aCons (asL (fLc [8, 7] (iZipD (aCons (eOp gIx (bVar 0) (eC (.int 1))) (aCons (bVar 3) aNil))) (gTp (gsCons (gNm 8) (gsCons (gNm 7) gsNil))) tYesF (eOp gMul (bVar 8) (eCall gAbs (aCons (bVar 7) aNil))))) aNil)))
    sNop)
    (sSeq (sSet 4 (eOp gIx (bVar 0) (eC (.int 1))))
    (sRet (eCall gSum (aCons (asL (fLc [9] (iRg1 (aCons (eCall gLen (aCons (bVar 3) aNil)) aNil)) (gNm 9) tYesF (eOp gMul (eOp gIx (bVar 3) (bVar 9)) (eCall gSum (aCons (asL (fLc [10, 7] (iZipD (aCons (eOp gIx (bVar 4) (bVar 9)) (aCons (bVar 3) aNil))) (gTp (gsCons (gNm 10) (gsCons (gNm 7) gsNil))) tYesF (eOp gMul (bVar 10) (bVar 7)))) aNil))))) aNil))))))))))
def run_far : List D → Option D := runC 3 8 b_far
def b_l_far : Cmd :=
    (sSeq (sSet 3 (asL (fLc [6] (iRg1 (aCons (eCall gLen (aCons (bVar 1) aNil)) aNil)) (gNm 6) tYesF (eOp gSub (eOp gIx (bVar 1) (bVar 6)) (eOp gIx (bVar 2) (bVar 6))))))
    (sSeq (sIf (asB (eOp gEq (bVar 0) (eC (.str (PySem.Str.ofString "steps")))))
    (sRet (eCall gSum (aCons (asL (fLc [7] (iSeq (bVar 3)) (gNm 7) tYesF (eCall gAbs (aCons (bVar 7) aNil)))) aNil)))
    sNop)
    (sSeq (sIf (asB (eOp gEq (bVar 0) (eC (.str (PySem.Str.ofString "air")))))
    (sRet (eCall gSum (aCons (asL (fLc [7] (iSeq (bVar 3)) (gNm 7) tYesF (eOp gMul (bVar 7) (bVar 7)))) aNil)))
    sNop)
    (sSeq (sIf (asB (eOp gEq (bVar 0) (eC (.str (PySem.Str.ofString "widest")))))
    (sRet (eCall gMaxI (aCons (asL (fLc [7] (iSeq (bVar 3)) (gNm 7) tYesF (eCall gAbs (aCons (bVar 7) aNil)))) aNil)))
    sNop)
    (sSeq (sIf (asB (eOp gEq (bVar 0) (eC (.str (PySem.Str.ofString "unlike")))))
    (sRet (eCall gLen (aCons (asL (fLc [7] (iSeq (bVar 3)) (gNm 7) (asB (eOp gNe (bVar 7) (eC (.int 0)))) (eVar 7))) aNil)))
    sNop)
    (sSeq (sIf (asB (eOp gEq (eOp gIx (bVar 0) (eC (.int 0))) (eC (.str (PySem.Str.ofString "weights")))))
    (sRet (eCall gSum (aCons (asL (fLc [6] (iRg1 (aCons (eCall gLen (aCons (bVar 1) aNil)) aNil)) (gNm 6) tYesF (eOp gMul (eOp gIx (eOp gIx (bVar 0) (eC (.int 1))) (bVar 6)) (eCall gAbs (aCons (eOp gIx (bVar 3) (bVar 6)) aNil))))) aNil)))
    sNop)
    (sSeq (sSet 4 (eC (.int 0)))
    (sSeq (sFor (iRg1 (aCons (eCall gLen (aCons (bVar 1) aNil)) aNil)) (gNm 5)
    (sSet 4 (eOp gAdd (bVar 4) (eOp gMul (eOp gIx (bVar 3) (bVar 5)) (eCall gSum (aCons (asL (fLc [8] (iRg1 (aCons (eCall gLen (aCons (bVar 1) aNil)) aNil)) (gNm 8) tYesF (eOp gMul (eOp gIx (eOp gIx (eOp gIx (bVar 0) (eC (.int 1))) (bVar 5)) (bVar 8)) (eOp gIx (bVar 3) (bVar 8))))) aNil))))))
    (sRet (eVar 4))))))))))
def run_l_far : List D → Option D := runC 3 6 b_l_far
def absI (i : Int) : Int := if i < 0 then -i else i
theorem absI_eq (i : Int) : absI i = if i < 0 then -i else i := rfl
/-- a way to tell distances -/
inductive Way where
  | steps | air | widest | unlike | weights (ws : List Int) | form (rows : List (List Int))
def sS (s : String) : D := .str (PySem.Str.ofString s)
def intT (ns : List Int) : D := .tup (ns.map D.int)
def Way.d : Way → D
  | .steps => sS "steps"
  | .air => sS "air"
  | .widest => sS "widest"
  | .unlike => sS "unlike"
  | .weights ws => .tup [sS "weights", intT ws]
  | .form rows => .tup [sS "form", .tup (rows.map intT)]
def dotI (u v : List Int) : Int := (List.zipWith (fun x y => x * y) u v).sum
def max0 : List Int → Int
  | [] => 0
  | x :: r => maxL x r
def Way.far : Way → List Int → Int
  | .steps, s => (s.map absI).sum
  | .air, s => (s.map fun x => x * x).sum
  | .widest, s => max0 (s.map absI)
  | .unlike, s => (s.filter fun x => !decide (x = 0)).length
  | .weights ws, s => (List.zipWith (fun w x => w * absI x) ws s).sum
  | .form rows, s => (List.zipWith (fun x r => x * dotI r s) s rows).sum
/-- a way for vectors of n numbers -/
def Way.ok (n : Nat) : Way → Prop
  | .widest => 0 < n
  | .weights ws => ws.length = n ∧ ∀ w ∈ ws, -1000000000 ≤ w ∧ w ≤ 1000000000
  | .form rows => rows.length = n ∧ ∀ r ∈ rows, r.length = n ∧ ∀ x ∈ r, -1000000000 ≤ x ∧ x ≤ 1000000000
  | _ => True
def small (ns : List Int) : Prop := ∀ x ∈ ns, -1000000000 ≤ x ∧ x ≤ 1000000000
def subI (u v : List Int) : List Int := List.zipWith (fun x y => x - y) u v
theorem zipL_ints (u v : List Int) : zipL (u.map D.int) (v.map D.int) = (u.zip v).map fun p => .tup [.int p.1, .int p.2] := by
  induction u generalizing v with
  | nil => simp [zipL]
  | cons x u ih =>
    cases v with
    | nil => simp [zipL]
    | cons y v => simp [zipL, ih]
theorem subI_zip (u v : List Int) : (u.zip v).map (fun p => p.1 - p.2) = subI u v := by
  unfold subI
  rw [List.zip_eq_zipWith, List.map_zipWith]
theorem subI_len {u v : List Int} (h : u.length = v.length) : (subI u v).length = u.length := by simp [subI, h]
theorem subI_small {u v : List Int} (hu : small u) (hv : small v) : ∀ x ∈ subI u v, -2000000000 ≤ x ∧ x ≤ 2000000000 := by
  intro x hx
  rw [← subI_zip] at hx
  obtain ⟨p, hp, rfl⟩ := List.mem_map.mp hx
  have h1 := hu p.1 (List.of_mem_zip hp).1
  have h2 := hv p.2 (List.of_mem_zip hp).2
  omega
theorem gEq_str {x y : Str} (hx : PyData.strOk x = true) (hy : PyData.strOk y = true) : gEq (.str x) (.str y) = some (.bl (x == y)) := by
  simp [gEq, okN, hx, hy, eqD, py, PyData.eqv]
theorem gEq_tup_str {xs : List D} {y : Str} (hx : okN 64 (.tup xs) = true) (hy : PyData.strOk y = true) : gEq (.tup xs) (.str y) = some (.bl false) := by
  unfold gEq
  rw [hx, show okN 64 (.str y) = true from hy]
  simp [eqD, py, PyData.eqv]
theorem okN_ints (n : Nat) (ns : List Int) : okN (n + 1) (intT ns) = true := by
  unfold intT
  simp only [okN, List.all_eq_true]
  intro x hx
  obtain ⟨i, _, rfl⟩ := List.mem_map.mp hx
  cases n <;> rfl
theorem okN_rows (n : Nat) (rows : List (List Int)) : okN (n + 2) (.tup (rows.map intT)) = true := by
  simp only [okN, List.all_eq_true]
  intro x hx
  obtain ⟨r, _, rfl⟩ := List.mem_map.mp hx
  exact okN_ints n r
theorem ok_w : PyData.strOk (PySem.Str.ofString "weights") = true := by decide +kernel
theorem ok_f : PyData.strOk (PySem.Str.ofString "form") = true := by decide +kernel
theorem way_ok (w : Way) : okN 64 w.d = true := by
  cases w with
  | steps => show PyData.strOk _ = true; decide +kernel
  | air => show PyData.strOk _ = true; decide +kernel
  | widest => show PyData.strOk _ = true; decide +kernel
  | unlike => show PyData.strOk _ = true; decide +kernel
  | weights ws =>
    show ([sS "weights", intT ws].all (okN 63)) = true
    simp only [List.all_cons, List.all_nil, Bool.and_true, Bool.and_eq_true]
    exact ⟨ok_w, okN_ints 62 ws⟩
  | form rows =>
    show ([sS "form", .tup (rows.map intT)].all (okN 63)) = true
    simp only [List.all_cons, List.all_nil, Bool.and_true, Bool.and_eq_true]
    exact ⟨ok_f, okN_rows 61 rows⟩
/-- a way's name, as the program asks for it -/
def Way.nm : Way → String
  | .steps => "steps"
  | .air => "air"
  | .widest => "widest"
  | .unlike => "unlike"
  | _ => ""
theorem bl_eq {a b : Bool} (h : a = b) : some (D.bl a) = some (D.bl b) := by rw [h]
theorem way_is (w : Way) (s : String) (hs : s ∈ ["steps", "air", "widest", "unlike"]) : gEq w.d (.str (PySem.Str.ofString s)) = some (.bl (decide (w.nm = s))) := by
  have hok : PyData.strOk (PySem.Str.ofString s) = true := by
    simp only [List.mem_cons, List.not_mem_nil, or_false] at hs
    rcases hs with rfl | rfl | rfl | rfl <;> decide +kernel
  cases w with
  | weights ws =>
    rw [show (Way.weights ws).d = .tup [sS "weights", intT ws] from rfl, gEq_tup_str (way_ok (.weights ws)) hok]
    simp only [List.mem_cons, List.not_mem_nil, or_false] at hs
    rcases hs with rfl | rfl | rfl | rfl <;> exact bl_eq (by simp [Way.nm])
  | form rows =>
    rw [show (Way.form rows).d = .tup [sS "form", .tup (rows.map intT)] from rfl, gEq_tup_str (way_ok (.form rows)) hok]
    simp only [List.mem_cons, List.not_mem_nil, or_false] at hs
    rcases hs with rfl | rfl | rfl | rfl <;> exact bl_eq (by simp [Way.nm])
  | _ =>
    simp only [Way.d, sS]
    rw [gEq_str (by decide +kernel) hok]
    simp only [List.mem_cons, List.not_mem_nil, or_false] at hs
    rcases hs with rfl | rfl | rfl | rfl <;> exact bl_eq (by decide +kernel)

theorem h_w : gEq (sS "weights") (.str (PySem.Str.ofString "weights")) = some (.bl true) := by
  rw [show sS "weights" = D.str (PySem.Str.ofString "weights") from rfl, gEq_str ok_w ok_w]
  exact bl_eq (by decide +kernel)
theorem h_f : gEq (sS "form") (.str (PySem.Str.ofString "weights")) = some (.bl false) := by
  rw [show sS "form" = D.str (PySem.Str.ofString "form") from rfl, gEq_str ok_f ok_w]
  exact bl_eq (by decide +kernel)

/-! the program's own -/
theorem far_steps {w : D} {u v : List Int} {r : List Sl} (hz : u.length ≤ 1000000) :
    asL (fLc [5, 6] (iZipD (aCons (bVar 1) (aCons (bVar 2) aNil))) (gTp (gsCons (gNm 5) (gsCons (gNm 6) gsNil))) tYesF (eOp gSub (bVar 5) (bVar 6))) [.val w, .val (intT u), .val (intT v), .un, .un, .un, .un, .un, .un, .un, .un] = some (.lst ((subI u v).map D.int)) := by
  have h := fLc_map (own := [5, 6]) (it := iZipD (aCons (bVar 1) (aCons (bVar 2) aNil))) (t := gTp (gsCons (gNm 5) (gsCons (gNm 6) gsNil))) (c := tYesF) (y := eOp gSub (bVar 5) (bVar 6)) (env := [.val w, .val (intT u), .val (intT v), .un, .un, .un, .un, .un, .un, .un, .un])
    (enc := fun p : Int × Int => .tup [.int p.1, .int p.2]) (g := fun p => .int (p.1 - p.2)) (xs := u.zip v) (by
      show (seqD (intT u)).bind (fun xs => (seqD (intT v)).bind fun ys => some (zipL xs ys)) = _
      show some (zipL (u.map D.int) (v.map D.int)) = _
      rw [zipL_ints]) (by rw [List.length_zip]; omega) (fun p _ => ⟨_, rfl, rfl, rfl⟩)
  rw [ev_asL, h, ← subI_zip, List.map_map]
  rfl
theorem lst_map {α : Type} {xs : List α} {f : α → Int} {g : α → D} (h : ∀ x, g x = D.int (f x)) : xs.map g = (xs.map f).map D.int := by
  rw [List.map_map]
  exact List.map_congr_left fun x _ => h x
theorem gMaxI_l (s : List Int) (h : 0 < s.length) : gMaxI [.lst (s.map D.int)] = some (.int (max0 s)) := by
  show ((intsOf (s.map D.int)).bind fun ns => match ns with
    | [] => none
    | n :: r => some (D.int (maxL n r))) = _
  rw [intsOf_map]
  cases s with
  | nil => cases h
  | cons x r => rfl
theorem nm_form (rows : List (List Int)) (s : String) (h : s ≠ "") : decide ((Way.form rows).nm = s) = false := decide_eq_false fun e => h e.symm
/-- a comprehension over the steps -/
theorem over_steps {i : Nat} {env : List Sl} {st : List Int} {f : Int → Int} {y : Fe} (h3 : env[3]? = some (.val (.lst (st.map D.int)))) (hz : st.length ≤ 1000000) (h : ∀ x ∈ st, y ((env.set i .un).set i (.val (.int x))) = some (.int (f x))) :
    asL (fLc [i] (iSeq (bVar 3)) (gNm i) tYesF y) env = some (.lst ((st.map f).map D.int)) := by
  have h' := fLc_map (own := [i]) (it := iSeq (bVar 3)) (t := gNm i) (c := tYesF) (y := y) (env := env) (enc := D.int) (g := fun x => .int (f x)) (xs := st) (by
      rw [ev_iseq, ev_bvar, h3]
      rfl) (by omega) (fun x hx => ⟨_, rfl, rfl, by rw [wipe_cons, wipe_nil]; exact h x hx⟩)
  rw [ev_asL, h', List.map_map]
  rfl
theorem zip_rng {α β : Type} (f : α → β → Int) (a0 : α) (b0 : β) (xs : List α) (ys : List β) (n : Nat) (h1 : xs.length = n) (h2 : ys.length = n) : (rngN n).map (fun i => f (xs.getD i.toNat a0) (ys.getD i.toNat b0)) = List.zipWith f xs ys := by
  apply List.ext_getElem
  · simp [rngN_len, h1, h2]
  · intro i q1 q2
    have l1 : i < xs.length := by
      rw [List.length_map, rngN_len] at q1
      omega
    have l2 : i < ys.length := by omega
    rw [List.getElem_map, List.getElem_zipWith]
    unfold rngN
    rw [List.getElem_map, List.getElem_range, Int.toNat_natCast]
    simp [List.getD, List.getElem?_eq_getElem l1, List.getElem?_eq_getElem l2]
theorem gIx_rows {rows : List (List Int)} {i : Int} (h0 : 0 ≤ i) (h1 : i < rows.length) : gIx (.tup (rows.map intT)) (.int i) = some (intT (rows.getD i.toNat [])) := by
  rw [gIx_t h0 (by rw [List.length_map]; exact h1), List.getElem?_map]
  have h : i.toNat < rows.length := by omega
  rw [List.getElem?_eq_getElem h]
  simp [List.getD, List.getElem?_eq_getElem h]
theorem getD_mem {α : Type} {xs : List α} {i : Nat} (a : α) (h : i < xs.length) : xs.getD i a ∈ xs := by
  simp [List.getD, List.getElem?_eq_getElem h]
theorem run_far_ok (w : Way) (u v : List Int) (hl : u.length = v.length) (hw : w.ok u.length) (hz : u.length ≤ 1000000) (hu : small u) (hv : small v) : run_far [w.d, intT u, intT v] = some (.int (w.far (subI u v))) := by
  have hs := subI_small hu hv
  have hn := subI_len hl
  generalize hst : subI u v = st at hs hn
  refine runC_rt rfl ?_
  refine seq_set (far_steps (r := []) hz) ?_
  rw [hst]
  simp only [List.map_cons, List.map_nil, List.cons_append, List.nil_append, List.replicate, List.set_cons_succ, List.set_cons_zero]
  have t1 := way_is w "steps" (by decide)
  have t2 := way_is w "air" (by decide)
  have t3 := way_is w "widest" (by decide)
  have t4 := way_is w "unlike" (by decide)
  have hz' : st.length ≤ 1000000 := by omega
  cases w with
  | steps =>
    refine seq_if1r (by simp [t1, Way.nm]) (run_ret ?_)
    rw [ev_call, ev_cons, over_steps (f := absI) rfl hz' (fun x hx => by simp [gAbs_i, absI])]
    simp only [Option.bind_some, ev_nil, gSum_l]
    rfl
  | air =>
    refine seq_if0 (by simp [t1, Way.nm]) ?_
    refine seq_if1r (by simp [t2, Way.nm]) (run_ret ?_)
    rw [ev_call, ev_cons, over_steps (f := fun x => x * x) rfl hz' (fun x hx => by
      have := hs x hx
      simp [gMul_i (mulOk_l (i := x) (j := x) (by omega) (by omega))])]
    simp only [Option.bind_some, ev_nil, gSum_l]
    rfl
  | widest =>
    refine seq_if0 (by simp [t1, Way.nm]) ?_
    refine seq_if0 (by simp [t2, Way.nm]) ?_
    refine seq_if1r (by simp [t3, Way.nm]) (run_ret ?_)
    rw [ev_call, ev_cons, over_steps (f := absI) rfl hz' (fun x hx => by simp [gAbs_i, absI])]
    have hp : 0 < (st.map absI).length := by
      rw [List.length_map, hn]
      exact hw
    simp only [Option.bind_some, ev_nil]
    exact gMaxI_l _ hp
  | unlike =>
    refine seq_if0 (by simp [t1, Way.nm]) ?_
    refine seq_if0 (by simp [t2, Way.nm]) ?_
    refine seq_if0 (by simp [t3, Way.nm]) ?_
    refine seq_if1r (by simp [t4, Way.nm]) (run_ret ?_)
    rw [ev_call, ev_cons, ev_asL, fLc_filter (enc := D.int) (g := fun _ => D.int 1) (p := fun x => !decide (x = 0)) (xs := st) (by rfl) (by omega) (fun x hx => ⟨_, rfl, by simp, fun _ => rfl⟩)]
    simp [Way.far]
  | weights ws =>
    refine seq_if0 (by simp [t1, Way.nm]) ?_
    refine seq_if0 (by simp [t2, Way.nm]) ?_
    refine seq_if0 (by simp [t3, Way.nm]) ?_
    refine seq_if0 (by simp [t4, Way.nm]) ?_
    have g0 : gIx (Way.weights ws).d (.int 0) = some (sS "weights") := rfl
    have g1 : gIx (Way.weights ws).d (.int 1) = some (intT ws) := rfl
    refine seq_if1r (by simp [g0, h_w]) (run_ret ?_)
    have hf := fLc_map (own := [8, 7]) (it := iZipD (aCons (eOp gIx (bVar 0) (eC (.int 1))) (aCons (bVar 3) aNil))) (t := gTp (gsCons (gNm 8) (gsCons (gNm 7) gsNil))) (c := tYesF) (y := eOp gMul (bVar 8) (eCall gAbs (aCons (bVar 7) aNil))) (env := [.val (Way.weights ws).d, .val (intT u), .val (intT v), .val (.lst (st.map D.int)), .un, .un, .un, .un, .un, .un, .un])
      (enc := fun p : Int × Int => .tup [.int p.1, .int p.2]) (g := fun p => .int (p.1 * absI p.2)) (xs := ws.zip st) (by
        show some (zipL (ws.map D.int) (st.map D.int)) = _
        rw [zipL_ints]) (by rw [List.length_zip]; omega) (fun p hp => by
        have h1 := hw.2 p.1 (List.of_mem_zip hp).1
        refine ⟨_, rfl, rfl, ?_⟩
        simp [gAbs_i, gMul_i (mulOk_l (i := p.1) (j := absI p.2) (by omega) (by omega)), ← absI_eq])
    rw [ev_call, ev_cons, ev_asL, hf, lst_map (f := fun p : Int × Int => p.1 * absI p.2) (fun _ => rfl)]
    simp only [Option.map_some, Option.bind_some, ev_nil, gSum_l]
    unfold Way.far
    rw [List.zip_eq_zipWith, List.map_zipWith]
  | form rows =>
    refine seq_if0 (by simp [t1, Way.nm]) ?_
    refine seq_if0 (by simp [t2, Way.nm]) ?_
    refine seq_if0 (by simp [t3, Way.nm]) ?_
    refine seq_if0 (by simp [t4, Way.nm]) ?_
    have g0 : gIx (Way.form rows).d (.int 0) = some (sS "form") := rfl
    have g1 : gIx (Way.form rows).d (.int 1) = some (.tup (rows.map intT)) := rfl
    refine seq_if0 (by simp [g0, h_f]) ?_
    refine seq_set (d := .tup (rows.map intT)) (by simp [g1]) ?_
    simp only [List.set_cons_succ, List.set_cons_zero]
    refine run_ret ?_
    have hr := ev_rg1 (fl := aCons (eCall gLen (aCons (bVar 3) aNil)) aNil) (env := [.val (Way.form rows).d, .val (intT u), .val (intT v), .val (.lst (st.map D.int)), .val (.tup (rows.map intT)), .un, .un, .un, .un, .un, .un]) (j := st.length) (by simp) (by omega) (by omega)
    have hf := fLc_map (own := [9]) (t := gNm 9) (c := tYesF) (y := eOp gMul (eOp gIx (bVar 3) (bVar 9)) (eCall gSum (aCons (asL (fLc [10, 7] (iZipD (aCons (eOp gIx (bVar 4) (bVar 9)) (aCons (bVar 3) aNil))) (gTp (gsCons (gNm 10) (gsCons (gNm 7) gsNil))) tYesF (eOp gMul (bVar 10) (bVar 7)))) aNil)))
      (g := fun i => D.int (st.getD i.toNat 0 * dotI (rows.getD i.toNat []) st)) hr (by rw [rngN_len]; omega) (fun i hi => by
        obtain ⟨i0, i1⟩ := mem_rngN hi
        have il : i.toNat < st.length := by omega
        have il2 : i.toNat < rows.length := by
          rw [hw.1]
          omega
        refine ⟨_, rfl, rfl, ?_⟩
        have e1 := gIx_li (ns := st) i0 (by omega)
        have e2 := gIx_rows (rows := rows) i0 (by omega)
        have b1 := hs _ (getD_mem 0 il)
        obtain ⟨lr, br⟩ := hw.2 _ (getD_mem [] il2)
        have hin := fLc_map (own := [10, 7]) (it := iZipD (aCons (eOp gIx (bVar 4) (bVar 9)) (aCons (bVar 3) aNil))) (t := gTp (gsCons (gNm 10) (gsCons (gNm 7) gsNil))) (c := tYesF) (y := eOp gMul (bVar 10) (bVar 7)) (env := [.val (Way.form rows).d, .val (intT u), .val (intT v), .val (.lst (st.map D.int)), .val (.tup (rows.map intT)), .un, .un, .un, .un, .val (.int i), .un])
          (enc := fun p : Int × Int => .tup [.int p.1, .int p.2]) (g := fun p => .int (p.1 * p.2)) (xs := (rows.getD i.toNat []).zip st) (by
            unfold iZipD
            simp only [ev_cons, ev_op, ev_bvar, ev_nil, List.getElem?_cons_succ, List.getElem?_cons_zero, Option.bind_some, slB_val, e2]
            show some (zipL ((rows.getD i.toNat []).map D.int) (st.map D.int)) = _
            rw [zipL_ints]) (by rw [List.length_zip]; omega) (fun p hp => by
            have h1 := br p.1 (List.of_mem_zip hp).1
            refine ⟨_, rfl, rfl, ?_⟩
            simp [gMul_i (mulOk_l (i := p.1) (j := p.2) (by omega) (by omega))])
        show (eOp gMul (eOp gIx (bVar 3) (bVar 9)) (eCall gSum (aCons (asL (fLc [10, 7] (iZipD (aCons (eOp gIx (bVar 4) (bVar 9)) (aCons (bVar 3) aNil))) (gTp (gsCons (gNm 10) (gsCons (gNm 7) gsNil))) tYesF (eOp gMul (bVar 10) (bVar 7)))) aNil))) [.val (Way.form rows).d, .val (intT u), .val (intT v), .val (.lst (st.map D.int)), .val (.tup (rows.map intT)), .un, .un, .un, .un, .val (.int i), .un] = _
        rw [ev_op, ev_call, ev_cons, ev_asL, hin, lst_map (f := fun p : Int × Int => p.1 * p.2) (fun _ => rfl)]
        simp only [ev_op, ev_bvar, ev_nil, List.getElem?_cons_succ, List.getElem?_cons_zero, Option.bind_some, Option.map_some, slB_val, e1, gSum_l]
        rw [gMul_i (mulOk_l (by omega) (by omega))]
        unfold dotI
        rw [List.zip_eq_zipWith, List.map_zipWith])
    rw [ev_call, ev_cons, ev_asL, hf, lst_map (f := fun i : Int => st.getD i.toNat 0 * dotI (rows.getD i.toNat []) st) (fun _ => rfl)]
    simp only [Option.map_some, Option.bind_some, ev_nil, gSum_l, Int.toNat_natCast]
    rw [zip_rng (fun x r => x * dotI r st) 0 [] st rows st.length rfl (by rw [hw.1, hn])]
    rfl

/-! the law's own -/
def lastS (ys : List Int) : Sl := match ys.getLast? with
  | none => .un
  | some i => .val (.int i)
theorem lastS_snoc (ys : List Int) (x : Int) : lastS (ys ++ [x]) = .val (.int x) := by simp [lastS]
theorem run_l_far_ok (w : Way) (u v : List Int) (hl : u.length = v.length) (hw : w.ok u.length) (hz : u.length ≤ 1000000) (hu : small u) (hv : small v) : run_l_far [w.d, intT u, intT v] = some (.int (w.far (subI u v))) := by
  have hs := subI_small hu hv
  have hn := subI_len hl
  have h0 : asL (fLc [6] (iRg1 (aCons (eCall gLen (aCons (bVar 1) aNil)) aNil)) (gNm 6) tYesF (eOp gSub (eOp gIx (bVar 1) (bVar 6)) (eOp gIx (bVar 2) (bVar 6)))) [.val w.d, .val (intT u), .val (intT v), .un, .un, .un, .un, .un, .un] = some (.lst ((subI u v).map D.int)) := by
    have hr := ev_rg1 (fl := aCons (eCall gLen (aCons (bVar 1) aNil)) aNil) (env := [.val w.d, .val (intT u), .val (intT v), .un, .un, .un, .un, .un, .un]) (j := u.length) (by simp [intT]) (by omega) (by omega)
    have hf := fLc_map (own := [6]) (t := gNm 6) (c := tYesF) (y := eOp gSub (eOp gIx (bVar 1) (bVar 6)) (eOp gIx (bVar 2) (bVar 6))) (g := fun i => D.int (u.getD i.toNat 0 - v.getD i.toNat 0)) hr (by rw [rngN_len]; omega) (fun i hi => by
      obtain ⟨i0, i1⟩ := mem_rngN hi
      refine ⟨_, rfl, rfl, ?_⟩
      have e1 : gIx (intT u) (.int i) = _ := gIx_ti (ns := u) i0 (by omega)
      have e2 : gIx (intT v) (.int i) = _ := gIx_ti (ns := v) i0 (by omega)
      simp only [ev_op, ev_bvar, wipe_cons, wipe_nil, List.set_cons_succ, List.set_cons_zero, List.getElem?_cons_succ, List.getElem?_cons_zero, Option.bind_some, slB_val, e1, e2, gSub_i])
    rw [ev_asL, hf, lst_map (f := fun i : Int => u.getD i.toNat 0 - v.getD i.toNat 0) (fun _ => rfl), Int.toNat_natCast, zip_rng (fun x y => x - y) 0 0 u v u.length rfl hl.symm]
    rfl
  generalize hst : subI u v = st at hs hn h0
  refine runC_rt rfl ?_
  refine seq_set h0 ?_
  simp only [List.map_cons, List.map_nil, List.cons_append, List.nil_append, List.replicate, List.set_cons_succ, List.set_cons_zero]
  have t1 := way_is w "steps" (by decide)
  have t2 := way_is w "air" (by decide)
  have t3 := way_is w "widest" (by decide)
  have t4 := way_is w "unlike" (by decide)
  have hz' : st.length ≤ 1000000 := by omega
  cases w with
  | steps =>
    refine seq_if1r (by simp [t1, Way.nm]) (run_ret ?_)
    rw [ev_call, ev_cons, over_steps (f := absI) rfl hz' (fun x hx => by simp [gAbs_i, absI])]
    simp only [Option.bind_some, ev_nil, gSum_l]
    rfl
  | air =>
    refine seq_if0 (by simp [t1, Way.nm]) ?_
    refine seq_if1r (by simp [t2, Way.nm]) (run_ret ?_)
    rw [ev_call, ev_cons, over_steps (f := fun x => x * x) rfl hz' (fun x hx => by
      have := hs x hx
      simp [gMul_i (mulOk_l (i := x) (j := x) (by omega) (by omega))])]
    simp only [Option.bind_some, ev_nil, gSum_l]
    rfl
  | widest =>
    refine seq_if0 (by simp [t1, Way.nm]) ?_
    refine seq_if0 (by simp [t2, Way.nm]) ?_
    refine seq_if1r (by simp [t3, Way.nm]) (run_ret ?_)
    rw [ev_call, ev_cons, over_steps (f := absI) rfl hz' (fun x hx => by simp [gAbs_i, absI])]
    have hp : 0 < (st.map absI).length := by
      rw [List.length_map, hn]
      exact hw
    simp only [Option.bind_some, ev_nil]
    exact gMaxI_l _ hp
  | unlike =>
    refine seq_if0 (by simp [t1, Way.nm]) ?_
    refine seq_if0 (by simp [t2, Way.nm]) ?_
    refine seq_if0 (by simp [t3, Way.nm]) ?_
    refine seq_if1r (by simp [t4, Way.nm]) (run_ret ?_)
    rw [ev_call, ev_cons, ev_asL, fLc_filter (enc := D.int) (g := fun x => D.int x) (p := fun x => !decide (x = 0)) (xs := st) (by rfl) (by omega) (fun x hx => ⟨_, rfl, by simp, fun _ => by simp⟩)]
    simp [Way.far]
  | weights ws =>
    refine seq_if0 (by simp [t1, Way.nm]) ?_
    refine seq_if0 (by simp [t2, Way.nm]) ?_
    refine seq_if0 (by simp [t3, Way.nm]) ?_
    refine seq_if0 (by simp [t4, Way.nm]) ?_
    have g0 : gIx (Way.weights ws).d (.int 0) = some (sS "weights") := rfl
    have g1 : gIx (Way.weights ws).d (.int 1) = some (intT ws) := rfl
    refine seq_if1r (by simp [g0, h_w]) (run_ret ?_)
    have hr := ev_rg1 (fl := aCons (eCall gLen (aCons (bVar 1) aNil)) aNil) (env := [.val (Way.weights ws).d, .val (intT u), .val (intT v), .val (.lst (st.map D.int)), .un, .un, .un, .un, .un]) (j := u.length) (by simp [intT]) (by omega) (by omega)
    have hf := fLc_map (own := [6]) (t := gNm 6) (c := tYesF) (y := eOp gMul (eOp gIx (eOp gIx (bVar 0) (eC (.int 1))) (bVar 6)) (eCall gAbs (aCons (eOp gIx (bVar 3) (bVar 6)) aNil))) (g := fun i => D.int (ws.getD i.toNat 0 * absI (st.getD i.toNat 0))) hr (by rw [rngN_len]; omega) (fun i hi => by
      obtain ⟨i0, i1⟩ := mem_rngN hi
      have lw : i.toNat < ws.length := by
        rw [hw.1]
        omega
      refine ⟨_, rfl, rfl, ?_⟩
      have e1 : gIx (intT ws) (.int i) = _ := gIx_ti (ns := ws) i0 (by omega)
      have e2 := gIx_li (ns := st) i0 (by omega)
      have b1 := hw.2 _ (getD_mem 0 lw)
      simp only [ev_op, ev_call, ev_cons, ev_nil, ev_c, ev_bvar, wipe_cons, wipe_nil, List.set_cons_succ, List.set_cons_zero, List.getElem?_cons_succ, List.getElem?_cons_zero, Option.bind_some, slB_val, g1, e1, e2, gAbs_i, ← absI_eq]
      rw [gMul_i (mulOk_l (by omega) (by omega))])
    rw [ev_call, ev_cons, ev_asL, hf, lst_map (f := fun i : Int => ws.getD i.toNat 0 * absI (st.getD i.toNat 0)) (fun _ => rfl)]
    simp only [Option.map_some, Option.bind_some, ev_nil, gSum_l, Int.toNat_natCast]
    rw [zip_rng (fun x y => x * absI y) 0 0 ws st u.length hw.1 hn]
    rfl
  | form rows =>
    refine seq_if0 (by simp [t1, Way.nm]) ?_
    refine seq_if0 (by simp [t2, Way.nm]) ?_
    refine seq_if0 (by simp [t3, Way.nm]) ?_
    refine seq_if0 (by simp [t4, Way.nm]) ?_
    have g0 : gIx (Way.form rows).d (.int 0) = some (sS "form") := rfl
    have g1 : gIx (Way.form rows).d (.int 1) = some (.tup (rows.map intT)) := rfl
    refine seq_if0 (by simp [g0, h_f]) ?_
    refine seq_set (d := .int 0) rfl ?_
    simp only [List.set_cons_succ, List.set_cons_zero]
    have hr := ev_rg1 (fl := aCons (eCall gLen (aCons (bVar 1) aNil)) aNil) (env := [.val (Way.form rows).d, .val (intT u), .val (intT v), .val (.lst (st.map D.int)), .val (.int 0), .un, .un, .un, .un]) (j := u.length) (by simp [intT]) (by omega) (by omega)
    rw [Int.toNat_natCast] at hr
    refine seq_for (fun ys => [.val (Way.form rows).d, .val (intT u), .val (intT v), .val (.lst (st.map D.int)), .val (.int (ys.map fun i : Int => st.getD i.toNat 0 * dotI (rows.getD i.toNat []) st).sum), lastS ys, .un, .un, .un]) hr rfl (fun ys i zs hi => ?_) ?_
    · have him : i ∈ rngN u.length := by
        rw [hi]
        simp
      obtain ⟨i0, i1⟩ := mem_rngN him
      have il : i.toNat < st.length := by omega
      have il2 : i.toNat < rows.length := by
        rw [hw.1]
        omega
      have e1 := gIx_li (ns := st) i0 (by omega)
      have e2 := gIx_rows (rows := rows) i0 (by omega)
      have b1 := hs _ (getD_mem 0 il)
      obtain ⟨lr, br⟩ := hw.2 _ (getD_mem [] il2)
      refine ⟨[.val (Way.form rows).d, .val (intT u), .val (intT v), .val (.lst (st.map D.int)), .val (.int (ys.map fun i : Int => st.getD i.toNat 0 * dotI (rows.getD i.toNat []) st).sum), .val (.int i), .un, .un, .un], rfl, .inl ?_⟩
      have hr2 := ev_rg1 (fl := aCons (eCall gLen (aCons (bVar 1) aNil)) aNil) (env := [.val (Way.form rows).d, .val (intT u), .val (intT v), .val (.lst (st.map D.int)), .val (.int (ys.map fun i : Int => st.getD i.toNat 0 * dotI (rows.getD i.toNat []) st).sum), .val (.int i), .un, .un, .un]) (j := u.length) (by simp [intT]) (by omega) (by omega)
      have hf := fLc_map (own := [8]) (t := gNm 8) (c := tYesF) (y := eOp gMul (eOp gIx (eOp gIx (eOp gIx (bVar 0) (eC (.int 1))) (bVar 5)) (bVar 8)) (eOp gIx (bVar 3) (bVar 8))) (g := fun j => D.int ((rows.getD i.toNat []).getD j.toNat 0 * st.getD j.toNat 0)) hr2 (by rw [rngN_len]; omega) (fun j hj => by
        obtain ⟨j0, j1⟩ := mem_rngN hj
        have jl : j.toNat < (rows.getD i.toNat []).length := by
          rw [lr]
          omega
        refine ⟨_, rfl, rfl, ?_⟩
        have e3 : gIx (intT (rows.getD i.toNat [])) (.int j) = _ := gIx_ti j0 (by omega)
        have e4 := gIx_li (ns := st) j0 (by omega)
        have b2 := br _ (getD_mem 0 jl)
        simp only [ev_op, ev_c, ev_bvar, wipe_cons, wipe_nil, List.set_cons_succ, List.set_cons_zero, List.getElem?_cons_succ, List.getElem?_cons_zero, Option.bind_some, slB_val, g1, e2, e3, e4]
        rw [gMul_i (mulOk_l (by omega) (by omega))])
      rw [Int.toNat_natCast] at hf
      rw [lst_map (f := fun j : Int => (rows.getD i.toNat []).getD j.toNat 0 * st.getD j.toNat 0) (fun _ => rfl), zip_rng (fun x y => x * y) 0 0 (rows.getD i.toNat []) st u.length lr hn] at hf
      rw [run_set (d := .int ((ys.map fun i : Int => st.getD i.toNat 0 * dotI (rows.getD i.toNat []) st).sum + st.getD i.toNat 0 * dotI (rows.getD i.toNat []) st)) (by
        rw [ev_op, ev_op, ev_call, ev_cons, ev_asL, hf]
        simp only [ev_op, ev_bvar, ev_nil, List.getElem?_cons_succ, List.getElem?_cons_zero, Option.bind_some, Option.map_some, slB_val, e1, gSum_l]
        rw [gMul_i (mulOk_l (by omega) (by omega))]
        rfl)]
      rw [lastS_snoc, List.map_append, List.sum_append]
      simp
    · refine run_ret ?_
      simp only [ev_var, List.getElem?_cons_succ, List.getElem?_cons_zero, Option.bind_some, slV_val]
      rw [zip_rng (fun x r => x * dotI r st) 0 [] st rows u.length hn hw.1]
      rfl
end PD

set_option Elab.async false
set_option linter.all false
set_option maxRecDepth 100000
namespace PD
open PySem L2
/-! ### a way that is drawn -/
def b_l_way : Cmd :=
    (sSeq (sSet 3 (eOp gMod (eCall gInt (aCons (eOp gIx (bVar 0) (bVar 1)) aNil)) (eC (.int 6))))
    (sSeq (sIf (asB (eOp gEq (bVar 3) (eC (.int 4))))
    (sRet (eTup (aCons (eC (.str (PySem.Str.ofString "weights"))) (aCons (eCall gTuple (aCons (asL (fLc [6] (iRg1 (aCons (bVar 2) aNil)) (gNm 6) tYesF (eOp gAdd (eC (.int 1)) (eOp gMod (eCall gInt (aCons (eOp gIx (bVar 0) (eOp gAdd (eOp gAdd (bVar 1) (eC (.int 1))) (bVar 6))) aNil)) (eC (.int 5)))))) aNil)) aNil))))
    sNop)
    (sSeq (sIf (asB (eOp gEq (bVar 3) (eC (.int 5))))
    (sSeq (sSetO 4 (fun env => (aNil env).bind fun ds => if lim ds.length then some ds else none))
    (sSeq (sFor (iRg1 (aCons (bVar 2) aNil)) (gNm 5)
    (sApp 4 (eCall gTuple (aCons (asL (fLc [6] (iRg1 (aCons (bVar 2) aNil)) (gNm 6) tYesF (eOp gAdd (eOp gMul (eOp gAdd (eOp gMod (eCall gInt (aCons (eOp gIx (bVar 0) (eOp gAdd (eOp gAdd (bVar 1) (eC (.int 1))) (bVar 5))) aNil)) (eC (.int 3))) (eC (.int 4))) (eCall gInt (aCons (eOp gEq (bVar 5) (bVar 6)) aNil))) (eOp gMul (eOp gSub (eOp gMod (eCall gInt (aCons (eOp gIx (bVar 0) (eOp gAdd (bVar 1) (eC (.int 4)))) aNil)) (eC (.int 3))) (eC (.int 1))) (eCall gInt (aCons (eOp gNe (bVar 5) (bVar 6)) aNil)))))) aNil))))
    (sRet (eTup (aCons (eC (.str (PySem.Str.ofString "form"))) (aCons (eCall gTuple (aCons (bVar 4) aNil)) aNil))))))
    sNop)
    (sRet (eOp gIx (eTup (aCons (eC (.str (PySem.Str.ofString "steps"))) (aCons (eC (.str (PySem.Str.ofString "air"))) (aCons (eC (.str (PySem.Str.ofString "widest"))) (aCons (eC (.str (PySem.Str.ofString "unlike"))) aNil))))) (bVar 3))))))
def run_l_way : List D → Option D := runC 3 4 b_l_way
def b_l_cloud : Cmd :=
    (sSeq (sSetO 5 (fun env => (aNil env).bind fun ds => if lim ds.length then some ds else none))
    (sSeq (sFor (iRg1 (aCons (eOp gMod (eCall gInt (aCons (eOp gIx (bVar 0) (bVar 1)) aNil)) (eOp gAdd (bVar 2) (eC (.int 1)))) aNil)) (gNm 6)
    (sApp 5 (eCall gTuple (aCons (asL (fLc [7] (iRg1 (aCons (bVar 3) aNil)) (gNm 7) tYesF (eOp gSub (eOp gMod (eCall gInt (aCons (eOp gIx (bVar 0) (eOp gAdd (eOp gAdd (eOp gAdd (bVar 1) (eC (.int 1))) (eOp gMul (eC (.int 3)) (bVar 6))) (bVar 7))) aNil)) (eOp gAdd (eOp gMul (eC (.int 2)) (bVar 4)) (eC (.int 1)))) (bVar 4)))) aNil))))
    (sRet (eCall gTuple (aCons (bVar 5) aNil)))))
def run_l_cloud : List D → Option D := runC 5 3 b_l_cloud
/-- the numbers that a law draws -/
def Row (row : List Int) : Prop := ∀ x ∈ row, 0 ≤ x ∧ x < 1000003
theorem Row.at {row : List Int} (h : Row row) (i : Nat) : 0 ≤ row.getD i 0 ∧ row.getD i 0 < 1000003 := by
  by_cases hi : i < row.length
  · exact h _ (getD_mem 0 hi)
  · simp [List.getD, List.getElem?_eq_none (by omega : row.length ≤ i)]
def formR (ds : List Int) (t : Int) : List (List Int) := (rngN ds.length).map fun i => (rngN ds.length).map fun j => if i = j then ds.getD i.toNat 0 else t
def Way.good (n : Nat) : Way → Prop
  | .weights ws => ws.length = n ∧ ∀ w ∈ ws, 1 ≤ w ∧ w ≤ 5
  | .form rows => ∃ ds t, ds.length = n ∧ (∀ d ∈ ds, 4 ≤ d ∧ d ≤ 6) ∧ -1 ≤ t ∧ t ≤ 1 ∧ rows = formR ds t
  | _ => 0 < n
theorem Way.good_ok {n : Nat} {w : Way} (h : w.good n) (hn : 0 < n) : w.ok n := by
  cases w with
  | weights ws => exact ⟨h.1, fun x hx => by have := h.2 x hx; omega⟩
  | form rows =>
    obtain ⟨ds, t, h1, h2, h3, h4, rfl⟩ := h
    refine ⟨by simp [formR, rngN_len, h1], fun r hr => ?_⟩
    obtain ⟨i, hi, rfl⟩ := List.mem_map.mp hr
    refine ⟨by simp [rngN_len, h1], fun x hx => ?_⟩
    obtain ⟨j, hj, rfl⟩ := List.mem_map.mp hx
    obtain ⟨i0, i1⟩ := mem_rngN hi
    have := h2 _ (getD_mem 0 (show i.toNat < ds.length by omega))
    split <;> omega
  | widest => exact hn
  | _ => trivial
theorem wayIx {k : Int} (h0 : 0 ≤ k) (h1 : k < 4) : ∃ w : Way, gIx (.tup [sS "steps", sS "air", sS "widest", sS "unlike"]) (.int k) = some w.d ∧ ∀ n, 0 < n → w.good n := by
  have : k = 0 ∨ k = 1 ∨ k = 2 ∨ k = 3 := by omega
  rcases this with rfl | rfl | rfl | rfl
  · exact ⟨.steps, rfl, fun n h => h⟩
  · exact ⟨.air, rfl, fun n h => h⟩
  · exact ⟨.widest, rfl, fun n h => h⟩
  · exact ⟨.unlike, rfl, fun n h => h⟩
theorem gNe_i' {i j : Int} : gNe (.int i) (.int j) = some (.bl (!decide (i = j))) := gNe_i
theorem run_way (row : List Int) (a : Nat) (n : Nat) (hr : a + 5 ≤ row.length) (hz : row.length ≤ 1000000) (hn : 0 < n) (hn2 : a + 1 + n ≤ row.length) : ∃ w : Way, run_l_way [.lst (row.map D.int), .int a, .int n] = some w.d ∧ w.good n := by
  have e0 := gIx_li (ns := row) (i := (a : Int)) (by omega) (by omega)
  have b0 := mod_lt (a := row.getD (a : Int).toNat 0) (b := 6) (by omega)
  generalize hk : row.getD (a : Int).toNat 0 % 6 = k at b0
  have hrg : ∀ env : List Sl, env[2]? = some (.val (.int n)) → iRg1 (aCons (bVar 2) aNil) env = some ((rngN n).map D.int) := fun env h => by
    have := ev_rg1 (fl := aCons (bVar 2) aNil) (env := env) (j := n) (by simp [h]) (by omega) (by omega)
    rw [this, Int.toNat_natCast]
  have k0 : eOp gMod (eCall gInt (aCons (eOp gIx (bVar 0) (bVar 1)) aNil)) (eC (.int 6)) [.val (.lst (row.map D.int)), .val (.int a), .val (.int n), .un, .un, .un, .un] = some (.int k) := by
    simp only [ev_op, ev_call, ev_cons, ev_nil, ev_c, ev_bvar, List.getElem?_cons_succ, List.getElem?_cons_zero, Option.bind_some, slB_val, e0, gInt_i, gMod_i (i := row.getD (a : Int).toNat 0) (show (0:Int) < 6 by omega), hk]
  by_cases h4 : k = 4
  · refine ⟨.weights ((rngN n).map fun j => 1 + row.getD ((a : Int) + 1 + j).toNat 0 % 5), ?_, by simp [rngN_len], fun w hw => ?_⟩
    · refine runC_rt rfl ?_
      refine seq_set (d := .int k) k0 ?_
      refine seq_if1r (by simp [h4]) (run_ret ?_)
      have hf := fLc_map (own := [6]) (t := gNm 6) (c := tYesF) (y := eOp gAdd (eC (.int 1)) (eOp gMod (eCall gInt (aCons (eOp gIx (bVar 0) (eOp gAdd (eOp gAdd (bVar 1) (eC (.int 1))) (bVar 6))) aNil)) (eC (.int 5)))) (g := fun j => D.int (1 + row.getD ((a : Int) + 1 + j).toNat 0 % 5)) (hrg [.val (.lst (row.map D.int)), .val (.int a), .val (.int n), .val (.int k), .un, .un, .un] rfl) (by rw [rngN_len]; omega) (fun j hj => by
        obtain ⟨j0, j1⟩ := mem_rngN hj
        refine ⟨_, rfl, rfl, ?_⟩
        have e1 := gIx_li (ns := row) (i := (a : Int) + 1 + j) (by omega) (by omega)
        simp only [ev_op, ev_call, ev_cons, ev_nil, ev_c, ev_bvar, wipe_cons, wipe_nil, List.set_cons_succ, List.set_cons_zero, List.getElem?_cons_succ, List.getElem?_cons_zero, Option.bind_some, slB_val, gAdd_i, e1, gInt_i, gMod_i (show (0:Int) < 5 by omega)])
      show eTup (aCons (eC (.str (PySem.Str.ofString "weights"))) (aCons (eCall gTuple (aCons (asL (fLc [6] (iRg1 (aCons (bVar 2) aNil)) (gNm 6) tYesF (eOp gAdd (eC (.int 1)) (eOp gMod (eCall gInt (aCons (eOp gIx (bVar 0) (eOp gAdd (eOp gAdd (bVar 1) (eC (.int 1))) (bVar 6))) aNil)) (eC (.int 5)))))) aNil)) aNil)) [.val (.lst (row.map D.int)), .val (.int a), .val (.int n), .val (.int k), .un, .un, .un] = _
      unfold eTup
      rw [ev_cons, ev_cons, ev_call, ev_cons, ev_asL, hf, lst_map (f := fun j : Int => 1 + row.getD ((a : Int) + 1 + j).toNat 0 % 5) (fun _ => rfl)]
      rfl
    · obtain ⟨j, hj, rfl⟩ := List.mem_map.mp hw
      have := mod_lt (a := row.getD ((a : Int) + 1 + j).toNat 0) (b := 5) (by omega)
      omega
  · by_cases h5 : k = 5
    · have et := gIx_li (ns := row) (i := (a : Int) + 4) (by omega) (by omega)
      refine ⟨.form (formR ((rngN n).map fun i => row.getD ((a : Int) + 1 + i).toNat 0 % 3 + 4) (row.getD ((a : Int) + 4).toNat 0 % 3 - 1)), ?_, _, _, by simp [rngN_len], fun d hd => ?_, ?_, ?_, rfl⟩
      · refine runC_rt rfl ?_
        refine seq_set (d := .int k) k0 ?_
        refine seq_if0 (by simp [h4]) ?_
        refine seq_if1r (by simp [h5]) ?_
        refine seq_setO (ds := []) rfl ?_
        simp only [List.map_cons, List.map_nil, List.cons_append, List.nil_append, List.replicate, List.set_cons_succ, List.set_cons_zero]
        refine seq_for (fun ys => [.val (.lst (row.map D.int)), .val (.int a), .val (.int n), .val (.int k), .own (ys.map fun i => intT ((rngN n).map fun j => (row.getD ((a : Int) + 1 + i).toNat 0 % 3 + 4) * (if i = j then 1 else 0) + (row.getD ((a : Int) + 4).toNat 0 % 3 - 1) * (if i = j then 0 else 1))), lastS ys, .un]) (hrg _ rfl) rfl (fun ys i zs hi => ?_) ?_
        · have him : i ∈ rngN n := by
            rw [hi]
            simp
          have hyl : ys.length < n := by
            have := congrArg List.length hi
            rw [rngN_len, List.length_append, List.length_cons] at this
            omega
          obtain ⟨i0, i1⟩ := mem_rngN him
          refine ⟨_, rfl, .inl ?_⟩
          have e1 := gIx_li (ns := row) (i := (a : Int) + 1 + i) (by omega) (by omega)
          have hf := fLc_map (own := [6]) (t := gNm 6) (c := tYesF) (y := eOp gAdd (eOp gMul (eOp gAdd (eOp gMod (eCall gInt (aCons (eOp gIx (bVar 0) (eOp gAdd (eOp gAdd (bVar 1) (eC (.int 1))) (bVar 5))) aNil)) (eC (.int 3))) (eC (.int 4))) (eCall gInt (aCons (eOp gEq (bVar 5) (bVar 6)) aNil))) (eOp gMul (eOp gSub (eOp gMod (eCall gInt (aCons (eOp gIx (bVar 0) (eOp gAdd (bVar 1) (eC (.int 4)))) aNil)) (eC (.int 3))) (eC (.int 1))) (eCall gInt (aCons (eOp gNe (bVar 5) (bVar 6)) aNil))))
            (g := fun j => D.int ((row.getD ((a : Int) + 1 + i).toNat 0 % 3 + 4) * (if i = j then 1 else 0) + (row.getD ((a : Int) + 4).toNat 0 % 3 - 1) * (if i = j then 0 else 1)))
            (hrg [.val (.lst (row.map D.int)), .val (.int a), .val (.int n), .val (.int k), .own (ys.map fun i => intT ((rngN n).map fun j => (row.getD ((a : Int) + 1 + i).toNat 0 % 3 + 4) * (if i = j then 1 else 0) + (row.getD ((a : Int) + 4).toNat 0 % 3 - 1) * (if i = j then 0 else 1))), .val (.int i), .un] rfl) (by rw [rngN_len]; omega) (fun j hj => by
            refine ⟨_, rfl, rfl, ?_⟩
            simp only [ev_op, ev_call, ev_cons, ev_nil, ev_c, ev_bvar, wipe_cons, wipe_nil, List.set_cons_succ, List.set_cons_zero, List.getElem?_cons_succ, List.getElem?_cons_zero, Option.bind_some, slB_val, gAdd_i, gSub_i, e1, et, gInt_i, gMod_i (show (0:Int) < 3 by omega), gEq_i, gNe_i, gInt_b]
            have bq := mod_lt (a := row.getD ((a : Int) + 1 + i).toNat 0) (b := 3) (by omega)
            have bt := mod_lt (a := row.getD ((a : Int) + 4).toNat 0) (b := 3) (by omega)
            by_cases hij : i = j
            · simp only [hij, decide_true, Bool.not_true, if_true, Bool.false_eq_true, if_false]
              rw [hij] at bq
              rw [gMul_i (mulOk_l (by omega) (by omega)), gMul_i (mulOk_l (by omega) (by omega))]
              rfl
            · simp only [hij, decide_false, Bool.not_false, if_true, Bool.false_eq_true, if_false]
              rw [gMul_i (mulOk_l (by omega) (by omega)), gMul_i (mulOk_l (by omega) (by omega))]
              rfl)
          have hap := run_app (i := 4) (env := [.val (.lst (row.map D.int)), .val (.int a), .val (.int n), .val (.int k), .own (ys.map fun i => intT ((rngN n).map fun j => (row.getD ((a : Int) + 1 + i).toNat 0 % 3 + 4) * (if i = j then 1 else 0) + (row.getD ((a : Int) + 4).toNat 0 % 3 - 1) * (if i = j then 0 else 1))), .val (.int i), .un])
            (f := eCall gTuple (aCons (asL (fLc [6] (iRg1 (aCons (bVar 2) aNil)) (gNm 6) tYesF (eOp gAdd (eOp gMul (eOp gAdd (eOp gMod (eCall gInt (aCons (eOp gIx (bVar 0) (eOp gAdd (eOp gAdd (bVar 1) (eC (.int 1))) (bVar 5))) aNil)) (eC (.int 3))) (eC (.int 4))) (eCall gInt (aCons (eOp gEq (bVar 5) (bVar 6)) aNil))) (eOp gMul (eOp gSub (eOp gMod (eCall gInt (aCons (eOp gIx (bVar 0) (eOp gAdd (bVar 1) (eC (.int 4)))) aNil)) (eC (.int 3))) (eC (.int 1))) (eCall gInt (aCons (eOp gNe (bVar 5) (bVar 6)) aNil)))))) aNil))
            (d := intT ((rngN n).map fun j => (row.getD ((a : Int) + 1 + i).toNat 0 % 3 + 4) * (if i = j then 1 else 0) + (row.getD ((a : Int) + 4).toNat 0 % 3 - 1) * (if i = j then 0 else 1))) (by
              rw [ev_call, ev_cons, ev_asL, hf, lst_map (f := fun j : Int => (row.getD ((a : Int) + 1 + i).toNat 0 % 3 + 4) * (if i = j then 1 else 0) + (row.getD ((a : Int) + 4).toNat 0 % 3 - 1) * (if i = j then 0 else 1)) (fun _ => rfl)]
              rfl) rfl (by rw [List.length_map]; omega)
          refine hap.trans ?_
          rw [lastS_snoc, List.map_append]
          rfl
        · refine run_ret ?_
          unfold eTup
          simp only [ev_cons, ev_c, ev_call, ev_bvar, ev_nil, List.getElem?_cons_succ, List.getElem?_cons_zero, Option.bind_some, slB_own, gTuple_l]
          have e : (rngN n).map (fun i => intT ((rngN n).map fun j => (row.getD ((a : Int) + 1 + i).toNat 0 % 3 + 4) * (if i = j then 1 else 0) + (row.getD ((a : Int) + 4).toNat 0 % 3 - 1) * (if i = j then 0 else 1))) = (formR ((rngN n).map fun i => row.getD ((a : Int) + 1 + i).toNat 0 % 3 + 4) (row.getD ((a : Int) + 4).toNat 0 % 3 - 1)).map intT := by
            unfold formR
            rw [List.map_map, List.length_map, rngN_len]
            apply List.map_congr_left
            intro i hi
            show intT _ = intT _
            congr 1
            apply List.map_congr_left
            intro j hj
            obtain ⟨i0, i1⟩ := mem_rngN hi
            by_cases hij : i = j
            · simp only [hij, if_true, Int.mul_one, Int.mul_zero, Int.add_zero]
              rw [hij] at i0 i1
              have hl : j.toNat < n := by omega
              unfold rngN
              simp [List.getD, hl, Int.toNat_of_nonneg i0]
            · simp only [hij, if_false, Int.mul_one, Int.mul_zero, Int.zero_add]
          rw [e]
          rfl
      · obtain ⟨j, hj, rfl⟩ := List.mem_map.mp hd
        have := mod_lt (a := row.getD ((a : Int) + 1 + j).toNat 0) (b := 3) (by omega)
        omega
      · have := mod_lt (a := row.getD ((a : Int) + 4).toNat 0) (b := 3) (by omega)
        omega
      · have := mod_lt (a := row.getD ((a : Int) + 4).toNat 0) (b := 3) (by omega)
        omega
    · obtain ⟨w, hw, hg⟩ := wayIx (k := k) b0.1 (by omega)
      refine ⟨w, ?_, hg n hn⟩
      refine runC_rt rfl ?_
      refine seq_set (d := .int k) k0 ?_
      refine seq_if0 (by simp [h4]) ?_
      refine seq_if0 (by simp [h5]) ?_
      exact run_ret hw
end PD

set_option Elab.async false
set_option linter.all false
set_option maxRecDepth 100000
namespace PD
open PySem L2
/-! ### sorted pairs; the nearest of a shelf -/
def b_told_pairs : Cmd :=
    (sRet (asL (fCall gSortA (aCons (asL (fLc [3, 4, 5] (iSeq (bVar 0)) (gTp (gsCons (gNm 3) (gsCons (gNm 4) (gsCons (gNm 5) gsNil)))) tYesF (eTup (aCons (eFn run_far (aCons (eVar 2) (aCons (eVar 1) (aCons (eVar 4) aNil)))) (aCons (eVar 3) aNil))))) aNil))))
def run_told_pairs : List D → Option D := runC 3 3 b_told_pairs
def b_nearest : Cmd :=
    (sRet (eCall gTuple (aCons (eSl (eFn run_told_pairs (aCons (eVar 0) (aCons (eVar 1) (aCons (eVar 2) aNil)))) oNo (oYes (bVar 3))) aNil)))
def run_nearest : List D → Option D := runC 4 0 b_nearest
def pairD (p : Int × Int) : D := .tup [.int p.1, .int p.2]
def leP (p q : Int × Int) : Bool := decide (p.1 < q.1 ∨ (p.1 = q.1 ∧ p.2 ≤ q.2))
def sortP (ps : List (Int × Int)) : List (Int × Int) := ps.mergeSort leP
theorem leD_pair (p q : Int × Int) : leD (pairD p) (pairD q) = leP p q := by
  have h := PySem.W.dataLe_ii (β := Int × Int) (fun b => b.1) (fun b => b.2)
  exact congrFun (congrFun h p) q
theorem sortD_pair (ps : List (Int × Int)) : sortD (ps.map pairD) = (sortP ps).map pairD := by
  unfold sortD sortP
  rw [List.map_mergeSort]
  intro a _ b _
  exact (leD_pair a b).symm
theorem sortOk_pair (ps : List (Int × Int)) : sortOk (ps.map pairD) = true := by
  unfold sortOk
  simp only [Bool.and_eq_true, Bool.or_eq_true, List.all_eq_true]
  refine ⟨⟨fun x hx => ?_, .inl fun x hx => ?_⟩, fun x hx y hy => ?_⟩
  · obtain ⟨p, _, rfl⟩ := List.mem_map.mp hx
    rfl
  · obtain ⟨p, _, rfl⟩ := List.mem_map.mp hx
    rfl
  · obtain ⟨p, _, rfl⟩ := List.mem_map.mp hx
    obtain ⟨q, _, rfl⟩ := List.mem_map.mp hy
    simp [alikeD, pairD, py, pyL, PySem.W.alike, PySem.W.alikeAll]
theorem gSortA_pair (ps : List (Int × Int)) : gSortA [.lst (ps.map pairD)] = some ((sortP ps).map pairD) := by
  cases ps with
  | nil =>
    show some ((sortI []).map D.int) = some ((sortP []).map pairD)
    simp [sortI, sortP]
  | cons p ps =>
    have h : gSortA [.lst ((p :: ps).map pairD)] = if sortOk ((p :: ps).map pairD) then some (sortD ((p :: ps).map pairD)) else none := rfl
    rw [h, sortOk_pair, if_pos rfl, sortD_pair]
theorem okL_pair (n : Nat) (p : Int × Int) : okL (n + 2) (pairD p) = true := by
  simp [okL, pairD, lim]
theorem okL_pairs (n : Nat) (ps : List (Int × Int)) (h : ps.length ≤ 16777216) : okL (n + 3) (.tup (ps.map pairD)) = true := by
  simp only [okL, Bool.and_eq_true, List.all_eq_true]
  refine ⟨fun x hx => ?_, by simpa [lim] using h⟩
  obtain ⟨p, _, rfl⟩ := List.mem_map.mp hx
  exact okL_pair n p
/-- a key, a vector, a tag -/
structure It3 where
  key : Int
  vec : List Int
  tag : Int
def It3.d (x : It3) : D := .tup [.int x.key, intT x.vec, .int x.tag]
def pairsOf (w : Way) (u : List Int) (xs : List It3) : List (Int × Int) := xs.map fun x => (w.far (subI u x.vec), x.key)
theorem run_told (w : Way) (u : List Int) (xs : List It3) (hw : w.ok u.length) (hz : u.length ≤ 1000000) (hu : small u) (hx : ∀ x ∈ xs, x.vec.length = u.length ∧ small x.vec) (hn : xs.length ≤ 16777216) :
    run_told_pairs [.tup (xs.map It3.d), intT u, w.d] = some (.lst ((sortP (pairsOf w u xs)).map pairD)) := by
  refine runC_rt rfl (run_ret ?_)
  have hf := fLc_map (own := [3, 4, 5]) (it := iSeq (bVar 0)) (t := gTp (gsCons (gNm 3) (gsCons (gNm 4) (gsCons (gNm 5) gsNil)))) (c := tYesF) (y := eTup (aCons (eFn run_far (aCons (eVar 2) (aCons (eVar 1) (aCons (eVar 4) aNil)))) (aCons (eVar 3) aNil)))
    (env := [.val (.tup (xs.map It3.d)), .val (intT u), .val w.d, .un, .un, .un]) (enc := It3.d) (g := fun x => pairD (w.far (subI u x.vec), x.key)) (xs := xs) rfl hn (fun x hm => by
      obtain ⟨h1, h2⟩ := hx x hm
      refine ⟨[.val (.tup (xs.map It3.d)), .val (intT u), .val w.d, .val (.int x.key), .val (intT x.vec), .val (.int x.tag)], rfl, rfl, ?_⟩
      have := run_far_ok w u x.vec h1.symm hw hz hu h2
      unfold eTup
      simp only [ev_cons, ev_fn, ev_var, ev_nil, List.getElem?_cons_succ, List.getElem?_cons_zero, Option.bind_some, slV_val, this]
      rfl)
  show asL (fCall gSortA (aCons (asL (fLc [3, 4, 5] (iSeq (bVar 0)) (gTp (gsCons (gNm 3) (gsCons (gNm 4) (gsCons (gNm 5) gsNil)))) tYesF (eTup (aCons (eFn run_far (aCons (eVar 2) (aCons (eVar 1) (aCons (eVar 4) aNil)))) (aCons (eVar 3) aNil))))) aNil)) [.val (.tup (xs.map It3.d)), .val (intT u), .val w.d, .un, .un, .un] = _
  rw [ev_asL, ev_fcall, ev_cons, ev_asL, hf]
  have e : xs.map (fun x => pairD (w.far (subI u x.vec), x.key)) = (pairsOf w u xs).map pairD := by
    unfold pairsOf
    rw [List.map_map]
    rfl
  rw [e]
  simp only [Option.map_some, Option.bind_some, ev_nil, gSortA_pair]
theorem run_near (w : Way) (u : List Int) (xs : List It3) (k : Int) (hw : w.ok u.length) (hz : u.length ≤ 1000000) (hu : small u) (hx : ∀ x ∈ xs, x.vec.length = u.length ∧ small x.vec) (hn : xs.length ≤ 16777216) :
    run_nearest [.tup (xs.map It3.d), intT u, w.d, .int k] = some (.tup (cutD ((sortP (pairsOf w u xs)).map pairD) none (some k))) := by
  refine runC_rt rfl (run_ret ?_)
  have := run_told w u xs hw hz hu hx hn
  show (eCall gTuple (aCons (eSl (eFn run_told_pairs (aCons (eVar 0) (aCons (eVar 1) (aCons (eVar 2) aNil)))) oNo (oYes (bVar 3))) aNil)) [.val (.tup (xs.map It3.d)), .val (intT u), .val w.d, .val (.int k)] = _
  have hs : eSl (eFn run_told_pairs (aCons (eVar 0) (aCons (eVar 1) (aCons (eVar 2) aNil)))) oNo (oYes (bVar 3)) [.val (.tup (xs.map It3.d)), .val (intT u), .val w.d, .val (.int k)] = some (.lst (cutD ((sortP (pairsOf w u xs)).map pairD) none (some k))) := by
    unfold eSl
    simp only [ev_cons, ev_fn, ev_var, ev_nil, List.getElem?_cons_succ, List.getElem?_cons_zero, Option.bind_some, slV_val, this]
    rfl
  rw [ev_call, ev_cons, hs]
  rfl
theorem cutD_map {α β : Type} (f : α → β) (xs : List α) (lo hi : Option Int) : cutD (xs.map f) lo hi = (cutD xs lo hi).map f := by
  unfold cutD
  rw [List.length_map, List.map_take, List.map_drop]
theorem cutD_len {α : Type} (xs : List α) (lo hi : Option Int) : (cutD xs lo hi).length ≤ xs.length := by
  unfold cutD
  rw [List.length_take, List.length_drop]
  omega
end PD

set_option Elab.async false
set_option linter.all false
set_option maxRecDepth 100000
namespace K01
open PySem L2 PD
/-! ### plain laws of the ways -/
theorem absI_nn (x : Int) : 0 ≤ absI x := by unfold absI; split <;> omega
theorem absI_add (x y : Int) : absI (x + y) ≤ absI x + absI y := by
  unfold absI
  split <;> split <;> split <;> omega
theorem absI_neg (x : Int) : absI (-x) = absI x := by
  unfold absI
  split <;> split <;> omega
theorem absI_zero (x : Int) : absI x = 0 ↔ x = 0 := by
  unfold absI
  split <;> omega
def ne1 (x : Int) : Int := if x = 0 then 0 else 1
theorem ne1_nn (x : Int) : 0 ≤ ne1 x := by unfold ne1; split <;> omega
theorem ne1_add (x y : Int) : ne1 (x + y) ≤ ne1 x + ne1 y := by
  unfold ne1
  split <;> split <;> split <;> omega
theorem ne1_neg (x : Int) : ne1 (-x) = ne1 x := by
  unfold ne1
  split <;> split <;> omega
theorem ne1_zero (x : Int) : ne1 x = 0 ↔ x = 0 := by
  unfold ne1
  split <;> omega
theorem unlike_eq : ∀ s : List Int, (((s.filter fun x => !decide (x = 0)).length : Nat) : Int) = (s.map ne1).sum
  | [] => rfl
  | x :: s => by
    by_cases h : x = 0
    · simp [h, ne1, unlike_eq s]
    · have ih := unlike_eq s
      have e : ne1 x = 1 := if_neg h
      rw [List.filter_cons_of_pos (by simp [h]), List.length_cons, List.map_cons, List.sum_cons, e]
      omega
def addI (p q : List Int) : List Int := List.zipWith (fun x y => x + y) p q
theorem subI_add {u v w : List Int} (h1 : u.length = v.length) (h2 : v.length = w.length) : subI u w = addI (subI u v) (subI v w) := by
  apply List.ext_getElem
  · simp [subI, addI, h1, h2]
  · intro i q1 q2
    simp [subI, addI]
    omega
theorem subI_neg {u v : List Int} (h : u.length = v.length) : subI v u = (subI u v).map fun x => -x := by
  apply List.ext_getElem
  · simp [subI, h]
  · intro i q1 q2
    simp [subI]
    omega
theorem subI_zero : ∀ {u v : List Int}, u.length = v.length → ((∀ x ∈ subI u v, x = 0) ↔ u = v)
  | [], [], _ => by simp [subI]
  | [], _ :: _, h => by simp at h
  | _ :: _, [], h => by simp at h
  | x :: u, y :: v, h => by
    have ih := subI_zero (u := u) (v := v) (by simpa using h)
    simp only [subI] at ih
    simp only [subI, List.zipWith_cons_cons, List.mem_cons, forall_eq_or_imp, List.cons.injEq, ih]
    constructor
    · rintro ⟨a, b⟩
      exact ⟨by omega, b⟩
    · rintro ⟨a, b⟩
      exact ⟨by omega, b⟩
theorem len1 {s : List Int} (h : s.length = 1) : ∃ x, s = [x] := by
  match s, h with
  | [x], _ => exact ⟨x, rfl⟩
theorem len2 {s : List Int} (h : s.length = 2) : ∃ x y, s = [x, y] := by
  match s, h with
  | [x, y], _ => exact ⟨x, y, rfl⟩
theorem len3 {s : List Int} (h : s.length = 3) : ∃ x y z, s = [x, y, z] := by
  match s, h with
  | [x, y, z], _ => exact ⟨x, y, z, rfl⟩
theorem sq_nn (x : Int) : 0 ≤ x * x := by
  rcases Int.le_total 0 x with h | h
  · exact Int.mul_nonneg h h
  · have := Int.mul_nonneg (show 0 ≤ -x by omega) (show 0 ≤ -x by omega)
    rw [Int.neg_mul_neg] at this
    exact this
theorem sq_zero {x : Int} (h : x * x = 0) : x = 0 := by
  rcases Int.mul_eq_zero.mp h with h | h <;> exact h
/-- 2xy is between -(xx + yy) and xx + yy -/
theorem two_mul (x y : Int) : 2 * (x * y) ≤ x * x + y * y ∧ -(x * x + y * y) ≤ 2 * (x * y) := by
  have h1 := sq_nn (x - y)
  have h2 := sq_nn (x + y)
  have e1 : (x - y) * (x - y) = x * x + y * y - 2 * (x * y) := by grind
  have e2 : (x + y) * (x + y) = x * x + y * y + 2 * (x * y) := by grind
  omega
/-- t times that, t small -/
theorem off_mul (t m S : Int) (h0 : -7 ≤ t) (h1 : t ≤ 7) (h2 : 2 * m ≤ S) (h3 : -S ≤ 2 * m) : -(7 * S) ≤ 2 * (t * m) := by
  have : t = -7 ∨ t = -6 ∨ t = -5 ∨ t = -4 ∨ t = -3 ∨ t = -2 ∨ t = -1 ∨ t = 0 ∨ t = 1 ∨ t = 2 ∨ t = 3 ∨ t = 4 ∨ t = 5 ∨ t = 6 ∨ t = 7 := by omega
  rcases this with rfl | rfl | rfl | rfl | rfl | rfl | rfl | rfl | rfl | rfl | rfl | rfl | rfl | rfl | rfl <;> omega
theorem off_mul1 (t m S : Int) (h0 : -1 ≤ t) (h1 : t ≤ 1) (h2 : 2 * m ≤ S) (h3 : -S ≤ 2 * m) : -S ≤ 2 * (t * m) := by
  have : t = -1 ∨ t = 0 ∨ t = 1 := by omega
  rcases this with rfl | rfl | rfl <;> omega
/-- the far by "air" and by forms is a square of this kind -/
def quad (ds : List Int) (t : Int) (p q : List Int) : Int := (List.zipWith (fun x r => x * dotI r q) p (formR ds t)).sum
theorem quad1 {a t x y : Int} : quad [a] t [x] [y] = x * (a * y) := by
  simp [quad, formR, rngN, List.range, List.range.loop, dotI]
theorem quad2 {a b t x y x' y' : Int} : quad [a, b] t [x, y] [x', y'] = x * (a * x' + t * y') + y * (t * x' + b * y') := by
  simp [quad, formR, rngN, List.range, List.range.loop, dotI]
theorem quad3 {a b c t x y z x' y' z' : Int} : quad [a, b, c] t [x, y, z] [x', y', z'] = x * (a * x' + t * y' + t * z') + y * (t * x' + b * y' + t * z') + z * (t * x' + t * y' + c * z') := by
  simp [quad, formR, rngN, List.range, List.range.loop, dotI]
  grind

theorem far_form (ds : List Int) (t : Int) (s : List Int) : (Way.form (formR ds t)).far s = quad ds t s s := rfl
/-! C-S for these squares -/
theorem cs1 (a x x' : Int) : (x * (a * x')) * (x * (a * x')) ≤ (x * (a * x)) * (x' * (a * x')) := by
  have : (x * (a * x')) * (x * (a * x')) = (x * (a * x)) * (x' * (a * x')) := by grind
  omega
theorem mul_nn {a b : Int} (ha : 0 ≤ a) (hb : 0 ≤ b) : 0 ≤ a * b := Int.mul_nonneg ha hb
theorem mul_ge {a b : Int} (h : 15 ≤ a) (hb : 0 ≤ b) : 15 * b ≤ a * b := Int.mul_le_mul_of_nonneg_right h hb
/-- the diagonal rules -/
theorem dom3 (A B C f g h x y z : Int) (hA : 15 ≤ A) (hB : 15 ≤ B) (hC : 15 ≤ C) (f0 : -7 ≤ f) (f1 : f ≤ 7) (g0 : -7 ≤ g) (g1 : g ≤ 7) (h0 : -7 ≤ h) (h1 : h ≤ 7) :
    0 ≤ A * (x * x) + B * (y * y) + C * (z * z) + 2 * (f * (x * y)) + 2 * (g * (x * z)) + 2 * (h * (y * z)) := by
  have a1 := mul_ge hA (sq_nn x)
  have a2 := mul_ge hB (sq_nn y)
  have a3 := mul_ge hC (sq_nn z)
  have b1 := off_mul f (x * y) (x * x + y * y) f0 f1 (two_mul x y).1 (two_mul x y).2
  have b2 := off_mul g (x * z) (x * x + z * z) g0 g1 (two_mul x z).1 (two_mul x z).2
  have b3 := off_mul h (y * z) (y * y + z * z) h0 h1 (two_mul y z).1 (two_mul y z).2
  have c1 := sq_nn x
  have c2 := sq_nn y
  have c3 := sq_nn z
  omega
theorem det_ge {a b t : Int} (ha : 4 ≤ a) (hb : 4 ≤ b) (t0 : -1 ≤ t) (t1 : t ≤ 1) : 15 ≤ a * b - t * t := by
  have h := Int.mul_le_mul ha hb (by omega) (by omega)
  have : t = -1 ∨ t = 0 ∨ t = 1 := by omega
  rcases this with rfl | rfl | rfl <;> omega
theorem off_le {a t : Int} (ha : 4 ≤ a) (ha2 : a ≤ 6) (t0 : -1 ≤ t) (t1 : t ≤ 1) : -7 ≤ a * t - t * t ∧ a * t - t * t ≤ 7 := by
  have : t = -1 ∨ t = 0 ∨ t = 1 := by omega
  rcases this with rfl | rfl | rfl <;> omega
theorem cs2 (a b t x y x' y' : Int) (h : 15 ≤ a * b - t * t) : (x * (a * x' + t * y') + y * (t * x' + b * y')) * (x * (a * x' + t * y') + y * (t * x' + b * y')) ≤ (x * (a * x + t * y) + y * (t * x + b * y)) * (x' * (a * x' + t * y') + y' * (t * x' + b * y')) := by
  have e : (x * (a * x + t * y) + y * (t * x + b * y)) * (x' * (a * x' + t * y') + y' * (t * x' + b * y')) - (x * (a * x' + t * y') + y * (t * x' + b * y')) * (x * (a * x' + t * y') + y * (t * x' + b * y')) = (a * b - t * t) * ((x * y' - y * x') * (x * y' - y * x')) := by grind
  have h2 := mul_nn (show 0 ≤ a * b - t * t by omega) (sq_nn (x * y' - y * x'))
  omega
theorem cs3 (a b c t x y z x' y' z' : Int) (ha : 4 ≤ a) (ha2 : a ≤ 6) (hb : 4 ≤ b) (hb2 : b ≤ 6) (hc : 4 ≤ c) (hc2 : c ≤ 6) (t0 : -1 ≤ t) (t1 : t ≤ 1) :
    (x * (a * x' + t * y' + t * z') + y * (t * x' + b * y' + t * z') + z * (t * x' + t * y' + c * z')) * (x * (a * x' + t * y' + t * z') + y * (t * x' + b * y' + t * z') + z * (t * x' + t * y' + c * z')) ≤
      (x * (a * x + t * y + t * z) + y * (t * x + b * y + t * z) + z * (t * x + t * y + c * z)) * (x' * (a * x' + t * y' + t * z') + y' * (t * x' + b * y' + t * z') + z' * (t * x' + t * y' + c * z')) := by
  have e : (x * (a * x + t * y + t * z) + y * (t * x + b * y + t * z) + z * (t * x + t * y + c * z)) * (x' * (a * x' + t * y' + t * z') + y' * (t * x' + b * y' + t * z') + z' * (t * x' + t * y' + c * z')) - (x * (a * x' + t * y' + t * z') + y * (t * x' + b * y' + t * z') + z * (t * x' + t * y' + c * z')) * (x * (a * x' + t * y' + t * z') + y * (t * x' + b * y' + t * z') + z * (t * x' + t * y' + c * z')) =
      (a * b - t * t) * ((x * y' - y * x') * (x * y' - y * x')) + (a * c - t * t) * ((x * z' - z * x') * (x * z' - z * x')) + (b * c - t * t) * ((y * z' - z * y') * (y * z' - z * y'))
        + 2 * ((a * t - t * t) * ((x * y' - y * x') * (x * z' - z * x'))) + 2 * (-(b * t - t * t) * ((x * y' - y * x') * (y * z' - z * y'))) + 2 * ((c * t - t * t) * ((x * z' - z * x') * (y * z' - z * y'))) := by grind
  have o1 := off_le ha ha2 t0 t1
  have o2 := off_le hb hb2 t0 t1
  have o3 := off_le hc hc2 t0 t1
  have h2 := dom3 (a * b - t * t) (a * c - t * t) (b * c - t * t) (a * t - t * t) (-(b * t - t * t)) (c * t - t * t) (x * y' - y * x') (x * z' - z * x') (y * z' - z * y') (det_ge ha hb t0 t1) (det_ge ha hc t0 t1) (det_ge hb hc t0 t1) o1.1 o1.2 (by omega) (by omega) o3.1 o3.2
  omega

def rooted : Way → Bool
  | .air => true
  | .form _ => true
  | _ => false
theorem quad_even : ∀ (n : Nat) (ds : List Int) (t : Int) (s : List Int), ds.length = n → s.length = n → n = 1 ∨ n = 2 ∨ n = 3 → quad ds t (s.map fun x => -x) (s.map fun x => -x) = quad ds t s s := by
  intro n ds t s h1 h2 hn
  rcases hn with rfl | rfl | rfl
  · obtain ⟨a, rfl⟩ := len1 h1
    obtain ⟨x, rfl⟩ := len1 h2
    simp only [List.map_cons, List.map_nil, quad1]
    grind
  · obtain ⟨a, b, rfl⟩ := len2 h1
    obtain ⟨x, y, rfl⟩ := len2 h2
    simp only [List.map_cons, List.map_nil, quad2]
    grind
  · obtain ⟨a, b, c, rfl⟩ := len3 h1
    obtain ⟨x, y, z, rfl⟩ := len3 h2
    simp only [List.map_cons, List.map_nil, quad3]
    grind
theorem map_neg_abs (s : List Int) : (s.map fun x => -x).map absI = s.map absI := by
  rw [List.map_map]
  exact List.map_congr_left fun x _ => absI_neg x
theorem far_even {n : Nat} {w : Way} {s : List Int} (hw : w.good n) (hs : s.length = n) (hn : n = 1 ∨ n = 2 ∨ n = 3) : w.far (s.map fun x => -x) = w.far s := by
  cases w with
  | steps =>
    simp only [Way.far]
    rw [map_neg_abs]
  | air =>
    simp only [Way.far]
    rw [List.map_map]
    congr 1
    exact List.map_congr_left fun x _ => Int.neg_mul_neg x x
  | widest =>
    simp only [Way.far]
    rw [map_neg_abs]
  | unlike =>
    simp only [Way.far]
    rw [unlike_eq, unlike_eq, List.map_map]
    congr 1
    exact List.map_congr_left fun x _ => ne1_neg x
  | weights ws =>
    simp only [Way.far]
    rw [List.zipWith_map_right]
    congr 2
    funext a b
    rw [absI_neg]
  | form rows =>
    obtain ⟨ds, t, h1, h2, h3, h4, rfl⟩ := hw
    rw [far_form, far_form]
    exact quad_even n ds t s h1 hs hn
theorem wt {w x : Int} (h : 1 ≤ w) : 0 ≤ w * absI x ∧ (w * absI x = 0 → x = 0) := by
  have a := absI_nn x
  have : 1 * absI x ≤ w * absI x := Int.mul_le_mul_of_nonneg_right h a
  refine ⟨by omega, fun e => (absI_zero x).mp (by omega)⟩
theorem quad_pos (a t x : Int) : True := trivial
theorem quad_def (n : Nat) (ds : List Int) (t : Int) (s : List Int) (h1 : ds.length = n) (hs : s.length = n) (hn : n = 1 ∨ n = 2 ∨ n = 3) (hd : ∀ d ∈ ds, 4 ≤ d ∧ d ≤ 6) (t0 : -1 ≤ t) (t1 : t ≤ 1) (e : quad ds t s s = 0) : ∀ x ∈ s, x = 0 := by
  have four : ∀ (d x : Int), 4 ≤ d → 4 * (x * x) ≤ d * (x * x) := fun d x h => Int.mul_le_mul_of_nonneg_right h (sq_nn x)
  rcases hn with rfl | rfl | rfl
  · obtain ⟨a, rfl⟩ := len1 h1
    obtain ⟨x, rfl⟩ := len1 hs
    rw [quad1] at e
    have ha := hd a (by simp)
    have := four a x ha.1
    have e2 : x * (a * x) = a * (x * x) := by grind
    have := sq_nn x
    have : x = 0 := sq_zero (by omega)
    simpa using this
  · obtain ⟨a, b, rfl⟩ := len2 h1
    obtain ⟨x, y, rfl⟩ := len2 hs
    rw [quad2] at e
    have ha := hd a (by simp)
    have hb := hd b (by simp)
    have f1 := four a x ha.1
    have f2 := four b y hb.1
    have m1 := off_mul1 t (x * y) (x * x + y * y) t0 t1 (two_mul x y).1 (two_mul x y).2
    have e2 : x * (a * x + t * y) + y * (t * x + b * y) = a * (x * x) + b * (y * y) + 2 * (t * (x * y)) := by grind
    have s1 := sq_nn x
    have s2 := sq_nn y
    have hx : x = 0 := sq_zero (by omega)
    have hy : y = 0 := sq_zero (by omega)
    simp [hx, hy]
  · obtain ⟨a, b, c, rfl⟩ := len3 h1
    obtain ⟨x, y, z, rfl⟩ := len3 hs
    rw [quad3] at e
    have ha := hd a (by simp)
    have hb := hd b (by simp)
    have hc := hd c (by simp)
    have f1 := four a x ha.1
    have f2 := four b y hb.1
    have f3 := four c z hc.1
    have m1 := off_mul1 t (x * y) (x * x + y * y) t0 t1 (two_mul x y).1 (two_mul x y).2
    have m2 := off_mul1 t (x * z) (x * x + z * z) t0 t1 (two_mul x z).1 (two_mul x z).2
    have m3 := off_mul1 t (y * z) (y * y + z * z) t0 t1 (two_mul y z).1 (two_mul y z).2
    have e2 : x * (a * x + t * y + t * z) + y * (t * x + b * y + t * z) + z * (t * x + t * y + c * z) = a * (x * x) + b * (y * y) + c * (z * z) + 2 * (t * (x * y)) + 2 * (t * (x * z)) + 2 * (t * (y * z)) := by grind
    have s1 := sq_nn x
    have s2 := sq_nn y
    have s3 := sq_nn z
    have hx : x = 0 := sq_zero (by omega)
    have hy : y = 0 := sq_zero (by omega)
    have hz : z = 0 := sq_zero (by omega)
    simp [hx, hy, hz]
theorem max_abs (x y : Int) : max (absI x) (absI y) = if absI x ≤ absI y then absI y else absI x := rfl
theorem far_def {n : Nat} {w : Way} {s : List Int} (hw : w.good n) (hs : s.length = n) (hn : n = 1 ∨ n = 2 ∨ n = 3) (e : w.far s = 0) : ∀ x ∈ s, x = 0 := by
  cases w with
  | form rows =>
    obtain ⟨ds, t, h1, h2, h3, h4, rfl⟩ := hw
    exact quad_def n ds t s h1 hs hn h2 h3 h4 e
  | steps =>
    rcases hn with rfl | rfl | rfl
    · obtain ⟨x, rfl⟩ := len1 hs
      simp only [Way.far, List.map_cons, List.map_nil, List.sum_cons, List.sum_nil] at e
      have := (absI_zero x).mp (by omega)
      simpa using this
    · obtain ⟨x, y, rfl⟩ := len2 hs
      simp only [Way.far, List.map_cons, List.map_nil, List.sum_cons, List.sum_nil] at e
      have h1 := absI_nn x
      have h2 := absI_nn y
      have := (absI_zero x).mp (by omega)
      have := (absI_zero y).mp (by omega)
      simp [*]
    · obtain ⟨x, y, z, rfl⟩ := len3 hs
      simp only [Way.far, List.map_cons, List.map_nil, List.sum_cons, List.sum_nil] at e
      have h1 := absI_nn x
      have h2 := absI_nn y
      have h3 := absI_nn z
      have := (absI_zero x).mp (by omega)
      have := (absI_zero y).mp (by omega)
      have := (absI_zero z).mp (by omega)
      simp [*]
  | air =>
    rcases hn with rfl | rfl | rfl
    · obtain ⟨x, rfl⟩ := len1 hs
      simp only [Way.far, List.map_cons, List.map_nil, List.sum_cons, List.sum_nil] at e
      have := sq_zero (x := x) (by omega)
      simpa using this
    · obtain ⟨x, y, rfl⟩ := len2 hs
      simp only [Way.far, List.map_cons, List.map_nil, List.sum_cons, List.sum_nil] at e
      have h1 := sq_nn x
      have h2 := sq_nn y
      have := sq_zero (x := x) (by omega)
      have := sq_zero (x := y) (by omega)
      simp [*]
    · obtain ⟨x, y, z, rfl⟩ := len3 hs
      simp only [Way.far, List.map_cons, List.map_nil, List.sum_cons, List.sum_nil] at e
      have h1 := sq_nn x
      have h2 := sq_nn y
      have h3 := sq_nn z
      have := sq_zero (x := x) (by omega)
      have := sq_zero (x := y) (by omega)
      have := sq_zero (x := z) (by omega)
      simp [*]
  | widest =>
    have key : ∀ y ∈ s.map absI, y ≤ 0 := by
      have h : max0 (s.map absI) = 0 := e
      intro y hy
      cases hm : s.map absI with
      | nil => rw [hm] at hy; cases hy
      | cons a r =>
        rw [hm] at h hy
        have := (maxL_spec r a).2 y hy
        simp only [max0] at h
        omega
    intro x hx
    have h1 := key (absI x) (List.mem_map.mpr ⟨x, hx, rfl⟩)
    have h2 := absI_nn x
    exact (absI_zero x).mp (by omega)
  | unlike =>
    intro x hx
    have e' : ((s.filter fun x => !decide (x = 0)).length : Int) = 0 := e
    have : (s.filter fun x => !decide (x = 0)) = [] := List.length_eq_zero_iff.mp (by omega)
    have := List.filter_eq_nil_iff.mp this x hx
    simpa using this
  | weights ws =>
    obtain ⟨h1, h2⟩ := hw
    rcases hn with rfl | rfl | rfl
    · obtain ⟨x, rfl⟩ := len1 hs
      obtain ⟨a, rfl⟩ := len1 h1
      simp only [Way.far, List.zipWith_cons_cons, List.zipWith_nil_right, List.sum_cons, List.sum_nil] at e
      have q1 := wt (x := x) (h2 a (by simp)).1
      have := q1.2 (by omega)
      simpa using this
    · obtain ⟨x, y, rfl⟩ := len2 hs
      obtain ⟨a, b, rfl⟩ := len2 h1
      simp only [Way.far, List.zipWith_cons_cons, List.zipWith_nil_right, List.sum_cons, List.sum_nil] at e
      have q1 := wt (x := x) (h2 a (by simp)).1
      have q2 := wt (x := y) (h2 b (by simp)).1
      have := q1.2 (by omega)
      have := q2.2 (by omega)
      simp [*]
    · obtain ⟨x, y, z, rfl⟩ := len3 hs
      obtain ⟨a, b, c, rfl⟩ := len3 h1
      simp only [Way.far, List.zipWith_cons_cons, List.zipWith_nil_right, List.sum_cons, List.sum_nil] at e
      have q1 := wt (x := x) (h2 a (by simp)).1
      have q2 := wt (x := y) (h2 b (by simp)).1
      have q3 := wt (x := z) (h2 c (by simp)).1
      have := q1.2 (by omega)
      have := q2.2 (by omega)
      have := q3.2 (by omega)
      simp [*]

theorem wadd {w x y : Int} (h : 1 ≤ w) : w * absI (x + y) ≤ w * absI x + w * absI y := by
  have := Int.mul_le_mul_of_nonneg_left (absI_add x y) (show 0 ≤ w by omega)
  rw [Int.mul_add] at this
  exact this
theorem max0_le {s : List Int} {m : Int} (h0 : 0 < s.length) (h : ∀ y ∈ s, y ≤ m) : max0 s ≤ m := by
  cases s with
  | nil => cases h0
  | cons a r => exact h _ (maxL_spec r a).1
theorem le_max0 {s : List Int} {y : Int} (h : y ∈ s) : y ≤ max0 s := by
  cases s with
  | nil => cases h
  | cons a r => exact (maxL_spec r a).2 y h
theorem sum_le3 : ∀ {xs ys zs : List Int}, xs.length = ys.length → ys.length = zs.length → (∀ i : Nat, i < xs.length → xs.getD i 0 ≤ ys.getD i 0 + zs.getD i 0) → xs.sum ≤ ys.sum + zs.sum
  | [], [], [], _, _, _ => by simp
  | x :: xs, y :: ys, z :: zs, h1, h2, h => by
    have ih := sum_le3 (xs := xs) (ys := ys) (zs := zs) (by simpa using h1) (by simpa using h2) fun i hi => by
      have := h (i + 1) (by simpa using hi)
      simpa using this
    have h0 := h 0 (by simp)
    simp only [List.getD_cons_zero] at h0
    simp only [List.sum_cons]
    omega
  | [], [], _ :: _, _, h, _ => by simp at h
  | [], _ :: _, _, h, _, _ => by simp at h
  | _ :: _, [], _, h, _, _ => by simp at h
  | _ :: _, _ :: _, [], _, h, _ => by simp at h
theorem addI_len {p q : List Int} (h : p.length = q.length) : (addI p q).length = p.length := by simp [addI, h]
theorem tri_map (f : Int → Int) (hf : ∀ x y, f (x + y) ≤ f x + f y) {p q : List Int} (h : p.length = q.length) : ((addI p q).map f).sum ≤ (p.map f).sum + (q.map f).sum := by
  refine sum_le3 (by simp [addI, h]) (by simp [h]) fun i hi => ?_
  have hp : i < p.length := by simpa [addI, h] using hi
  have hq : i < q.length := by omega
  simp only [List.getD, List.getElem?_map, List.getElem?_eq_getElem hp, List.getElem?_eq_getElem hq, List.getElem?_eq_getElem (show i < (addI p q).length by rw [addI_len h]; exact hp), Option.map_some, Option.getD_some]
  simp only [addI, List.getElem_zipWith]
  exact hf _ _
theorem far_tri {n : Nat} {w : Way} {p q : List Int} (hw : w.good n) (h1 : p.length = n) (h2 : q.length = n) (hn : 0 < n) (hr : rooted w = false) : w.far (addI p q) ≤ w.far p + w.far q := by
  have hl : p.length = q.length := by omega
  cases w with
  | steps =>
    simp only [Way.far]
    exact tri_map absI absI_add hl
  | unlike =>
    simp only [Way.far]
    rw [unlike_eq, unlike_eq, unlike_eq]
    exact tri_map ne1 ne1_add hl
  | widest =>
    simp only [Way.far]
    refine max0_le (by simp [addI, h1, h2, hn]) fun y hy => ?_
    obtain ⟨z, hz, rfl⟩ := List.mem_map.mp hy
    obtain ⟨i, hi, rfl⟩ := List.mem_iff_getElem.mp hz
    have hp : i < p.length := by simpa [addI, h1, h2] using hi
    have hq : i < q.length := by omega
    have e : (addI p q)[i] = p[i] + q[i] := by simp [addI]
    rw [e]
    have a1 := absI_add p[i] q[i]
    have a2 := le_max0 (List.mem_map.mpr ⟨p[i], List.getElem_mem hp, rfl⟩ : absI p[i] ∈ p.map absI)
    have a3 := le_max0 (List.mem_map.mpr ⟨q[i], List.getElem_mem hq, rfl⟩ : absI q[i] ∈ q.map absI)
    omega
  | weights ws =>
    obtain ⟨h3, h4⟩ := hw
    simp only [Way.far]
    refine sum_le3 (by simp [addI, h1, h2, h3]) (by simp [h1, h2]) fun i hi => ?_
    have hi' : i < n := by simpa [addI, h1, h2, h3] using hi
    have e0 : i < ws.length := by omega
    have e1 : i < p.length := by omega
    have e2 : i < q.length := by omega
    have e3 : i < (addI p q).length := by
      rw [addI_len hl]
      exact e1
    simp only [List.getD, List.getElem?_zipWith, List.getElem?_eq_getElem e0, List.getElem?_eq_getElem e1, List.getElem?_eq_getElem e2, List.getElem?_eq_getElem e3, Option.getD_some]
    have e : (addI p q)[i] = p[i] + q[i] := by simp [addI]
    rw [e]
    exact wadd (h4 _ (List.getElem_mem e0)).1
  | air => cases hr
  | form _ => cases hr
/-- the turn of a triangle for squares -/
theorem turn_of {A B C S : Int} (h : A - B - C = 2 * S) (h2 : S * S ≤ B * C) : (A - B - C) * (A - B - C) ≤ 4 * B * C := by
  rw [h]
  have e1 : 2 * S * (2 * S) = 4 * (S * S) := by grind
  have e2 : 4 * B * C = 4 * (B * C) := by grind
  omega
theorem far_cs {n : Nat} {w : Way} {p q : List Int} (hw : w.good n) (h1 : p.length = n) (h2 : q.length = n) (hn : n = 1 ∨ n = 2 ∨ n = 3) (hr : rooted w = true) :
    (w.far (addI p q) - w.far p - w.far q) * (w.far (addI p q) - w.far p - w.far q) ≤ 4 * w.far p * w.far q := by
  have form : ∀ (ds : List Int) (t : Int), ds.length = n → (∀ d ∈ ds, 4 ≤ d ∧ d ≤ 6) → -1 ≤ t → t ≤ 1 → (quad ds t (addI p q) (addI p q) - quad ds t p p - quad ds t q q) * (quad ds t (addI p q) (addI p q) - quad ds t p p - quad ds t q q) ≤ 4 * quad ds t p p * quad ds t q q := by
    intro ds t h3 hd t0 t1
    refine turn_of (S := quad ds t p q) ?_ ?_
    · rcases hn with rfl | rfl | rfl
      · obtain ⟨a, rfl⟩ := len1 h3
        obtain ⟨x, rfl⟩ := len1 h1
        obtain ⟨x', rfl⟩ := len1 h2
        simp only [addI, List.zipWith_cons_cons, List.zipWith_nil_right, quad1]
        grind
      · obtain ⟨a, b, rfl⟩ := len2 h3
        obtain ⟨x, y, rfl⟩ := len2 h1
        obtain ⟨x', y', rfl⟩ := len2 h2
        simp only [addI, List.zipWith_cons_cons, List.zipWith_nil_right, quad2]
        grind
      · obtain ⟨a, b, c, rfl⟩ := len3 h3
        obtain ⟨x, y, z, rfl⟩ := len3 h1
        obtain ⟨x', y', z', rfl⟩ := len3 h2
        simp only [addI, List.zipWith_cons_cons, List.zipWith_nil_right, quad3]
        grind
    · rcases hn with rfl | rfl | rfl
      · obtain ⟨a, rfl⟩ := len1 h3
        obtain ⟨x, rfl⟩ := len1 h1
        obtain ⟨x', rfl⟩ := len1 h2
        simp only [quad1]
        exact cs1 a x x'
      · obtain ⟨a, b, rfl⟩ := len2 h3
        obtain ⟨x, y, rfl⟩ := len2 h1
        obtain ⟨x', y', rfl⟩ := len2 h2
        simp only [quad2]
        exact cs2 a b t x y x' y' (det_ge (hd a (by simp)).1 (hd b (by simp)).1 t0 t1)
      · obtain ⟨a, b, c, rfl⟩ := len3 h3
        obtain ⟨x, y, z, rfl⟩ := len3 h1
        obtain ⟨x', y', z', rfl⟩ := len3 h2
        simp only [quad3]
        have ha := hd a (by simp)
        have hb := hd b (by simp)
        have hc := hd c (by simp)
        exact cs3 a b c t x y z x' y' z' ha.1 ha.2 hb.1 hb.2 hc.1 hc.2 t0 t1
  cases w with
  | form rows =>
    obtain ⟨ds, t, h3, h4, h5, h6, rfl⟩ := hw
    exact form ds t h3 h4 h5 h6
  | air =>
    rcases hn with rfl | rfl | rfl
    · obtain ⟨x, rfl⟩ := len1 h1
      obtain ⟨x', rfl⟩ := len1 h2
      simp only [Way.far, addI, List.zipWith_cons_cons, List.zipWith_nil_right, List.map_cons, List.map_nil, List.sum_cons, List.sum_nil]
      refine turn_of (S := x * x') (by grind) ?_
      have : (x * x') * (x * x') = (x * x) * (x' * x') := by grind
      simp
      omega
    · obtain ⟨x, y, rfl⟩ := len2 h1
      obtain ⟨x', y', rfl⟩ := len2 h2
      simp only [Way.far, addI, List.zipWith_cons_cons, List.zipWith_nil_right, List.map_cons, List.map_nil, List.sum_cons, List.sum_nil]
      refine turn_of (S := x * x' + y * y') (by grind) ?_
      have e : (x * x + (y * y + 0)) * (x' * x' + (y' * y' + 0)) - (x * x' + y * y') * (x * x' + y * y') = (x * y' - y * x') * (x * y' - y * x') := by grind
      have := sq_nn (x * y' - y * x')
      omega
    · obtain ⟨x, y, z, rfl⟩ := len3 h1
      obtain ⟨x', y', z', rfl⟩ := len3 h2
      simp only [Way.far, addI, List.zipWith_cons_cons, List.zipWith_nil_right, List.map_cons, List.map_nil, List.sum_cons, List.sum_nil]
      refine turn_of (S := x * x' + y * y' + z * z') (by grind) ?_
      have e : (x * x + (y * y + (z * z + 0))) * (x' * x' + (y' * y' + (z' * z' + 0))) - (x * x' + y * y' + z * z') * (x * x' + y * y' + z * z') = (x * y' - y * x') * (x * y' - y * x') + (x * z' - z * x') * (x * z' - z * x') + (y * z' - z * y') * (y * z' - z * y') := by grind
      have s1 := sq_nn (x * y' - y * x')
      have s2 := sq_nn (x * z' - z * x')
      have s3 := sq_nn (y * z' - z * y')
      omega
  | _ => cases hr
theorem far_zero (w : Way) {n : Nat} {s : List Int} (hw : w.good n) (hs : s.length = n) (hn : n = 1 ∨ n = 2 ∨ n = 3) (h : ∀ x ∈ s, x = 0) : w.far s = 0 := by
  have e : s = List.replicate n 0 := by
    rw [← hs]
    exact List.eq_replicate_iff.mpr ⟨rfl, h⟩
  subst e
  cases w with
  | form rows =>
    obtain ⟨ds, t, h1, h2, h3, h4, rfl⟩ := hw
    rw [far_form]
    rcases hn with rfl | rfl | rfl
    · obtain ⟨a, rfl⟩ := len1 h1
      show quad [a] t [0] [0] = 0
      rw [quad1]
      simp
    · obtain ⟨a, b, rfl⟩ := len2 h1
      show quad [a, b] t [0, 0] [0, 0] = 0
      rw [quad2]
      simp
    · obtain ⟨a, b, c, rfl⟩ := len3 h1
      show quad [a, b, c] t [0, 0, 0] [0, 0, 0] = 0
      rw [quad3]
      simp
  | weights ws =>
    obtain ⟨h1, h2⟩ := hw
    rcases hn with rfl | rfl | rfl
    · obtain ⟨a, rfl⟩ := len1 h1
      simp [Way.far, absI, List.replicate]
    · obtain ⟨a, b, rfl⟩ := len2 h1
      simp [Way.far, absI, List.replicate]
    · obtain ⟨a, b, c, rfl⟩ := len3 h1
      simp [Way.far, absI, List.replicate]
  | _ => rcases hn with rfl | rfl | rfl <;> simp [Way.far, absI, List.replicate, max0, maxL]
end K01

set_option Elab.async false
set_option linter.all false
set_option maxRecDepth 100000
namespace K01
open PySem L2 PD
theorem e_row : K01.run_l_row = PD.run_l_row := rfl
theorem e_way : K01.run_l_way = PD.run_l_way := rfl
theorem e_far : K01.run_far = PD.run_far := rfl
theorem e_lfar : K01.run_l_far = PD.run_l_far := rfl
theorem e_near : K01.run_nearest = PD.run_nearest := rfl
theorem e_like : ∀ n, K01.run_l_like n = PD.run_l_like n
  | 0 => rfl
  | n + 1 => by
    show runC 2 1 (K01.b_l_like (K01.run_l_like n)) = runC 2 1 (PD.b_l_like (PD.run_l_like n))
    rw [e_like n]
    rfl
def keepB (a b c : Int) : Bool := decide (a - b - c ≤ 0) || decide ((a - b - c) * (a - b - c) ≤ 4 * b * c)
theorem run_keeps {a b c : Int} (h1 : -18446744073709551616 < a - b - c ∧ a - b - c < 18446744073709551616) (h2 : mulOk (4 * b) c = true) : run_keeps_turn [.int a, .int b, .int c] = some (.bl (keepB a b c)) := by
  refine runC_rt rfl ?_
  refine seq_set (d := .int (a - b - c)) (by simp) (run_ret ?_)
  have g1 := gMul_i (mulOk_l (i := a - b - c) (j := a - b - c) h1.1 h1.2)
  have g2 := gMul_i (mulOk_l (i := 4) (j := b) (by omega) (by omega))
  have g3 := gMul_i h2
  show (eOr (eOp gLe (bVar 3) (eC (.int 0))) (eOp gLe (eOp gMul (bVar 3) (bVar 3)) (eOp gMul (eOp gMul (eC (.int 4)) (bVar 1)) (bVar 2)))) [.val (.int a), .val (.int b), .val (.int c), .val (.int (a - b - c))] = _
  simp only [ev_eor, ev_op, ev_c, ev_bvar, List.getElem?_cons_succ, List.getElem?_cons_zero, Option.bind_some, slB_val, gLe_i, g1, g2, g3, blD_bl]
  unfold keepB
  by_cases h : a - b - c ≤ 0
  · simp only [decide_eq_true h, if_true, Bool.true_or]
  · simp only [decide_eq_false h, Bool.false_eq_true, if_false, Bool.false_or]
/-- the vector that is drawn at a place -/
def vecAt (R : Nat → Int) (n : Nat) (a : Int) : List Int := (rngN n).map fun j => R (a + j).toNat % 41 - 20
theorem vec_len (R : Nat → Int) (n : Nat) (a : Int) : (vecAt R n a).length = n := by simp [vecAt, rngN_len]
theorem vec_small (R : Nat → Int) (n : Nat) (a : Int) : ∀ x ∈ vecAt R n a, -20 ≤ x ∧ x ≤ 20 := by
  intro x hx
  obtain ⟨j, _, rfl⟩ := List.mem_map.mp hx
  have := mod_lt (a := R (a + j).toNat) (b := 41) (by omega)
  omega
theorem setup (ns : List Int) : ∃ (rowD : D) (R : Nat → Int), K01.run_l_row [.scr ns, .int 30] = some rowD ∧ (∀ k : Int, 0 ≤ k → k < 30 → gIx rowD (.int k) = some (.int (R k.toNat))) ∧ (∀ k, 0 ≤ R k ∧ R k < 1000003) ∧ (∀ n : Nat, 0 < n → n ≤ 3 → ∃ w : Way, K01.run_l_way [rowD, .int 10, .int n] = some w.d ∧ w.good n) := by
  obtain ⟨row, h1, h2, h3⟩ := run_row ns 30 (by omega)
  refine ⟨_, fun k => row.getD k 0, h1, fun k k0 k1 => gIx_li k0 (by omega), fun k => Row.at h3 k, fun n n0 n1 => ?_⟩
  exact run_way row 10 n (by omega) (by omega) n0 (by omega)

theorem set2_ne {env : List Sl} {i j : Nat} {a b x : Sl} (h : env[j]? = some x) (n : i ≠ j) : ((env.set i a).set i b)[j]? = some x := by
  rw [List.getElem?_set_ne n, List.getElem?_set_ne n]
  exact h
theorem set2_eq {env : List Sl} {i : Nat} {a b : Sl} (h : i < env.length) : ((env.set i a).set i b)[i]? = some b := by
  rw [List.getElem?_set_self (by rw [List.length_set]; exact h)]
def rowY : Fe := eOp gSub (eOp gMod (eCall gInt (aCons (eOp gIx (bVar 1) (eOp gAdd (bVar 20) (bVar 21))) aNil)) (eC (.int 41))) (eC (.int 20))
theorem vec_ev {rowD : D} {R : Nat → Int} {n : Nat} {a : Int} {env : List Sl} (hR : ∀ k : Int, 0 ≤ k → k < 30 → gIx rowD (.int k) = some (.int (R k.toNat))) (n1 : n ≤ 3) (a0 : 0 ≤ a) (a1 : a ≤ 20) (h1 : env[1]? = some (.val rowD)) (h2 : env[2]? = some (.val (.int n))) (h20 : env[20]? = some (.val (.int a))) (hl : env.length = 25) :
    eCall gTuple (aCons (asL (fLc [21] (iRg1 (aCons (bVar 2) aNil)) (gNm 21) tYesF rowY)) aNil) env = some (intT (vecAt R n a)) := by
  have hr := ev_rg1 (fl := aCons (bVar 2) aNil) (env := env) (j := n) (by simp [h2]) (by omega) (by omega)
  have hf := fLc_map (own := [21]) (t := gNm 21) (c := tYesF) (y := rowY) (g := fun j => D.int (R (a + j).toNat % 41 - 20)) hr (by rw [rngN_len]; omega) (fun j hj => by
    obtain ⟨j0, j1⟩ := mem_rngN hj
    refine ⟨_, rfl, rfl, ?_⟩
    rw [wipe_cons, wipe_nil]
    have q1 := set2_ne (i := 21) (a := .un) (b := .val (.int j)) h1 (by omega)
    have q2 := set2_ne (i := 21) (a := .un) (b := .val (.int j)) h20 (by omega)
    have q3 := set2_eq (env := env) (i := 21) (a := .un) (b := .val (.int j)) (by omega)
    unfold rowY
    simp only [ev_op, ev_call, ev_cons, ev_nil, ev_c, ev_bvar, q1, q2, q3, Option.bind_some, slB_val, gAdd_i, hR (a + j) (by omega) (by omega), gInt_i, gMod_i (show (0:Int) < 41 by omega), gSub_i])
  rw [ev_call, ev_cons, ev_asL, hf, lst_map (f := fun j : Int => R (a + j).toNat % 41 - 20) (fun _ => rfl), Int.toNat_natCast]
  rfl
theorem vecs_ev {rowD : D} {R : Nat → Int} {n : Nat} {env : List Sl} (hR : ∀ k : Int, 0 ≤ k → k < 30 → gIx rowD (.int k) = some (.int (R k.toNat))) (n1 : n ≤ 3) (h1 : env[1]? = some (.val rowD)) (h2 : env[2]? = some (.val (.int n))) (hl : env.length = 25) :
    asL (fLc [20] (iSeq (eTup (aCons (eC (.int 1)) (aCons (eC (.int 4)) (aCons (eC (.int 7)) aNil))))) (gNm 20) tYesF (eCall gTuple (aCons (asL (fLc [21] (iRg1 (aCons (bVar 2) aNil)) (gNm 21) tYesF rowY)) aNil))) env = some (.lst [intT (vecAt R n 1), intT (vecAt R n 4), intT (vecAt R n 7)]) := by
  have hf := fLc_map (own := [20]) (it := iSeq (eTup (aCons (eC (.int 1)) (aCons (eC (.int 4)) (aCons (eC (.int 7)) aNil))))) (t := gNm 20) (c := tYesF) (y := eCall gTuple (aCons (asL (fLc [21] (iRg1 (aCons (bVar 2) aNil)) (gNm 21) tYesF rowY)) aNil)) (env := env) (enc := D.int) (g := fun a => intT (vecAt R n a)) (xs := [1, 4, 7]) rfl (by decide) (fun a ha => by
    refine ⟨_, rfl, rfl, ?_⟩
    rw [wipe_cons, wipe_nil]
    have ha' : 0 ≤ a ∧ a ≤ 20 := by
      simp only [List.mem_cons, List.not_mem_nil, or_false] at ha
      omega
    exact vec_ev hR n1 ha'.1 ha'.2 (set2_ne h1 (by omega)) (set2_ne h2 (by omega)) (set2_eq (by omega)) (by simp [hl]))
  rw [ev_asL, hf]
  rfl
theorem nm_w (ws : List Int) (s : String) (h : s ≠ "") : decide ((Way.weights ws).nm = s) = false := decide_eq_false fun e => h e.symm
theorem rooted_ev (w : Way) {env : List Sl} (h : env[6]? = some (.val w.d)) : (eOr (eOp gEq (bVar 6) (eC (.str (PySem.Str.ofString "air")))) (eAnd (eIsi "tuple" (bVar 6)) (eOp gEq (eOp gIx (bVar 6) (eC (.int 0))) (eC (.str (PySem.Str.ofString "form")))))) env = some (.bl (rooted w)) := by
  have t := way_is w "air" (by decide)
  simp only [ev_eor, ev_eand, ev_op, ev_isi, ev_c, ev_bvar, h, Option.bind_some, slB_val, t, blD_bl]
  cases w with
  | weights ws =>
    have g0 : gIx (Way.weights ws).d (.int 0) = some (sS "weights") := rfl
    have e : gEq (sS "weights") (.str (PySem.Str.ofString "form")) = some (.bl false) := by
      rw [show sS "weights" = D.str (PySem.Str.ofString "weights") from rfl, gEq_str ok_w ok_f]
      exact bl_eq (by decide +kernel)
    rw [nm_w ws "air" (by decide), show isiD "tuple" (Way.weights ws).d = true from isi_tup_tup, g0]
    simp [e, rooted]
  | form rows =>
    have g0 : gIx (Way.form rows).d (.int 0) = some (sS "form") := rfl
    have e : gEq (sS "form") (.str (PySem.Str.ofString "form")) = some (.bl true) := by
      rw [show sS "form" = D.str (PySem.Str.ofString "form") from rfl, gEq_str ok_f ok_f]
      exact bl_eq (by decide +kernel)
    rw [nm_form rows "air" (by decide), show isiD "tuple" (Way.form rows).d = true from isi_tup_tup, g0]
    simp [e, rooted]
  | air => simp [Way.nm, rooted]
  | steps => simp [Way.nm, rooted, show isiD "tuple" Way.steps.d = false from isi_tup_str]
  | widest => simp [Way.nm, rooted, show isiD "tuple" Way.widest.d = false from isi_tup_str]
  | unlike => simp [Way.nm, rooted, show isiD "tuple" Way.unlike.d = false from isi_tup_str]
/-! sizes -/
theorem mul_bd {x y a b : Int} (hx : -a ≤ x ∧ x ≤ a) (hy : -b ≤ y ∧ y ≤ b) : -(a * b) ≤ x * y ∧ x * y ≤ a * b := by
  have h := Nat.mul_le_mul (show x.natAbs ≤ a.toNat by omega) (show y.natAbs ≤ b.toNat by omega)
  rw [← Int.natAbs_mul] at h
  have e : ((a.toNat * b.toNat : Nat) : Int) = a * b := by
    rw [Int.natCast_mul, Int.toNat_of_nonneg (by omega), Int.toNat_of_nonneg (by omega)]
  omega
theorem far_bd {n : Nat} {w : Way} {s : List Int} (hw : w.good n) (hs : s.length = n) (hn : n = 1 ∨ n = 2 ∨ n = 3) (hr : rooted w = true) (hb : ∀ x ∈ s, -40 ≤ x ∧ x ≤ 40) : -1000000 ≤ w.far s ∧ w.far s ≤ 1000000 := by
  cases w with
  | air =>
    rcases hn with rfl | rfl | rfl
    · obtain ⟨x, rfl⟩ := len1 hs
      simp only [Way.far, List.map_cons, List.map_nil, List.sum_cons, List.sum_nil]
      have b1 := mul_bd (hb x (by simp)) (hb x (by simp))
      omega
    · obtain ⟨x, y, rfl⟩ := len2 hs
      simp only [Way.far, List.map_cons, List.map_nil, List.sum_cons, List.sum_nil]
      have b1 := mul_bd (hb x (by simp)) (hb x (by simp))
      have b2 := mul_bd (hb y (by simp)) (hb y (by simp))
      omega
    · obtain ⟨x, y, z, rfl⟩ := len3 hs
      simp only [Way.far, List.map_cons, List.map_nil, List.sum_cons, List.sum_nil]
      have b1 := mul_bd (hb x (by simp)) (hb x (by simp))
      have b2 := mul_bd (hb y (by simp)) (hb y (by simp))
      have b3 := mul_bd (hb z (by simp)) (hb z (by simp))
      omega
  | form rows =>
    obtain ⟨ds, t, h1, h2, h3, h4, rfl⟩ := hw
    rw [far_form]
    have dd : ∀ d ∈ ds, ∀ x ∈ s, -(6 * 40) ≤ d * x ∧ d * x ≤ 6 * 40 := fun d hd x hx => mul_bd (by have := h2 d hd; omega) (hb x hx)
    have tt : ∀ x ∈ s, -(1 * 40) ≤ t * x ∧ t * x ≤ 1 * 40 := fun x hx => mul_bd ⟨by omega, by omega⟩ (hb x hx)
    rcases hn with rfl | rfl | rfl
    · obtain ⟨a, rfl⟩ := len1 h1
      obtain ⟨x, rfl⟩ := len1 hs
      rw [quad1]
      have d1 := dd a (by simp) x (by simp)
      have b1 := mul_bd (b := 400) (hb x (by simp)) (show -400 ≤ a * x ∧ a * x ≤ 400 by omega)
      omega
    · obtain ⟨a, b, rfl⟩ := len2 h1
      obtain ⟨x, y, rfl⟩ := len2 hs
      rw [quad2]
      have d1 := dd a (by simp) x (by simp)
      have d2 := dd b (by simp) y (by simp)
      have t1 := tt x (by simp)
      have t2 := tt y (by simp)
      have b1 := mul_bd (b := 400) (hb x (by simp)) (show -400 ≤ a * x + t * y ∧ a * x + t * y ≤ 400 by omega)
      have b2 := mul_bd (b := 400) (hb y (by simp)) (show -400 ≤ t * x + b * y ∧ t * x + b * y ≤ 400 by omega)
      omega
    · obtain ⟨a, b, c, rfl⟩ := len3 h1
      obtain ⟨x, y, z, rfl⟩ := len3 hs
      rw [quad3]
      have d1 := dd a (by simp) x (by simp)
      have d2 := dd b (by simp) y (by simp)
      have d3 := dd c (by simp) z (by simp)
      have t1 := tt x (by simp)
      have t2 := tt y (by simp)
      have t3 := tt z (by simp)
      have b1 := mul_bd (b := 400) (hb x (by simp)) (show -400 ≤ a * x + t * y + t * z ∧ a * x + t * y + t * z ≤ 400 by omega)
      have b2 := mul_bd (b := 400) (hb y (by simp)) (show -400 ≤ t * x + b * y + t * z ∧ t * x + b * y + t * z ≤ 400 by omega)
      have b3 := mul_bd (b := 400) (hb z (by simp)) (show -400 ≤ t * x + t * y + c * z ∧ t * x + t * y + c * z ≤ 400 by omega)
      omega
  | _ => cases hr
end K01

set_option Elab.async false
set_option linter.all false
set_option maxRecDepth 100000
set_option maxHeartbeats 4000000
namespace K01
open PySem L2 PD
theorem like_i {i : Int} : K01.run_l_like 8 [.int i, .int i] = some (.bl true) := by
  rw [e_like, like_int]
  simp
theorem gIsNotB_t : gIsNotB (.bl true) (.bl true) = some (.bl false) := rfl
theorem okN_intT (ns : List Int) : okN 64 (intT ns) = true := okN_ints 63 ns
theorem py_ints : ∀ a b : List Int, PyData.eqvAll (pyL (a.map D.int)) (pyL (b.map D.int)) = decide (a = b)
  | [], [] => by simp [pyL, PyData.eqvAll]
  | [], _ :: _ => by simp [pyL, PyData.eqvAll]
  | _ :: _, [] => by simp [pyL, PyData.eqvAll]
  | x :: a, y :: b => by
    simp only [List.map_cons, pyL, PyData.eqvAll, py, PyData.eqv, py_ints a b]
    by_cases h : x = y
    · subst h
      simp
    · simp [h]
theorem gEq_ints (a b : List Int) : gEq (intT a) (intT b) = some (.bl (decide (a = b))) := by
  unfold gEq
  rw [okN_intT, okN_intT]
  have e : eqD (intT a) (intT b) = decide (a = b) := by
    unfold eqD intT
    simp only [py, PyData.eqv]
    exact py_ints a b
  rw [e]
  rfl
theorem seq_frz0 {is : List Nat} {t : Fb} {a b : Cmd} {env : List Sl} {o : Option Out} (h : frzL is env = env) (h1 : t env = some false) (h2 : b env = o) : sSeq (sFrz is (sIf t a sNop)) b env = o := by
  refine seq_nx (e := env) ?_ h2
  show sIf t a sNop (frzL is env) = _
  rw [h]
  exact run_if0 h1 rfl
theorem seq_ex {a b : Cmd} {env : List Sl} {o : Option Out} (P : List Sl → Prop) (h : ∃ e, a env = some (.nx e) ∧ P e) (h2 : ∀ e, P e → b e = o) : sSeq a b env = o := by
  obtain ⟨e, h1, h3⟩ := h
  exact seq_nx h1 (h2 e h3)
/-! forms and weights of ones -/
def idR (n : Nat) : List (List Int) := (rngN n).map fun i => (rngN n).map fun j => if i = j then 1 else 0
theorem idR_ok (n : Nat) : (Way.form (idR n)).ok n := by
  refine ⟨by simp [idR, rngN_len], fun r hr => ?_⟩
  obtain ⟨i, hi, rfl⟩ := List.mem_map.mp hr
  refine ⟨by simp [rngN_len], fun x hx => ?_⟩
  obtain ⟨j, hj, rfl⟩ := List.mem_map.mp hx
  split <;> omega
theorem idR_far {n : Nat} {s : List Int} (hs : s.length = n) (hn : n = 1 ∨ n = 2 ∨ n = 3) : (Way.form (idR n)).far s = Way.air.far s := by
  rcases hn with rfl | rfl | rfl
  · obtain ⟨x, rfl⟩ := len1 hs
    simp [Way.far, idR, rngN, List.range, List.range.loop, dotI]
  · obtain ⟨x, y, rfl⟩ := len2 hs
    simp [Way.far, idR, rngN, List.range, List.range.loop, dotI]
  · obtain ⟨x, y, z, rfl⟩ := len3 hs
    simp [Way.far, idR, rngN, List.range, List.range.loop, dotI]
theorem one_ok (n : Nat) : (Way.weights (List.replicate n 1)).ok n := ⟨by simp, fun w hw => by
  have := (List.mem_replicate.mp hw).2
  omega⟩
theorem one_far {n : Nat} {s : List Int} (hs : s.length = n) (hn : n = 1 ∨ n = 2 ∨ n = 3) : (Way.weights (List.replicate n 1)).far s = Way.steps.far s := by
  rcases hn with rfl | rfl | rfl
  · obtain ⟨x, rfl⟩ := len1 hs
    simp [Way.far, List.replicate]
  · obtain ⟨x, y, rfl⟩ := len2 hs
    simp [Way.far, List.replicate]
  · obtain ⟨x, y, z, rfl⟩ := len3 hs
    simp [Way.far, List.replicate]
theorem ones_mul {n : Nat} (hn : n = 1 ∨ n = 2 ∨ n = 3) : gMulA (.tup [.int 1]) (.int n) = some (intT (List.replicate n 1)) := by
  rcases hn with rfl | rfl | rfl <;> rfl
theorem law_true (ns : List Int) (h : ns.length ≤ 63) : run_law [.scr ns] = some (.bl true) := by
  obtain ⟨rowD, R, hrow, hR, hb, hway⟩ := setup ns
  have b0 := mod_lt (a := R 0) (b := 3) (by omega)
  obtain ⟨n, hn⟩ : ∃ n : Nat, 1 + R 0 % 3 = (n : Int) := ⟨(1 + R 0 % 3).toNat, by omega⟩
  have n123 : n = 1 ∨ n = 2 ∨ n = 3 := by omega
  obtain ⟨W, hW, hg⟩ := hway n (by omega) (by omega)
  have ok := Way.good_ok hg (by omega)
  have hvs := fun (env : List Sl) => vecs_ev (env := env) hR (show n ≤ 3 by omega)
  have lu := vec_len R n 1
  have lv := vec_len R n 4
  have lx := vec_len R n 7
  have su := vec_small R n 1
  have sv := vec_small R n 4
  have sx := vec_small R n 7
  generalize hu : vecAt R n 1 = u at lu su hvs
  generalize hv : vecAt R n 4 = v at lv sv hvs
  generalize hx : vecAt R n 7 = x at lx sx hvs
  have su' : small u := fun z hz => by have := su z hz; omega
  have sv' : small v := fun z hz => by have := sv z hz; omega
  have sx' : small x := fun z hz => by have := sx z hz; omega
  have F : ∀ (w : Way) (p q : List Int), w.ok n → p.length = n → q.length = n → small p → small q → K01.run_far [w.d, intT p, intT q] = some (.int (w.far (subI p q))) := fun w p q hw h1 h2 h3 h4 => by
    rw [e_far]
    exact run_far_ok w p q (by omega) (by rw [h1]; exact hw) (by omega) h3 h4
  have F' : ∀ (w : Way) (p q : List Int), w.ok n → p.length = n → q.length = n → small p → small q → K01.run_l_far [w.d, intT p, intT q] = some (.int (w.far (subI p q))) := fun w p q hw h1 h2 h3 h4 => by
    rw [e_lfar]
    exact run_l_far_ok w p q (by omega) (by rw [h1]; exact hw) (by omega) h3 h4
  have fux := F W u x ok lu lx su' sx'
  have fuv := F W u v ok lu lv su' sv'
  have fvx := F W v x ok lv lx sv' sx'
  have fxu := F W x u ok lx lu sx' su'
  have fuu := F W u u ok lu lu su' su'
  have gux := F' W u x ok lu lx su' sx'
  have guv := F' W u v ok lu lv su' sv'
  have guu := F' W u u ok lu lu su' su'
  -- the plain laws
  have len_ux : (subI u x).length = n := by rw [subI_len (by omega)]; exact lu
  have len_uv : (subI u v).length = n := by rw [subI_len (by omega)]; exact lu
  have len_vx : (subI v x).length = n := by rw [subI_len (by omega)]; exact lv
  have even : W.far (subI x u) = W.far (subI u x) := by
    rw [subI_neg (u := u) (v := x) (by omega)]
    exact far_even hg len_ux n123
  have zero : W.far (subI u u) = 0 := far_zero W hg (by rw [subI_len rfl]; exact lu) n123 (fun z hz => (subI_zero (u := u) (v := u) rfl).mpr rfl z hz)
  have iff0 : decide (W.far (subI u x) = 0) = decide (u = x) := by
    by_cases e : u = x
    · subst e
      simp [zero]
    · have : W.far (subI u x) ≠ 0 := fun z => e ((subI_zero (by omega)).mp (far_def hg len_ux n123 z))
      simp [e, this]
  have split : subI u x = addI (subI u v) (subI v x) := subI_add (by omega) (by omega)
  have bd40 : ∀ p q : List Int, (∀ z ∈ p, -20 ≤ z ∧ z ≤ 20) → (∀ z ∈ q, -20 ≤ z ∧ z ≤ 20) → ∀ z ∈ subI p q, -40 ≤ z ∧ z ≤ 40 := fun p q hp hq z hz => by
    rw [← subI_zip] at hz
    obtain ⟨t, ht, rfl⟩ := List.mem_map.mp hz
    have h1 := hp t.1 (List.of_mem_zip ht).1
    have h2 := hq t.2 (List.of_mem_zip ht).2
    omega
  -- the run
  have r0 : gIx rowD (.int 0) = some (.int (R 0)) := hR 0 (by omega) (by omega)
  refine runC_rt rfl ?_
  refine seq_set (d := rowD) (by simp [hrow]) ?_
  simp only [List.map_cons, List.map_nil, List.cons_append, List.nil_append, List.replicate, List.set_cons_succ, List.set_cons_zero]
  refine seq_set (d := .int n) (by
    simp only [ev_op, ev_call, ev_cons, ev_nil, ev_c, ev_bvar, List.getElem?_cons_succ, List.getElem?_cons_zero, Option.bind_some, slB_val, r0, gInt_i, gMod_i (i := R 0) (show (0:Int) < 3 by omega), gAdd_i, hn]) ?_
  simp only [List.set_cons_succ, List.set_cons_zero]
  refine seq_asg (hvs _ rfl rfl rfl) (e := [.val (.scr ns), .val rowD, .val (.int n), .val (intT u), .val (intT v), .val (intT x), .un, .un, .un, .un, .un, .un, .un, .un, .un, .un, .un, .un, .un, .un, .un, .un, .un, .un, .un]) rfl ?_
  refine seq_set (d := W.d) (by
    simp only [ev_fn, ev_cons, ev_nil, ev_c, ev_var, List.getElem?_cons_succ, List.getElem?_cons_zero, Option.bind_some, slV_val, hW]) ?_
  simp only [List.set_cons_succ, List.set_cons_zero]
  refine seq_par3 (x := .val (.int (W.far (subI u x)))) (y := .val (.int (W.far (subI u v)))) (z := .val (.int (W.far (subI v x)))) ?_ ?_ ?_ ?_
  · simp only [ev_vN, ev_fn, ev_cons, ev_nil, ev_var, List.getElem?_cons_succ, List.getElem?_cons_zero, Option.bind_some, Option.map_some, slV_val, fux]
  · simp only [ev_vN, ev_fn, ev_cons, ev_nil, ev_var, List.getElem?_cons_succ, List.getElem?_cons_zero, Option.bind_some, Option.map_some, slV_val, fuv]
  · simp only [ev_vN, ev_fn, ev_cons, ev_nil, ev_var, List.getElem?_cons_succ, List.getElem?_cons_zero, Option.bind_some, Option.map_some, slV_val, fvx]
  simp only [List.set_cons_succ, List.set_cons_zero]
  refine seq_if0 ?_ ?_
  · simp only [ev_or, ev_not, ev_asT, ev_fn, ev_cons, ev_nil, ev_var, List.getElem?_cons_succ, List.getElem?_cons_zero, Option.bind_some, slV_val, gux, guv, fxu, even, like_i, truD_bl, Bool.not_true, Bool.false_eq_true, if_false]
  refine seq_if0 ?_ ?_
  · simp only [ev_or, ev_not, ev_asT, ev_asB, ev_op, ev_fn, ev_cons, ev_nil, ev_c, ev_var, ev_bvar, List.getElem?_cons_succ, List.getElem?_cons_zero, Option.bind_some, slV_val, slB_val, fuu, zero, like_i, truD_bl, gEq_i, gEq_ints, iff0, gNe_b, blD_bl, beq_self_eq_true, Bool.not_true, Bool.false_eq_true, if_false]
  refine seq_set (d := .bl (rooted W)) (rooted_ev W rfl) ?_
  simp only [List.set_cons_succ, List.set_cons_zero]
  refine seq_if0 ?_ ?_
  · cases hr : rooted W with
    | true =>
      have b1 := far_bd hg len_ux n123 hr (bd40 u x su sx)
      have b2 := far_bd hg len_uv n123 hr (bd40 u v su sv)
      have b3 := far_bd hg len_vx n123 hr (bd40 v x sv sx)
      have k := run_keeps (a := W.far (subI u x)) (b := W.far (subI u v)) (c := W.far (subI v x)) (by omega) (mulOk_r (by omega) (by omega))
      have cs := far_cs hg len_uv len_vx n123 hr
      rw [← split] at cs
      have kt : keepB (W.far (subI u x)) (W.far (subI u v)) (W.far (subI v x)) = true := by
        unfold keepB
        rw [decide_eq_true cs, Bool.or_true]
      rw [kt] at k
      simp only [ev_or, ev_and, ev_not, ev_asT, ev_asB, ev_op, ev_fn, ev_cons, ev_nil, ev_c, ev_var, ev_bvar, List.getElem?_cons_succ, List.getElem?_cons_zero, Option.bind_some, slV_val, slB_val, truD_bl, k, gIsNotB_t, blD_bl, Bool.not_true, Bool.false_eq_true, if_false, if_true]
    | false =>
      have tri := far_tri hg len_uv len_vx (by omega) hr
      rw [← split] at tri
      simp only [ev_or, ev_and, ev_not, ev_asT, ev_asB, ev_op, ev_fn, ev_cons, ev_nil, ev_c, ev_var, ev_bvar, List.getElem?_cons_succ, List.getElem?_cons_zero, Option.bind_some, slV_val, slB_val, truD_bl, gAdd_i, gGt_i, blD_bl, Bool.not_false, Bool.false_eq_true, if_false, if_true]
      rw [decide_eq_false (by omega)]
  -- three numbers
  have hq : ∀ (k : Nat), k < 30 → gIx rowD (.int k) = some (.int (R k)) := fun k hk => by
    have := hR k (by omega) (by omega)
    rw [Int.toNat_natCast] at this
    exact this
  have r20 : gIx rowD (.int 20) = some (.int (R 20)) := hq 20 (by omega)
  have r21 : gIx rowD (.int 21) = some (.int (R 21)) := hq 21 (by omega)
  have r22 : gIx rowD (.int 22) = some (.int (R 22)) := hq 22 (by omega)
  have r23 : gIx rowD (.int 23) = some (.int (R 23)) := hq 23 (by omega)
  have r24 : gIx rowD (.int 24) = some (.int (R 24)) := hq 24 (by omega)
  have b20 := hb 20
  have b21 := hb 21
  have b22 := hb 22
  refine seq_par3 (x := .val (.int (R 20))) (y := .val (.int (R 21))) (z := .val (.int (R 22))) ?_ ?_ ?_ ?_
  · simp only [ev_vN, ev_op, ev_call, ev_cons, ev_nil, ev_c, ev_bvar, List.getElem?_cons_succ, List.getElem?_cons_zero, Option.bind_some, Option.map_some, slB_val, r20, gInt_i]
  · simp only [ev_vN, ev_op, ev_call, ev_cons, ev_nil, ev_c, ev_bvar, List.getElem?_cons_succ, List.getElem?_cons_zero, Option.bind_some, Option.map_some, slB_val, r21, gInt_i]
  · simp only [ev_vN, ev_op, ev_call, ev_cons, ev_nil, ev_c, ev_bvar, List.getElem?_cons_succ, List.getElem?_cons_zero, Option.bind_some, Option.map_some, slB_val, r22, gInt_i]
  simp only [List.set_cons_succ, List.set_cons_zero]
  refine seq_ex (fun e => ∃ X Y Z : Int, (-18446744073709551616 < X - Y - Z ∧ X - Y - Z < 18446744073709551616) ∧ mulOk (4 * Y) Z = true ∧ e = [.val (.scr ns), .val rowD, .val (.int n), .val (intT u), .val (intT v), .val (intT x), .val W.d, .val (.int (W.far (subI u x))), .val (.int (W.far (subI u v))), .val (.int (W.far (subI v x))), .val (.bl (rooted W)), .val (.int X), .val (.int Y), .val (.int Z), .un, .un, .un, .un, .un, .un, .un, .un, .un, .un, .un]) ?_ ?_
  · have b23 := mod_lt (a := R 23) (b := 3) (by omega)
    by_cases hc : R 23 % 3 = 1
    · have by1 := mod_lt (a := R 21) (b := 30) (by omega)
      have bz1 := mod_lt (a := R 22) (b := 30) (by omega)
      have bq := mod_lt (a := R 20) (b := 3) (by omega)
      generalize ey : R 21 % 30 = y at by1
      generalize ez : R 22 % 30 = z at bz1
      generalize eq0 : R 20 % 3 = q at bq
      have m1 := mul_bd (x := y) (y := y) (a := 30) (b := 30) (by omega) (by omega)
      have m2 := mul_bd (x := z) (y := z) (a := 30) (b := 30) (by omega) (by omega)
      have m3 := mul_bd (x := 2 * y) (y := z) (a := 60) (b := 30) (by omega) (by omega)
      refine ⟨_, run_if1 ?_ (seq_par (x := .val (.int y)) (y := .val (.int z)) ?_ ?_ (seq_set (d := .int (y * y + 2 * y * z + z * z + q - 1)) ?_ (run_par (x := .val (.int (y * y))) (y := .val (.int (z * z))) ?_ ?_))), y * y + 2 * y * z + z * z + q - 1, y * y, z * z, by omega, mulOk_r (by omega) (by omega), rfl⟩
      · simp only [ev_asB, ev_op, ev_c, ev_bvar, List.getElem?_cons_succ, List.getElem?_cons_zero, Option.bind_some, slB_val, r23, gMod_i (i := R 23) (show (0:Int) < 3 by omega), gEq_i, blD_bl, hc, decide_true]
      · simp only [ev_vN, ev_op, ev_call, ev_cons, ev_nil, ev_c, ev_bvar, List.getElem?_cons_succ, List.getElem?_cons_zero, Option.bind_some, Option.map_some, slB_val, r21, gInt_i, gMod_i (i := R 21) (show (0:Int) < 30 by omega), ey]
      · simp only [ev_vN, ev_op, ev_call, ev_cons, ev_nil, ev_c, ev_bvar, List.getElem?_cons_succ, List.getElem?_cons_zero, Option.bind_some, Option.map_some, slB_val, r22, gInt_i, gMod_i (i := R 22) (show (0:Int) < 30 by omega), ez]
      · simp only [ev_op, ev_call, ev_cons, ev_nil, ev_c, ev_bvar, List.set_cons_succ, List.set_cons_zero, List.getElem?_cons_succ, List.getElem?_cons_zero, Option.bind_some, slB_val, r20, gInt_i, gMod_i (i := R 20) (show (0:Int) < 3 by omega), eq0, gMul_i (mulOk_l (i := y) (j := y) (by omega) (by omega)), gMul_i (mulOk_l (i := z) (j := z) (by omega) (by omega)), gMul_i (mulOk_l (i := 2) (j := y) (by omega) (by omega)), gMul_i (mulOk_r (i := 2 * y) (j := z) (by omega) (by omega)), gAdd_i, gSub_i]
      · simp only [ev_vN, ev_op, ev_bvar, List.set_cons_succ, List.set_cons_zero, List.getElem?_cons_succ, List.getElem?_cons_zero, Option.bind_some, Option.map_some, slB_val, gMul_i (mulOk_l (i := y) (j := y) (by omega) (by omega))]
      · simp only [ev_vN, ev_op, ev_bvar, List.set_cons_succ, List.set_cons_zero, List.getElem?_cons_succ, List.getElem?_cons_zero, Option.bind_some, Option.map_some, slB_val, gMul_i (mulOk_l (i := z) (j := z) (by omega) (by omega))]
    · refine ⟨_, run_if0 ?_ rfl, R 20, R 21, R 22, by omega, mulOk_r (by omega) (by omega), rfl⟩
      simp only [ev_asB, ev_op, ev_c, ev_bvar, List.getElem?_cons_succ, List.getElem?_cons_zero, Option.bind_some, slB_val, r23, gMod_i (i := R 23) (show (0:Int) < 3 by omega), gEq_i, blD_bl, decide_eq_false hc]
  rintro e ⟨X, Y, Z, hX, hY, rfl⟩
  have kk := run_keeps (a := X) (b := Y) (c := Z) hX hY
  refine seq_set (d := .bl (keepB X Y Z)) ?_ ?_
  · have g1 := gMul_i (mulOk_l (i := X - Y - Z) (j := X - Y - Z) hX.1 hX.2)
    have g2 := gMul_i (mulOk_l (i := 4) (j := Y) (by omega) (by omega))
    have g3 := gMul_i hY
    simp only [ev_eor, ev_op, ev_c, ev_bvar, List.getElem?_cons_succ, List.getElem?_cons_zero, Option.bind_some, slB_val, gSub_i, gLe_i, g1, g2, g3, blD_bl]
    unfold keepB
    by_cases h : X - Y - Z ≤ 0
    · simp only [decide_eq_true h, if_true, Bool.true_or]
    · simp only [decide_eq_false h, Bool.false_eq_true, if_false, Bool.false_or]
  simp only [List.set_cons_succ, List.set_cons_zero]
  refine seq_if0 ?_ ?_
  · have lb : ∀ k : Bool, K01.run_l_like 8 [.bl k, .bl k] = some (.bl true) := fun k => by
      rw [e_like, like_bool]
      simp
    by_cases h0 : 0 ≤ X
    · simp only [ev_and, ev_not, ev_asT, ev_asB, ev_op, ev_fn, ev_cons, ev_nil, ev_c, ev_var, ev_bvar, List.getElem?_cons_succ, List.getElem?_cons_zero, Option.bind_some, slV_val, slB_val, gGe_i, blD_bl, decide_eq_true h0, kk, lb, truD_bl, Bool.not_true, if_true]
    · simp only [ev_and, ev_asB, ev_op, ev_c, ev_bvar, List.getElem?_cons_succ, List.getElem?_cons_zero, Option.bind_some, slB_val, gGe_i, blD_bl, decide_eq_false h0, Bool.false_eq_true, if_false]
  -- ones
  refine seq_setO (ds := []) rfl ?_
  simp only [List.set_cons_succ, List.set_cons_zero]
  have hrg : ∀ env : List Sl, env[2]? = some (.val (.int n)) → iRg1 (aCons (bVar 2) aNil) env = some ((rngN n).map D.int) := fun env h => by
    have := ev_rg1 (fl := aCons (bVar 2) aNil) (env := env) (j := n) (by simp [h]) (by omega) (by omega)
    rw [this, Int.toNat_natCast]
  refine seq_for (fun ys => [.val (.scr ns), .val rowD, .val (.int n), .val (intT u), .val (intT v), .val (intT x), .val W.d, .val (.int (W.far (subI u x))), .val (.int (W.far (subI u v))), .val (.int (W.far (subI v x))), .val (.bl (rooted W)), .val (.int X), .val (.int Y), .val (.int Z), .val (.bl (keepB X Y Z)),
    .own (ys.map fun i => intT ((rngN n).map fun j => if i = j then 1 else 0)), lastS ys, .un, .un, .un, .un, .un, .un, .un, .un]) (hrg _ rfl) rfl (fun ys i zs hi => ?_) ?_
  · have hyl : ys.length < n := by
      have := congrArg List.length hi
      rw [rngN_len, List.length_append, List.length_cons] at this
      omega
    refine ⟨_, rfl, .inl ?_⟩
    have hf := fLc_map (own := [21]) (it := iRg1 (aCons (bVar 2) aNil)) (t := gNm 21) (c := tYesF) (y := eCall gInt (aCons (eOp gEq (bVar 16) (bVar 21)) aNil)) (g := fun j : Int => D.int (if i = j then 1 else 0))
      (env := [.val (.scr ns), .val rowD, .val (.int n), .val (intT u), .val (intT v), .val (intT x), .val W.d, .val (.int (W.far (subI u x))), .val (.int (W.far (subI u v))), .val (.int (W.far (subI v x))), .val (.bl (rooted W)), .val (.int X), .val (.int Y), .val (.int Z), .val (.bl (keepB X Y Z)), .own (ys.map fun i => intT ((rngN n).map fun j => if i = j then 1 else 0)), .val (.int i), .un, .un, .un, .un, .un, .un, .un, .un])
      (hrg _ rfl) (by rw [rngN_len]; omega) (fun j hj => by
      refine ⟨_, rfl, rfl, ?_⟩
      simp only [ev_op, ev_call, ev_cons, ev_nil, ev_bvar, wipe_cons, wipe_nil, List.set_cons_succ, List.set_cons_zero, List.getElem?_cons_succ, List.getElem?_cons_zero, Option.bind_some, slB_val, gEq_i, gInt_b, decide_eq_true_eq])
    have hap := run_app (i := 15) (env := [.val (.scr ns), .val rowD, .val (.int n), .val (intT u), .val (intT v), .val (intT x), .val W.d, .val (.int (W.far (subI u x))), .val (.int (W.far (subI u v))), .val (.int (W.far (subI v x))), .val (.bl (rooted W)), .val (.int X), .val (.int Y), .val (.int Z), .val (.bl (keepB X Y Z)), .own (ys.map fun i => intT ((rngN n).map fun j => if i = j then 1 else 0)), .val (.int i), .un, .un, .un, .un, .un, .un, .un, .un])
      (f := eCall gTuple (aCons (asL (fLc [21] (iRg1 (aCons (bVar 2) aNil)) (gNm 21) tYesF (eCall gInt (aCons (eOp gEq (bVar 16) (bVar 21)) aNil)))) aNil)) (d := intT ((rngN n).map fun j => if i = j then 1 else 0)) (by
        rw [ev_call, ev_cons, ev_asL, hf, lst_map (f := fun j : Int => if i = j then 1 else 0) (fun _ => rfl)]
        rfl) rfl (by rw [List.length_map]; omega)
    refine hap.trans ?_
    rw [lastS_snoc, List.map_append]
    rfl
  refine seq_set (d := .tup ((idR n).map intT)) (by
    simp only [ev_call, ev_cons, ev_nil, ev_bvar, List.getElem?_cons_succ, List.getElem?_cons_zero, Option.bind_some, slB_own, gTuple_l]
    unfold idR
    rw [List.map_map]
    rfl) ?_
  simp only [List.set_cons_succ, List.set_cons_zero]
  have f1 := F (.form (idR n)) u v (idR_ok n) lu lv su' sv'
  have f2 := F .air u v trivial lu lv su' sv'
  have f3 := F (.weights (List.replicate n 1)) u v (one_ok n) lu lv su' sv'
  have f4 := F .steps u v trivial lu lv su' sv'
  rw [idR_far len_uv n123] at f1
  rw [one_far len_uv n123] at f3
  have t1 : mkT [.str (PySem.Str.ofString "form"), .tup ((idR n).map intT)] = some (Way.form (idR n)).d := rfl
  have t2 : mkT [.str (PySem.Str.ofString "weights"), intT (List.replicate n 1)] = some (Way.weights (List.replicate n 1)).d := rfl
  have t3 : mkT [.int 1] = some (.tup [.int 1]) := rfl
  have ev_tup : ∀ (f : Fl) (env : List Sl), eTup f env = (f env).bind mkT := fun _ _ => rfl
  have f2' : K01.run_far [.str (PySem.Str.ofString "air"), intT u, intT v] = some (.int (Way.air.far (subI u v))) := f2
  have f4' : K01.run_far [.str (PySem.Str.ofString "steps"), intT u, intT v] = some (.int (Way.steps.far (subI u v))) := f4
  refine seq_frz0 ?_ ?_ ?_
  · rw [frz_cons, frz_val rfl, frz_nil]
  · simp only [ev_or, ev_asB, ev_op, ev_fn, ev_cons, ev_nil, ev_c, ev_var, ev_bvar, ev_tup, List.getElem?_cons_succ, List.getElem?_cons_zero, Option.bind_some, slV_val, slB_val, t1, t2, t3, ones_mul n123, f1, f2', f3, f4', gNe_i, blD_bl, decide_true, Bool.not_true, Bool.false_eq_true, if_false]
  -- the shelf
  have t4 : ∀ (k t : Int) (z : List Int), mkT [.int k, intT z, .int t] = some (It3.d ⟨k, z, t⟩) := fun k t z => rfl
  have t5 : mkT [It3.d ⟨3, u, 0⟩, It3.d ⟨5, v, 1⟩, It3.d ⟨8, x, 2⟩] = some (.tup ([⟨3, u, 0⟩, ⟨5, v, 1⟩, ⟨8, x, 2⟩].map It3.d)) := rfl
  refine seq_set (d := .tup ([⟨3, u, 0⟩, ⟨5, v, 1⟩, ⟨8, x, 2⟩].map It3.d)) (by
    simp only [ev_cons, ev_nil, ev_c, ev_var, ev_tup, List.getElem?_cons_succ, List.getElem?_cons_zero, Option.bind_some, slV_val, t4, t5]) ?_
  simp only [List.set_cons_succ, List.set_cons_zero]
  generalize hit : ([⟨3, u, 0⟩, ⟨5, v, 1⟩, ⟨8, x, 2⟩] : List It3) = items
  have hitem : ∀ z ∈ items, z.vec.length = u.length ∧ small z.vec := fun z hz => by
    rw [← hit] at hz
    simp only [List.mem_cons, List.not_mem_nil, or_false] at hz
    rcases hz with rfl | rfl | rfl
    · exact ⟨rfl, su'⟩
    · exact ⟨lv.trans lu.symm, sv'⟩
    · exact ⟨lx.trans lu.symm, sx'⟩
  have il : items.length = 3 := by rw [← hit]; rfl
  refine seq_set (d := .lst ((sortP (pairsOf W u items)).map pairD)) ?_ ?_
  · have hf := fLc_map (own := [22, 23, 24]) (it := iSeq (bVar 17)) (t := gTp (gsCons (gNm 22) (gsCons (gNm 23) (gsCons (gNm 24) gsNil)))) (c := tYesF) (y := eTup (aCons (eFn K01.run_l_far (aCons (eVar 6) (aCons (eVar 3) (aCons (eVar 23) aNil)))) (aCons (eVar 22) aNil)))
      (env := [.val (.scr ns), .val rowD, .val (.int n), .val (intT u), .val (intT v), .val (intT x), .val W.d, .val (.int (W.far (subI u x))), .val (.int (W.far (subI u v))), .val (.int (W.far (subI v x))), .val (.bl (rooted W)), .val (.int X), .val (.int Y), .val (.int Z), .val (.bl (keepB X Y Z)), .val (.tup ((idR n).map intT)), lastS (rngN n), .val (.tup (items.map It3.d)), .un, .un, .un, .un, .un, .un, .un])
      (enc := It3.d) (g := fun z => pairD (W.far (subI u z.vec), z.key)) (xs := items) rfl (by omega) (fun z hz => by
        obtain ⟨h1, h2⟩ := hitem z hz
        refine ⟨[.val (.scr ns), .val rowD, .val (.int n), .val (intT u), .val (intT v), .val (intT x), .val W.d, .val (.int (W.far (subI u x))), .val (.int (W.far (subI u v))), .val (.int (W.far (subI v x))), .val (.bl (rooted W)), .val (.int X), .val (.int Y), .val (.int Z), .val (.bl (keepB X Y Z)), .val (.tup ((idR n).map intT)), lastS (rngN n), .val (.tup (items.map It3.d)), .un, .un, .un, .un, .val (.int z.key), .val (intT z.vec), .val (.int z.tag)], rfl, rfl, ?_⟩
        have := F' W u z.vec ok lu (by omega) su' h2
        simp only [ev_tup, ev_cons, ev_fn, ev_var, ev_nil, List.getElem?_cons_succ, List.getElem?_cons_zero, Option.bind_some, slV_val, this]
        rfl)
    rw [ev_asL, ev_fcall, ev_cons, ev_asL, hf]
    have e : items.map (fun z => pairD (W.far (subI u z.vec), z.key)) = (pairsOf W u items).map pairD := by
      unfold pairsOf
      rw [List.map_map]
      rfl
    rw [e]
    simp only [Option.map_some, Option.bind_some, ev_nil, gSortA_pair]
  simp only [List.set_cons_succ, List.set_cons_zero]
  refine seq_set (d := .int (R 24 % 5)) (by
    simp only [ev_op, ev_call, ev_cons, ev_nil, ev_c, ev_bvar, List.getElem?_cons_succ, List.getElem?_cons_zero, Option.bind_some, slB_val, r24, gInt_i, gMod_i (i := R 24) (show (0:Int) < 5 by omega)]) ?_
  simp only [List.set_cons_succ, List.set_cons_zero]
  refine run_ret ?_
  have near : K01.run_nearest [.tup (items.map It3.d), intT u, W.d, .int (R 24 % 5)] = some (.tup (cutD ((sortP (pairsOf W u items)).map pairD) none (some (R 24 % 5)))) := by
    rw [e_near]
    exact run_near W u items (R 24 % 5) (by rw [lu]; exact ok) (by omega) su' hitem (by omega)
  have ev_sl : ∀ (f : Fe) (lo hi : Fo) (env : List Sl), eSl f lo hi env = (f env).bind fun x => (lo env).bind fun l => (hi env).bind fun h => gSl x l h := fun _ _ _ _ => rfl
  have ev_no : ∀ env : List Sl, oNo env = some none := fun _ => rfl
  have ev_yes : ∀ (env : List Sl), env[19]? = some (.val (.int (R 24 % 5))) → oYes (bVar 19) env = some (some (R 24 % 5)) := fun env h => by
    unfold oYes
    rw [ev_bvar, h]
    rfl
  have lk : K01.run_l_like 8 [.tup (cutD ((sortP (pairsOf W u items)).map pairD) none (some (R 24 % 5))), .tup (cutD ((sortP (pairsOf W u items)).map pairD) none (some (R 24 % 5)))] = some (.bl true) := by
    rw [e_like, cutD_map]
    refine like_refl 8 _ (okL_pairs 5 _ ?_)
    have h1 := cutD_len (sortP (pairsOf W u items)) none (some (R 24 % 5))
    have h2 : (sortP (pairsOf W u items)).length = 3 := by
      unfold sortP pairsOf
      rw [List.length_mergeSort, List.length_map, il]
    omega
  have gsl : ∀ (xs : List D) (l h : Option Int), gSl (.lst xs) l h = some (.lst (cutD xs l h)) := fun _ _ _ => rfl
  simp only [ev_fn, ev_call, ev_cons, ev_nil, ev_var, ev_bvar, ev_sl, ev_no, List.getElem?_cons_succ, List.getElem?_cons_zero, Option.bind_some, slV_val, slB_val, near]
  rw [ev_yes _ rfl]
  simp only [Option.bind_some, gsl, gTuple_l, lk]
end K01
open PySem PySem.W PyProof.Rows
set_option maxHeartbeats 0 in
theorem PySem.Challenge.cw_farkept_k01_whole_ways_holds : PySem.Challenge.rw_farkept_k01_whole_ways.Holds := by
  w_on; o_law; k_head; (case hw => w_witness2)
  k_fill
  refine L2.walk_of (l := PySem.Challenge.rw_farkept_k01_whole_ways) (n := 63) (k := 10) (x := "script") (CX := fun _ => L2.CX0) (sp := fun w => PD.spD _ K01.run_law 1) rfl (by decide) rfl ⟨rfl, by decide, by decide⟩ (fun w h Y => PySem.W.kIn_of Y) ?F (fun _ _ a ns hl _ hS => PD.law_sp (K01.law_true ns hl) hS) (fun _ _ _ _ _ h => h)
  case F =>
    intro w mg fa h KX G hmg
    refine' K01.all_mk KX G hmg ?a0 ?l0 ?c0 ?k0 ?a1 ?l1 ?c1 ?k1 ?a2 ?l2 ?c2 ?k2 ?a3 ?l3 ?c3 ?k3 ?a4 ?l4 ?c4 ?k4 ?a5 ?l5 ?c5 ?k5 ?a6 ?l6 ?c6 ?k6 ?a7 ?l7 ?c7 ?k7 ?a8 ?l8 ?c8 ?k8 ?a9 ?l9 ?c9 ?k9 ?a10 ?l10 ?c10 ?k10 ?z0 ?z1 ?z2 ?z3 ?z4 ?z5 ?z6 ?z7 ?z8 ?z9 ?z10 ?z11 ?z12
    (case a0 => k_is); (case l0 => k_is); (case c0 => k_is); (case k0 => k_is); (case a1 => k_is); (case l1 => k_is); (case c1 => k_is); (case k1 => k_is); (case a2 => k_is); (case l2 => k_is); (case c2 => k_is); (case k2 => k_is); (case a3 => k_is); (case l3 => k_is); (case c3 => k_is); (case k3 => k_is); (case a4 => k_is); (case l4 => k_is); (case c4 => k_is); (case k4 => k_is); (case a5 => k_is); (case l5 => k_is); (case c5 => k_is); (case k5 => k_is); (case a6 => k_is); (case l6 => k_is); (case c6 => k_is); (case k6 => k_is); (case a7 => k_is); (case l7 => k_is); (case c7 => k_is); (case k7 => k_is); (case a8 => k_is); (case l8 => k_is); (case c8 => k_is); (case k8 => k_is); (case a9 => k_is); (case l9 => k_is); (case c9 => k_is); (case k9 => k_is); (case a10 => k_is); (case l10 => k_is); (case c10 => k_is); (case k10 => k_is); (case z0 => k_is); (case z1 => k_is); (case z2 => k_is); (case z3 => k_is); (case z4 => k_is); (case z5 => k_is); (case z6 => k_is); (case z7 => k_is); (case z8 => k_is); (case z9 => k_is); (case z10 => k_is); (case z11 => k_is); (case z12 => k_is)

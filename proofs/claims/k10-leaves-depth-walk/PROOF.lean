import PyProof.Rows.All
import Wide.All
import OpenK.AllK
import Wide.FinOn
import PyProof.EqAt
import PyProof.EqKinds
import PyProof.TupleCall
import HandS.ForMost
import HandS.ForExc
import HandS.Zip
import HandS.Defaults
import HandS.IsInst
import KE.KOpsOwn
import HandS.HeadHook1
import HandS.HeadHook2
import HandS.ClsMeth
import PySem.Challenge.RW_lessways_k10_leaves_depth_walk
import KE.KStateDown
import Lean
import HandS.Head0
import HandS.Head1
import HandS.Head2
import HandS.HeadEnd
import KE.GoesMore
import PyProof.EnumMake
import HandS.Star
import HandS.List
import HandS.OwnEq
import PyProof.NeKinds
import KE.KFmtOwn
import HandS.Dict
import HandS.ExcSuper
import HandS.ExcInit
import KE.KSuper
import HandS.ExcField
import HandS.CallSlots
import HandS.DictEq
import HandS.TupAny
import HandS.More
import HandS.TryOnly
import HandS.Wide
section
set_option Elab.async false
set_option linter.all false
set_option maxRecDepth 100000
set_option maxHeartbeats 2000000
namespace DL
open PySem PySem.Spec PyProof.Rows L2
/-! ### data: what a value is, without the heap -/
inductive D where
  | non | bl (b : Bool) | int (i : Int) | str (x : Str) | ty (n : String)
  | lst (xs : List D) | tup (xs : List D)
  | ins (C : Addr) (fs : List (Str × D))
  | ref (a : Addr)
  | raw (o : HO)
mutual
/-- the value v is the datum in the heap F (whose objects do not change any more) -/
def Is (K : PySem.W.Frag) (F : Hp) : D → V → Prop
  | .non, v => v = .non
  | .bl b, v => v = .bl b
  | .int i, v => v = .int i
  | .str x, v => v = .str x
  | .ty n, v => v = .ty n
  | .lst xs, v => ∃ a vs, v = .ref a ∧ SqL K F a vs ∧ IsL K F xs vs
  | .tup xs, v => ∃ a vs, v = .ref a ∧ SqT K F a vs ∧ IsL K F xs vs
  | .ins C fs, v => ∃ a dx gs, v = .ref a ∧ F a = some (.ins C dx gs) ∧ IsF K F fs gs
  | .ref a, v => v = .ref a
  | .raw o, v => ∃ a, v = .ref a ∧ F a = some o
def IsL (K : PySem.W.Frag) (F : Hp) : List D → List V → Prop
  | [], vs => vs = []
  | d :: ds, vs => ∃ v r, vs = v :: r ∧ Is K F d v ∧ IsL K F ds r
def IsF (K : PySem.W.Frag) (F : Hp) : List (Str × D) → List (Str × V) → Prop
  | [], gs => gs = []
  | (f, d) :: r, gs => ∃ v t, gs = (f, v) :: t ∧ Is K F d v ∧ IsF K F r t
end
theorem Same.tq {K : PySem.W.Frag} {H H' : Hp} {a : Addr} {xs : List V} (e : Same H H') (h : SqT K H a xs) : SqT K H' a xs := by
  rcases h with (h | ⟨o, h⟩) | h
  · exact .inl (.inl (e _ _ h))
  · exact .inl (.inr ⟨o, e _ _ h⟩)
  · exact .inr h
section
variable {K : PySem.W.Frag} {F F' : Hp}
mutual
theorem Is.mono (e : Same F F') : ∀ (d : D) (v : V), Is K F d v → Is K F' d v
  | .non, v, h => h
  | .bl b, v, h => h
  | .int i, v, h => h
  | .str x, v, h => h
  | .ty n, v, h => h
  | .lst xs, v, ⟨a, vs, h1, h2, h3⟩ => ⟨a, vs, h1, e.seq h2, IsL.mono e xs vs h3⟩
  | .tup xs, v, ⟨a, vs, h1, h2, h3⟩ => ⟨a, vs, h1, Same.tq e h2, IsL.mono e xs vs h3⟩
  | .ins C fs, v, ⟨a, dx, gs, h1, h2, h3⟩ => ⟨a, dx, gs, h1, e _ _ h2, IsF.mono e fs gs h3⟩
  | .ref a, v, h => h
  | .raw o, v, ⟨a, h1, h2⟩ => ⟨a, h1, e _ _ h2⟩
theorem IsL.mono (e : Same F F') : ∀ (ds : List D) (vs : List V), IsL K F ds vs → IsL K F' ds vs
  | [], vs, h => h
  | d :: ds, vs, ⟨v, r, h1, h2, h3⟩ => ⟨v, r, h1, Is.mono e d v h2, IsL.mono e ds r h3⟩
theorem IsF.mono (e : Same F F') : ∀ (fs : List (Str × D)) (gs : List (Str × V)), IsF K F fs gs → IsF K F' fs gs
  | [], gs, h => h
  | (f, d) :: r, gs, ⟨v, t, h1, h2, h3⟩ => ⟨v, t, h1, Is.mono e d v h2, IsF.mono e r t h3⟩
end
theorem IsL.len : ∀ {ds : List D} {vs : List V}, IsL K F ds vs → ds.length = vs.length
  | [], vs, h => by rw [show vs = [] from h]; rfl
  | d :: ds, vs, ⟨v, r, h1, h2, h3⟩ => by rw [h1, List.length_cons, List.length_cons, IsL.len h3]
theorem IsL.get : ∀ {ds : List D} {vs : List V} {i : Nat} {v : V}, IsL K F ds vs → vs[i]? = some v → ∃ d, ds[i]? = some d ∧ Is K F d v
  | [], vs, i, v, h, e => by rw [show vs = [] from h] at e; simp at e
  | d :: ds, vs, 0, v, ⟨w, r, h1, h2, h3⟩, e => by
    rw [h1] at e; simp at e; subst e; exact ⟨d, rfl, h2⟩
  | d :: ds, vs, i + 1, v, ⟨w, r, h1, h2, h3⟩, e => by
    rw [h1] at e; simp at e
    obtain ⟨d', e1, e2⟩ := IsL.get (i := i) h3 e
    exact ⟨d', by simpa using e1, e2⟩
theorem IsL.get' {ds : List D} {vs : List V} {i : Nat} {d : D} (h : IsL K F ds vs) (e : ds[i]? = some d) : ∃ v, vs[i]? = some v ∧ Is K F d v := by
  have hl := h.len
  have hi : i < vs.length := by
    have := (List.getElem?_eq_some_iff.mp e).1
    omega
  obtain ⟨d', e1, e2⟩ := h.get (List.getElem?_eq_getElem hi)
  rw [e] at e1
  cases e1
  exact ⟨_, List.getElem?_eq_getElem hi, e2⟩
theorem IsL.app : ∀ {ds es : List D} {vs ws : List V}, IsL K F ds vs → IsL K F es ws → IsL K F (ds ++ es) (vs ++ ws)
  | [], es, vs, ws, h, g => by rw [show vs = [] from h]; exact g
  | d :: ds, es, vs, ws, ⟨v, r, h1, h2, h3⟩, g => ⟨v, r ++ ws, by rw [h1]; rfl, h2, IsL.app h3 g⟩
theorem IsL.set : ∀ {ds : List D} {vs : List V} {i : Nat} {d : D} {v : V}, IsL K F ds vs → Is K F d v → IsL K F (ds.set i d) (vs.set i v)
  | [], vs, i, d, v, h, g => by rw [show vs = [] from h]; exact rfl
  | d0 :: ds, vs, 0, d, v, ⟨w, r, h1, h2, h3⟩, g => ⟨v, r, by rw [h1]; rfl, g, h3⟩
  | d0 :: ds, vs, i + 1, d, v, ⟨w, r, h1, h2, h3⟩, g => ⟨w, r.set i v, by rw [h1]; rfl, h2, IsL.set h3 g⟩
theorem IsL.drop : ∀ {ds : List D} {vs : List V} (n : Nat), IsL K F ds vs → IsL K F (ds.drop n) (vs.drop n)
  | ds, vs, 0, h => h
  | [], vs, n + 1, h => by rw [show vs = [] from h]; exact rfl
  | d :: ds, vs, n + 1, ⟨v, r, h1, h2, h3⟩ => by rw [h1]; exact IsL.drop n h3
theorem IsL.take : ∀ {ds : List D} {vs : List V} (n : Nat), IsL K F ds vs → IsL K F (ds.take n) (vs.take n)
  | ds, vs, 0, h => rfl
  | [], vs, n + 1, h => by rw [show vs = [] from h]; exact rfl
  | d :: ds, vs, n + 1, ⟨v, r, h1, h2, h3⟩ => by rw [h1]; exact ⟨v, r.take n, rfl, h2, IsL.take n h3⟩
theorem IsL.one {d : D} {v : V} (h : Is K F d v) : IsL K F [d] [v] := ⟨v, [], rfl, h, rfl⟩
theorem IsF.look : ∀ {fs : List (Str × D)} {gs : List (Str × V)} {f : Str} {d : D}, IsF K F fs gs → fs.lookup f = some d → ∃ v, gs.lookup f = some v ∧ Is K F d v
  | [], gs, f, d, h, e => by simp at e
  | (g, d0) :: r, gs, f, d, ⟨v, t, h1, h2, h3⟩, e => by
    rw [h1]
    by_cases hg : f = g
    · subst hg
      simp [List.lookup] at e ⊢
      subst e
      exact h2
    · have hb : (f == g) = false := beq_eq_false_iff_ne.mpr hg
      simp only [List.lookup, hb] at e ⊢
      exact IsF.look h3 e
theorem IsF.lookN : ∀ {fs : List (Str × D)} {gs : List (Str × V)} {f : Str}, IsF K F fs gs → fs.lookup f = none → gs.lookup f = none
  | [], gs, f, h, e => by rw [show gs = [] from h]; rfl
  | (g, d0) :: r, gs, f, ⟨v, t, h1, h2, h3⟩, e => by
    rw [h1]
    by_cases hg : f = g
    · subst hg
      simp [List.lookup] at e
    · have hb : (f == g) = false := beq_eq_false_iff_ne.mpr hg
      simp only [List.lookup, hb] at e ⊢
      exact IsF.lookN h3 e
theorem IsF.len : ∀ {fs : List (Str × D)} {gs : List (Str × V)}, IsF K F fs gs → fs.length = gs.length
  | [], gs, h => by rw [show gs = [] from h]; rfl
  | (f, d) :: r, gs, ⟨v, t, h1, h2, h3⟩ => by rw [h1, List.length_cons, List.length_cons, IsF.len h3]
end
/-- a field stored -/
def putD (f : Str) (d : D) : List (Str × D) → List (Str × D)
  | [] => [(f, d)]
  | (g, x) :: r => if g = f then (g, d) :: r else (g, x) :: putD f d r
theorem IsF.put {K : PySem.W.Frag} {F : Hp} {f : Str} {d : D} {v : V} (hd : Is K F d v) : ∀ {fs : List (Str × D)} {gs : List (Str × V)}, IsF K F fs gs → IsF K F (putD f d fs) (putF f v gs)
  | [], gs, h => by rw [show gs = [] from h]; exact ⟨v, [], rfl, hd, rfl⟩
  | (g, d0) :: r, gs, ⟨w, t, h1, h2, h3⟩ => by
    rw [h1]
    show IsF K F (if g = f then (g, d) :: r else (g, d0) :: putD f d r) (if g = f then (g, v) :: t else (g, w) :: putF f v t)
    by_cases hg : g = f
    · rw [if_pos hg, if_pos hg]
      exact ⟨v, t, rfl, hd, h3⟩
    · rw [if_neg hg, if_neg hg]
      exact ⟨w, _, rfl, h2, IsF.put hd h3⟩
/-! ### the store of what may change -/
inductive MO where
  | lst (xs : List D) | ins (C : Addr) (fs : List (Str × D))
abbrev Mu := Addr → Option MO
def updM (m : Mu) (a : Addr) (o : MO) : Mu := fun b => if b = a then some o else m b
def delM (m : Mu) (a : Addr) : Mu := fun b => if b = a then none else m b
theorem updM_same {m : Mu} {a : Addr} {o : MO} : updM m a o a = some o := if_pos rfl
theorem updM_ne {m : Mu} {a b : Addr} {o : MO} (h : b ≠ a) : updM m a o b = m b := if_neg h
theorem updM_updM {m : Mu} {a : Addr} {o u : MO} : updM (updM m a o) a u = updM m a u := by
  funext b
  unfold updM
  by_cases h : b = a
  · rw [if_pos h, if_pos h]
  · rw [if_neg h, if_neg h, if_neg h]
theorem delM_same {m : Mu} {a : Addr} : delM m a a = none := if_pos rfl
theorem delM_ne {m : Mu} {a b : Addr} (h : b ≠ a) : delM m a b = m b := if_neg h
theorem del_upd {m : Mu} {a : Addr} {o : MO} (h : m a = none) : delM (updM m a o) a = m := by
  funext b
  unfold delM updM
  by_cases hb : b = a
  · rw [if_pos hb, hb, h]
  · rw [if_neg hb, if_neg hb]
def MIs (K : PySem.W.Frag) (F H : Hp) (a : Addr) : MO → Prop
  | .lst xs => ∃ vs, H a = some (.lst vs) ∧ IsL K F xs vs
  | .ins C fs => ∃ dx gs, H a = some (.ins C dx gs) ∧ IsF K F fs gs
structure Wd (K : PySem.W.Frag) (F H : Hp) (m : Mu) : Prop where
  same : Same F H
  st : ∀ a o, m a = some o → F a = none ∧ MIs K F H a o
structure Stp (m : Mu) (F H : Hp) (m' : Mu) (F' H' : Hp) : Prop where
  same : Same F F'
  frame : ∀ a o, m a = none → H a = some o → H' a = some o
  new : ∀ a, m a = none → m' a ≠ none → H a = none
  fnew : ∀ a, F a = none → F' a ≠ none → H a = none ∨ m a ≠ none
section
variable {K : PySem.W.Frag} {F F1 F2 F' H H1 H2 H' : Hp} {m m1 m2 m' : Mu} {a : Addr} {o : MO}
theorem MIs.mono (s : Same F F') (s2 : ∀ u, H a = some u → H' a = some u) (h : MIs K F H a o) : MIs K F' H' a o := by
  cases o with
  | lst xs => obtain ⟨vs, h1, h2⟩ := h; exact ⟨vs, s2 _ h1, IsL.mono s _ _ h2⟩
  | ins C fs => obtain ⟨dx, gs, h1, h2⟩ := h; exact ⟨dx, gs, s2 _ h1, IsF.mono s _ _ h2⟩
theorem MIs.at_ (h : MIs K F H a o) : ∃ u, H a = some u := by
  cases o with
  | lst xs => obtain ⟨vs, h1, h2⟩ := h; exact ⟨_, h1⟩
  | ins C fs => obtain ⟨dx, gs, h1, h2⟩ := h; exact ⟨_, h1⟩
theorem Wd.at_ (w : Wd K F H m) (h : m a = some o) : ∃ u, H a = some u := (w.st a o h).2.at_
theorem Wd.free (w : Wd K F H m) (h : H a = none) : m a = none := by
  cases e : m a with
  | none => rfl
  | some o => obtain ⟨u, hu⟩ := w.at_ e; rw [h] at hu; cases hu
theorem Wd.freeF (w : Wd K F H m) (h : H a = none) : F a = none := w.same.free h
theorem Stp.refl : Stp m F H m F H := ⟨Same.refl _, fun _ _ _ h => h, fun a h h' => absurd h h', fun a h h' => absurd h h'⟩
theorem Stp.trans (s : Stp m F H m1 F1 H1) (t : Stp m1 F1 H1 m2 F2 H2) : Stp m F H m2 F2 H2 := by
  have key : ∀ a o, m a = none → H a = some o → m1 a = none := fun a o hm h => by
    cases e : m1 a with
    | none => rfl
    | some u =>
      have := s.new a hm (by rw [e]; exact fun z => nomatch z)
      rw [this] at h; cases h
  refine ⟨s.same.trans t.same, fun a o hm h => t.frame a o (key a o hm h) (s.frame a o hm h), fun a hm h2 => ?_, fun a hF h2 => ?_⟩
  · cases e : H a with
    | none => rfl
    | some o =>
      have h1 := key a o hm e
      have := t.new a h1 h2
      rw [s.frame a o hm e] at this; cases this
  · by_cases h1 : F1 a = none
    · by_cases hm : m a = none
      · left
        rcases t.fnew a h1 h2 with q | q
        · cases e : H a with
          | none => rfl
          | some o => rw [s.frame a o hm e] at q; cases q
        · exact s.new a hm q
      · exact .inr hm
    · exact s.fnew a hF h1
/-- less is told of the store -/
def Sub (m' m : Mu) : Prop := ∀ a o, m' a = some o → m a = some o
theorem Sub.refl : Sub m m := fun _ _ h => h
theorem Sub.trans (s : Sub m m1) (t : Sub m1 m2) : Sub m m2 := fun a o h => t a o (s a o h)
theorem Sub.upd (s : Sub m m1) (h : m a = none) : Sub m (updM m1 a o) := fun b u e => by
  have : b ≠ a := fun z => by rw [z, h] at e; cases e
  rw [updM_ne this]; exact s b u e
theorem Sub.del (s : Sub m m1) (h : m a = none) : Sub m (delM m1 a) := fun b u e => by
  have : b ≠ a := fun z => by rw [z, h] at e; cases e
  rw [delM_ne this]; exact s b u e
theorem Wd.less (w : Wd K F H m) (s : Sub m' m) : Wd K F H m' := ⟨w.same, fun a o h => w.st a o (s a o h)⟩
theorem Stp.less (t : Stp m F H m1 F1 H1) (s : Sub m2 m1) : Stp m F H m2 F1 H1 := ⟨t.same, t.frame, fun a h h2 => t.new a h (fun z => by
  cases e : m2 a with
  | none => exact h2 e
  | some o => rw [s a o e] at z; cases z), t.fnew⟩
/-- a new object that stays as it is -/
theorem Wd.newF {p : Addr} {u : HO} (w : Wd K F H m) (h : H p = none) : Wd K (upd F p u) (upd H p u) m := by
  refine ⟨fun b x e => ?_, fun a o e => ?_⟩
  · by_cases hb : b = p
    · subst hb; rw [upd_same] at e ⊢; exact e
    · rw [upd_ne hb] at e ⊢; exact w.same b x e
  · obtain ⟨z, hz⟩ := w.at_ e
    have hne : a ≠ p := fun q => by rw [q, h] at hz; cases hz
    refine ⟨by rw [upd_ne hne]; exact (w.st a o e).1, (w.st a o e).2.mono ?_ (fun u hu => by rw [upd_ne hne]; exact hu)⟩
    exact fun b x q => by rw [upd_ne (ne_of_none q (w.freeF h))]; exact q
theorem Stp.newF {p : Addr} {u : HO} (w : Wd K F H m) (h : H p = none) : Stp m F H m (upd F p u) (upd H p u) :=
  ⟨fun b x q => by rw [upd_ne (ne_of_none q (w.freeF h))]; exact q, fun a o _ e => by rw [upd_ne (ne_of_none e h)]; exact e, fun a h h' => absurd h h', fun a h1 h' => by
    by_cases ha : a = p
    · rw [ha]; exact .inl h
    · rw [upd_ne ha] at h'; exact absurd h1 h'⟩
/-- a new list that may change -/
theorem Wd.newM {p : Addr} {vs : List V} {xs : List D} (w : Wd K F H m) (h : H p = none) (hv : IsL K F xs vs) : Wd K F (upd H p (.lst vs)) (updM m p (.lst xs)) := by
  refine ⟨fun b x e => by rw [upd_ne (ne_of_none e (w.freeF h))]; exact w.same b x e, fun a o e => ?_⟩
  by_cases ha : a = p
  · subst ha; rw [updM_same] at e; cases e
    exact ⟨w.freeF h, vs, upd_same, hv⟩
  · rw [updM_ne ha] at e
    exact ⟨(w.st a o e).1, (w.st a o e).2.mono (Same.refl _) (fun u hu => by rw [upd_ne ha]; exact hu)⟩
theorem Stp.newM {p : Addr} {u : HO} {o : MO} (h : H p = none) : Stp m F H (updM m p o) F (upd H p u) :=
  ⟨Same.refl _, fun a o _ e => by rw [upd_ne (ne_of_none e h)]; exact e, fun a hm h' => by
    by_cases ha : a = p
    · rw [ha]; exact h
    · rw [updM_ne ha] at h'; exact absurd hm h', fun a h h' => absurd h h'⟩
/-- a thing of the store is changed -/
theorem Wd.write {u : HO} {o' : MO} (w : Wd K F H m) (h : m a = some o) (hn : MIs K F (upd H a u) a o') : Wd K F (upd H a u) (updM m a o') := by
  have hF := (w.st a o h).1
  refine ⟨fun b x e => by rw [upd_ne (ne_of_none e hF)]; exact w.same b x e, fun b x e => ?_⟩
  by_cases hb : b = a
  · subst hb; rw [updM_same] at e; cases e; exact ⟨hF, hn⟩
  · rw [updM_ne hb] at e
    exact ⟨(w.st b x e).1, (w.st b x e).2.mono (Same.refl _) (fun z hz => by rw [upd_ne hb]; exact hz)⟩
theorem Stp.write {u : HO} {o' : MO} (h : m a = some o) : Stp m F H (updM m a o') F (upd H a u) :=
  ⟨Same.refl _, fun b x hm e => by
    have : b ≠ a := fun z => by rw [z, h] at hm; cases hm
    rw [upd_ne this]; exact e, fun b hm h' => by
    have : b ≠ a := fun z => by rw [z, h] at hm; cases hm
    rw [updM_ne this] at h'; exact absurd hm h', fun a h h' => absurd h h'⟩
/-- what may change is to stay from here on -/
theorem Wd.freeze {u : HO} (w : Wd K F H m) (h : m a = some o) (hu : H a = some u) : Wd K (upd F a u) H (delM m a) := by
  have hF := (w.st a o h).1
  refine ⟨fun b x e => ?_, fun b x e => ?_⟩
  · by_cases hb : b = a
    · subst hb; rw [upd_same] at e; cases e; exact hu
    · rw [upd_ne hb] at e; exact w.same b x e
  · have hb : b ≠ a := fun z => by rw [z, delM_same] at e; cases e
    rw [delM_ne hb] at e
    refine ⟨by rw [upd_ne hb]; exact (w.st b x e).1, (w.st b x e).2.mono (fun c y q => by rw [upd_ne (ne_of_none q hF)]; exact q) (fun z hz => hz)⟩
theorem Stp.freeze {u : HO} (w : Wd K F H m) (h : m a = some o) : Stp m F H (delM m a) (upd F a u) H :=
  ⟨fun c y q => by rw [upd_ne (ne_of_none q (w.st a o h).1)]; exact q, fun _ _ _ e => e, fun b hm h' => by
    exfalso
    apply h'
    unfold delM
    split
    · rfl
    · exact hm, fun b h1 h' => by
    by_cases hb : b = a
    · rw [hb, h]; exact .inr (fun z => nomatch z)
    · rw [upd_ne hb] at h'; exact absurd h1 h'⟩
end
/-! ### environments -/
abbrev En := List (Option D)
def EnvOk (K : PySem.W.Frag) (F : Hp) (σ : L2.St) (r : En) : Prop := σ.length = r.length ∧ ∀ (i : Nat) d, r[i]? = some (some d) → ∃ v, σ[i]? = some (some v) ∧ Is K F d v
theorem EnvOk.mono {K : PySem.W.Frag} {F F' : Hp} {σ : L2.St} {r : En} (e : Same F F') (h : EnvOk K F σ r) : EnvOk K F' σ r :=
  ⟨h.1, fun i d q => let ⟨v, h1, h2⟩ := h.2 i d q; ⟨v, h1, Is.mono e d v h2⟩⟩
theorem EnvOk.set {K : PySem.W.Frag} {F : Hp} {σ : L2.St} {r : En} {d : D} {v : V} (i : Nat) (h : EnvOk K F σ r) (hd : Is K F d v) : EnvOk K F (σ.set i (some v)) (r.set i (some d)) := by
  refine ⟨by rw [List.length_set, List.length_set]; exact h.1, fun j d' q => ?_⟩
  by_cases hj : i = j
  · subst hj
    by_cases hi : i < r.length
    · rw [List.getElem?_set_self hi] at q
      cases q
      exact ⟨v, List.getElem?_set_self (by rw [h.1]; exact hi), hd⟩
    · rw [List.getElem?_set] at q
      simp [hi] at q
  · rw [List.getElem?_set_ne hj] at q ⊢
    exact h.2 j d' q
theorem EnvOk.less {K : PySem.W.Frag} {F : Hp} {σ : L2.St} {r r' : En} (h : EnvOk K F σ r) (hl : r'.length = r.length) (hs : ∀ (i : Nat) d, r'[i]? = some (some d) → r[i]? = some (some d)) : EnvOk K F σ r' :=
  ⟨h.1.trans hl.symm, fun i d q => h.2 i d (hs i d q)⟩
/-- another datum told of a slot -/
theorem EnvOk.put {K : PySem.W.Frag} {F : Hp} {σ : L2.St} {r : En} {d : D} (i : Nat) (h : EnvOk K F σ r) (hd : ∀ v, σ[i]? = some (some v) → Is K F d v) (hv : ∃ v, σ[i]? = some (some v)) : EnvOk K F σ (r.set i (some d)) := by
  obtain ⟨v, hv⟩ := hv
  have e : σ.set i (some v) = σ := by
    apply List.ext_getElem?
    intro j
    by_cases hj : i = j
    · subst hj
      rw [List.getElem?_set_self (List.getElem?_eq_some_iff.mp hv).1]; exact hv.symm
    · rw [List.getElem?_set_ne hj]
  have := EnvOk.set i h (hd v hv)
  rw [e] at this
  exact this
def wipeD (r : En) : List Nat → En
  | [] => r
  | v :: vs => (wipeD r vs).set v none
theorem EnvOk.wipe {K : PySem.W.Frag} {F : Hp} {σ : L2.St} {r : En} (h : EnvOk K F σ r) : ∀ vs, EnvOk K F (L2.wipe σ vs) (wipeD r vs)
  | [] => h
  | v :: vs => by
    have ih := EnvOk.wipe h vs
    refine ⟨by show ((L2.wipe σ vs).set v none).length = ((wipeD r vs).set v none).length; rw [List.length_set, List.length_set]; exact ih.1, fun j d q => ?_⟩
    have q : ((wipeD r vs).set v none)[j]? = some (some d) := q
    show ∃ x, ((L2.wipe σ vs).set v none)[j]? = some (some x) ∧ _
    by_cases hj : v = j
    · subst hj
      rw [List.getElem?_set] at q
      split at q
      · split at q <;> cases q
      · simp at *
    · rw [List.getElem?_set_ne hj] at q ⊢
      exact ih.2 j d q
end DL
end

section
set_option Elab.async false
set_option linter.all false
set_option maxRecDepth 100000
set_option maxHeartbeats 2000000
namespace DL
open PySem PySem.Spec PyProof.Rows L2
/-! ### readings, without the heap -/
def PoE (K : PySem.W.Frag) (m : Mu) (F H : Hp) (k : D → Mu → Prop) (Q : VK) : Prop :=
  ∀ d m' v F' H', k d m' → Wd K F' H' m' → Stp m F H m' F' H' → Is K F' d v → Q v H'
def PoA (K : PySem.W.Frag) (m : Mu) (F H : Hp) (k : List D → Mu → Prop) (Q : List V → Hp → Prop) : Prop :=
  ∀ d m' v F' H', k d m' → Wd K F' H' m' → Stp m F H m' F' H' → IsL K F' d v → Q v H'
def PoT (K : PySem.W.Frag) (m : Mu) (F H : Hp) (k : Bool → Mu → Prop) (Q : Bool → Hp → Prop) : Prop :=
  ∀ b m' F' H', k b m' → Wd K F' H' m' → Stp m F H m' F' H' → Q b H'
def PoS (K : PySem.W.Frag) (m : Mu) (F H : Hp) (k : En → Mu → Prop) (Q : L2.St → Hp → Prop) : Prop :=
  ∀ r m' σ F' H', k r m' → Wd K F' H' m' → Stp m F H m' F' H' → EnvOk K F' σ r → Q σ H'
def wE (K : PySem.W.Frag) (t : TE) (r : En) (m : Mu) (k : D → Mu → Prop) : Prop := ∀ σ F H Q, Wd K F H m → EnvOk K F σ r → PoE K m F H k Q → t σ H Q
def wA (K : PySem.W.Frag) (t : TA) (r : En) (m : Mu) (k : List D → Mu → Prop) : Prop := ∀ σ F H Q, Wd K F H m → EnvOk K F σ r → PoA K m F H k Q → t σ H Q
def wT (K : PySem.W.Frag) (t : TT) (r : En) (m : Mu) (k : Bool → Mu → Prop) : Prop := ∀ σ F H Q, Wd K F H m → EnvOk K F σ r → PoT K m F H k Q → t σ H Q
/-- what is wanted behind a statement -/
structure KS where
  nx : En → Mu → Prop
  rt : D → Mu → Prop
  bk : En → Mu → Prop := fun _ _ => False
  ct : En → Mu → Prop := fun _ _ => False
structure EndsOk (K : PySem.W.Frag) (m : Mu) (F H : Hp) (k : KS) (E : Ends) : Prop where
  nx : PoS K m F H k.nx E.nx
  rt : PoE K m F H k.rt E.rt
  bk : PoS K m F H k.bk E.bk
  ct : PoS K m F H k.ct E.ct
def wS (K : PySem.W.Frag) (t : TS) (r : En) (m : Mu) (k : KS) : Prop := ∀ E σ F H, Wd K F H m → EnvOk K F σ r → EndsOk K m F H k E → t E σ H
/-- operations by values -/
def wR (K : PySem.W.Frag) (o : R2) (x y : D) (m : Mu) (k : D → Mu → Prop) : Prop := ∀ vx vy F H Q, Wd K F H m → Is K F x vx → Is K F y vy → PoE K m F H k Q → o vx vy H Q
def wU (K : PySem.W.Frag) (o : V → Hp → VK → Prop) (x : D) (m : Mu) (k : D → Mu → Prop) : Prop := ∀ vx F H Q, Wd K F H m → Is K F x vx → PoE K m F H k Q → o vx H Q
def wC (K : PySem.W.Frag) (o : List V → Hp → VK → Prop) (xs : List D) (m : Mu) (k : D → Mu → Prop) : Prop := ∀ vs F H Q, Wd K F H m → IsL K F xs vs → PoE K m F H k Q → o vs H Q
def wG (K : PySem.W.Frag) (g : TG) (x : D) (r : En) (m : Mu) (k : En → Mu → Prop) : Prop := ∀ v σ F H Q, Wd K F H m → Is K F x v → EnvOk K F σ r → PoS K m F H k Q → g v σ H Q
def wGs (K : PySem.W.Frag) (g : TGs) (x : List D) (r : En) (m : Mu) (k : En → Mu → Prop) : Prop := ∀ v σ F H Q, Wd K F H m → IsL K F x v → EnvOk K F σ r → PoS K m F H k Q → g v σ H Q
section
variable {K : PySem.W.Frag} {r : En} {m m1 m2 : Mu} {F F' H H' F1 H1 : Hp}
theorem PoE.step {k : D → Mu → Prop} {Q : VK} (h : PoE K m F H k Q) (s : Stp m F H m1 F1 H1) : PoE K m1 F1 H1 k Q := fun d m' v F' H' a b c e => h d m' v F' H' a b (s.trans c) e
theorem PoA.step {k : List D → Mu → Prop} {Q : List V → Hp → Prop} (h : PoA K m F H k Q) (s : Stp m F H m1 F1 H1) : PoA K m1 F1 H1 k Q := fun d m' v F' H' a b c e => h d m' v F' H' a b (s.trans c) e
theorem PoT.step {k : Bool → Mu → Prop} {Q : Bool → Hp → Prop} (h : PoT K m F H k Q) (s : Stp m F H m1 F1 H1) : PoT K m1 F1 H1 k Q := fun d m' F' H' a b c => h d m' F' H' a b (s.trans c)
theorem PoS.step {k : En → Mu → Prop} {Q : L2.St → Hp → Prop} (h : PoS K m F H k Q) (s : Stp m F H m1 F1 H1) : PoS K m1 F1 H1 k Q := fun d m' σ F' H' a b c e => h d m' σ F' H' a b (s.trans c) e
theorem EndsOk.step {k : KS} {E : Ends} (h : EndsOk K m F H k E) (s : Stp m F H m1 F1 H1) : EndsOk K m1 F1 H1 k E := ⟨h.nx.step s, h.rt.step s, h.bk.step s, h.ct.step s⟩
theorem PoE.now {k : D → Mu → Prop} {Q : VK} {d : D} {v : V} (h : PoE K m F H k Q) (w : Wd K F H m) (hk : k d m) (hd : Is K F d v) : Q v H := h d m v F H hk w Stp.refl hd
theorem wE.mono {t : TE} {k k' : D → Mu → Prop} (h : wE K t r m k) (i : ∀ d m', k d m' → k' d m') : wE K t r m k' := fun σ F H Q w e p => h σ F H Q w e fun d m' v F' H' a => p d m' v F' H' (i d m' a)
theorem wT.mono {t : TT} {k k' : Bool → Mu → Prop} (h : wT K t r m k) (i : ∀ d m', k d m' → k' d m') : wT K t r m k' := fun σ F H Q w e p => h σ F H Q w e fun d m' F' H' a => p d m' F' H' (i d m' a)
theorem wA.mono {t : TA} {k k' : List D → Mu → Prop} (h : wA K t r m k) (i : ∀ d m', k d m' → k' d m') : wA K t r m k' := fun σ F H Q w e p => h σ F H Q w e fun d m' v F' H' a => p d m' v F' H' (i d m' a)
theorem wS.mono {t : TS} {k k' : KS} (h : wS K t r m k) (i1 : ∀ d m', k.nx d m' → k'.nx d m') (i2 : ∀ d m', k.rt d m' → k'.rt d m') (i3 : ∀ d m', k.bk d m' → k'.bk d m') (i4 : ∀ d m', k.ct d m' → k'.ct d m') : wS K t r m k' :=
  fun E σ F H w e p => h E σ F H w e ⟨fun d m' v F' H' a => p.nx d m' v F' H' (i1 d m' a), fun d m' v F' H' a => p.rt d m' v F' H' (i2 d m' a), fun d m' v F' H' a => p.bk d m' v F' H' (i3 d m' a), fun d m' v F' H' a => p.ct d m' v F' H' (i4 d m' a)⟩
/-! ### expressions -/
variable {k : D → Mu → Prop}
theorem e_var {i : Nat} {d : D} (h : r[i]? = some (some d)) (q : k d m) : wE K (tVar i) r m k := fun σ F H Q w e p => by
  obtain ⟨v, h1, h2⟩ := e.2 i d h
  exact ⟨v, h1, p.now w q h2⟩
theorem e_int {i : Int} (q : k (.int i) m) : wE K (tC (.int i)) r m k := fun σ F H Q w e p => p.now w q rfl
theorem e_bl {b : Bool} (q : k (.bl b) m) : wE K (tC (.bl b)) r m k := fun σ F H Q w e p => p.now w q rfl
theorem e_non (q : k .non m) : wE K (tC .non) r m k := fun σ F H Q w e p => p.now w q rfl
theorem e_str {x : Str} (q : k (.str x) m) : wE K (tC (.str x)) r m k := fun σ F H Q w e p => p.now w q rfl
theorem e_ref {a : Addr} (q : k (.ref a) m) : wE K (tC (.ref a)) r m k := fun σ F H Q w e p => p.now w q rfl
theorem e_ty {n : String} (q : k (.ty n) m) : wE K (tC (.ty n)) r m k := fun σ F H Q w e p => p.now w q rfl
theorem e_op {o : R2} {ta tb : TE} (h : wE K ta r m fun x m1 => wE K tb r m1 fun y m2 => wR K o x y m2 k) : wE K (tOp o ta tb) r m k := fun σ F H Q w e p => by
  refine h σ F H _ w e fun x m1 vx F1 H1 h1 w1 s1 i1 => ?_
  refine h1 σ F1 H1 _ w1 (e.mono s1.same) fun y m2 vy F2 H2 h2 w2 s2 i2 => ?_
  exact h2 vx vy F2 H2 Q w2 (Is.mono s2.same x vx i1) i2 (p.step (s1.trans s2))
theorem e_un {o : V → Hp → VK → Prop} {ta : TE} (h : wE K ta r m fun x m1 => wU K o x m1 k) : wE K (tUn o ta) r m k := fun σ F H Q w e p => by
  refine h σ F H _ w e fun x m1 vx F1 H1 h1 w1 s1 i1 => ?_
  exact h1 vx F1 H1 Q w1 i1 (p.step s1)
theorem a_nil {k : List D → Mu → Prop} (q : k [] m) : wA K tNil r m k := fun σ F H Q w e p => p [] m [] F H q w Stp.refl rfl
theorem a_cons {k : List D → Mu → Prop} {ta : TE} {tr : TA} (h : wE K ta r m fun x m1 => wA K tr r m1 fun xs m2 => k (x :: xs) m2) : wA K (tCons ta tr) r m k := fun σ F H Q w e p => by
  refine h σ F H _ w e fun x m1 vx F1 H1 h1 w1 s1 i1 => ?_
  refine h1 σ F1 H1 _ w1 (e.mono s1.same) fun xs m2 vs F2 H2 h2 w2 s2 i2 => ?_
  exact p (x :: xs) m2 (vx :: vs) F2 H2 h2 w2 (s1.trans s2) ⟨vx, vs, rfl, Is.mono s2.same x vx i1, i2⟩
theorem e_cb {o : List V → Hp → VK → Prop} {ta : TA} (h : wA K ta r m fun xs m1 => wC K o xs m1 k) : wE K (tCB o ta) r m k := fun σ F H Q w e p => by
  refine h σ F H _ w e fun xs m1 vs F1 H1 h1 w1 s1 i1 => ?_
  exact h1 vs F1 H1 Q w1 i1 (p.step s1)
theorem e_if {t : TT} {ta tb : TE} (h : wT K t r m fun b m1 => if b = true then wE K ta r m1 k else wE K tb r m1 k) : wE K (tIf t ta tb) r m k := fun σ F H Q w e p => by
  refine h σ F H _ w e fun b m1 F1 H1 h1 w1 s1 => ?_
  cases b with
  | true => exact h1 σ F1 H1 Q w1 (e.mono s1.same) (p.step s1)
  | false => exact h1 σ F1 H1 Q w1 (e.mono s1.same) (p.step s1)
theorem e_andV {ta tb : TE} (h : wE K ta r m fun x m1 => ∃ c, x = .bl c ∧ if c = true then wE K tb r m1 k else k (.bl false) m1) : wE K (tAndV ta tb) r m k := fun σ F H Q w e p => by
  refine h σ F H _ w e fun x m1 vx F1 H1 h1 w1 s1 i1 => ?_
  obtain ⟨c, rfl, h1⟩ := h1
  refine ⟨c, i1, ?_⟩
  cases c with
  | true => exact h1 σ F1 H1 Q w1 (e.mono s1.same) (p.step s1)
  | false => exact p _ m1 _ F1 H1 h1 w1 s1 rfl
theorem e_orV {ta tb : TE} (h : wE K ta r m fun x m1 => ∃ c, x = .bl c ∧ if c = true then k (.bl true) m1 else wE K tb r m1 k) : wE K (tOrV ta tb) r m k := fun σ F H Q w e p => by
  refine h σ F H _ w e fun x m1 vx F1 H1 h1 w1 s1 i1 => ?_
  obtain ⟨c, rfl, h1⟩ := h1
  refine ⟨c, i1, ?_⟩
  cases c with
  | false => exact h1 σ F1 H1 Q w1 (e.mono s1.same) (p.step s1)
  | true => exact p _ m1 _ F1 H1 h1 w1 s1 rfl
theorem e_notV {ta : TE} (h : wE K ta r m fun x m1 => ∃ c, x = .bl c ∧ k (.bl (!c)) m1) : wE K (tNotV ta) r m k := fun σ F H Q w e p => by
  refine h σ F H _ w e fun x m1 vx F1 H1 h1 w1 s1 i1 => ?_
  obtain ⟨c, rfl, h1⟩ := h1
  exact ⟨c, i1, p _ m1 _ F1 H1 h1 w1 s1 rfl⟩
/-! ### tests -/
variable {kt : Bool → Mu → Prop}
theorem t_test {ta : TE} (h : wE K ta r m fun x m1 => ∃ b, x = .bl b ∧ kt b m1) : wT K (tTest ta) r m kt := fun σ F H Q w e p => by
  refine h σ F H _ w e fun x m1 vx F1 H1 h1 w1 s1 i1 => ?_
  obtain ⟨b, rfl, h1⟩ := h1
  exact ⟨b, i1, p b m1 F1 H1 h1 w1 s1⟩
theorem t_B {ta : TE} (h : wE K ta r m fun x m1 => ∃ b, x = .bl b ∧ kt b m1) : wT K (tB ta) r m kt := fun σ F H Q w e p => by
  refine h σ F H _ w e fun x m1 vx F1 H1 h1 w1 s1 i1 => ?_
  obtain ⟨b, rfl, h1⟩ := h1
  exact ⟨b, i1, p b m1 F1 H1 h1 w1 s1⟩
theorem t_and {t u : TT} (h : wT K t r m fun b m1 => if b = true then wT K u r m1 kt else kt false m1) : wT K (tAnd t u) r m kt := fun σ F H Q w e p => by
  refine h σ F H _ w e fun b m1 F1 H1 h1 w1 s1 => ?_
  cases b with
  | true => exact h1 σ F1 H1 Q w1 (e.mono s1.same) (p.step s1)
  | false => exact p false m1 F1 H1 h1 w1 s1
theorem t_or {t u : TT} (h : wT K t r m fun b m1 => if b = true then kt true m1 else wT K u r m1 kt) : wT K (tOr t u) r m kt := fun σ F H Q w e p => by
  refine h σ F H _ w e fun b m1 F1 H1 h1 w1 s1 => ?_
  cases b with
  | true => exact p true m1 F1 H1 h1 w1 s1
  | false => exact h1 σ F1 H1 Q w1 (e.mono s1.same) (p.step s1)
theorem t_not {t : TT} (h : wT K t r m fun b m1 => kt (!b) m1) : wT K (tNot t) r m kt := fun σ F H Q w e p => by
  refine h σ F H _ w e fun b m1 F1 H1 h1 w1 s1 => ?_
  exact p (!b) m1 F1 H1 h1 w1 s1
/-! ### operations -/
theorem r_I0 {g : Int → Int → V} {i j : Int} {d : D} (hd : ∀ F, Is K F d (g i j)) (q : k d m) : wR K (rI0 g) (.int i) (.int j) m k := fun vx vy F H Q w ix iy p => ⟨i, j, ix, iy, p.now w q (hd F)⟩
theorem r_I {C : Int → Int → Prop} {g : Int → Int → V} {i j : Int} {d : D} (hc : C i j) (hd : ∀ F, Is K F d (g i j)) (q : k d m) : wR K (rI C g) (.int i) (.int j) m k := fun vx vy F H Q w ix iy p => ⟨i, j, ix, iy, hc, p.now w q (hd F)⟩
theorem u_U {g : Int → V} {i : Int} {d : D} (hd : ∀ F, Is K F d (g i)) (q : k d m) : wU K (rU g) (.int i) m k := fun vx F H Q w ix p => ⟨i, ix, p.now w q (hd F)⟩
/-- a scalar, and its value -/
def sc : D → Option V
  | .non => some .non | .bl b => some (.bl b) | .int i => some (.int i) | .str x => some (.str x) | _ => none
theorem sc_is {F : Hp} {d : D} {v u : V} (h : sc d = some u) (i : Is K F d v) : v = u := by
  cases d <;> simp [sc] at h <;> (subst h; exact i)
theorem r_eq {x y : D} {u v : V} (hx : sc x = some u) (hy : sc y = some v) (hs : scal u v = true) (q : k (.bl (decide (u = v))) m) : wR K rEq x y m k := fun vx vy F H Q w ix iy p => by
  rw [sc_is hx ix, sc_is hy iy]
  exact ⟨hs, p.now w q rfl⟩
theorem r_ne {x y : D} {u v : V} (hx : sc x = some u) (hy : sc y = some v) (hs : scal u v = true) (q : k (.bl (!decide (u = v))) m) : wR K rNe x y m k := fun vx vy F H Q w ix iy p => by
  rw [sc_is hx ix, sc_is hy iy]
  exact ⟨hs, p.now w q rfl⟩
theorem atI_is {ds : List D} {vs : List V} {i : Int} {d : D} (h : IsL K F ds vs) (e : atI ds i = some d) : ∃ v, atI vs i = some v ∧ Is K F d v := by
  unfold atI at e ⊢
  rw [h.len] at e
  cases q : ixN vs.length i with
  | none => rw [q] at e; cases e
  | some j =>
    rw [q] at e
    exact h.get' e
theorem r_ixL {xs : List D} {i : Int} {d : D} (h : atI xs i = some d) (q : k d m) : wR K (rIxL K) (.lst xs) (.int i) m k := fun vx vy F H Q w ix iy p => by
  obtain ⟨a, vs, rfl, h1, h2⟩ := ix
  obtain ⟨v, e, iv⟩ := atI_is h2 h
  exact ⟨a, vs, i, v, rfl, iy, w.same.seq h1, e, p.now w q iv⟩
theorem r_ixT {xs : List D} {i : Int} {d : D} (h : atI xs i = some d) (q : k d m) : wR K (rIxT K) (.tup xs) (.int i) m k := fun vx vy F H Q w ix iy p => by
  obtain ⟨a, vs, rfl, h1, h2⟩ := ix
  obtain ⟨v, e, iv⟩ := atI_is h2 h
  exact ⟨a, vs, i, v, rfl, iy, Same.tq w.same h1, e, p.now w q iv⟩
/-- an item of a list that may change -/
theorem r_ixM {a : Addr} {xs : List D} {i : Int} {d : D} (hm : m a = some (.lst xs)) (h : atI xs i = some d) (q : k d m) : wR K (rIxL K) (.ref a) (.int i) m k := fun vx vy F H Q w ix iy p => by
  obtain ⟨_, vs, h1, h2⟩ := w.st a _ hm
  obtain ⟨v, e, iv⟩ := atI_is h2 h
  exact ⟨a, vs, i, v, ix, iy, SqL.of h1, e, p.now w q iv⟩
theorem r_ix1 {x y : D} (h : wR K (rIxL K) x y m k) : wR K (rIx K) x y m k := fun vx vy F H Q w ix iy p => .inl (h vx vy F H Q w ix iy p)
theorem r_ix2 {x y : D} (h : wR K (rIxT K) x y m k) : wR K (rIx K) x y m k := fun vx vy F H Q w ix iy p => .inr (.inl (h vx vy F H Q w ix iy p))
/-! ### new lists and tuples -/
theorem e_tup {ta : TA} (h : wA K ta r m fun xs m1 => xs.length ≤ 100000 ∧ k (.tup xs) m1) : wE K (tTup ta) r m k := fun σ F H Q w e p => by
  refine h σ F H _ w e fun xs m1 vs F1 H1 h1 w1 s1 i1 => ⟨?_, fun q hq => ?_⟩
  · rw [← i1.len, sizeLine_eq]; exact Nat.le_trans h1.1 (by decide)
  · have w2 := w1.newF (u := .tup vs) hq
    have s2 := Stp.newF (u := .tup vs) w1 hq
    exact p (.tup xs) m1 _ _ _ h1.2 w2 (s1.trans s2) ⟨q, vs, rfl, SqT.of upd_same, IsL.mono s2.same _ _ i1⟩
theorem e_lst {ta : TA} (h : wA K ta r m fun xs m1 => xs.length ≤ 100000 ∧ k (.lst xs) m1) : wE K (tLst ta) r m k := fun σ F H Q w e p => by
  refine h σ F H _ w e fun xs m1 vs F1 H1 h1 w1 s1 i1 => ⟨?_, fun q hq => ?_⟩
  · rw [← i1.len, sizeLine_eq]; exact Nat.le_trans h1.1 (by decide)
  · have w2 := w1.newF (u := .lst vs) hq
    have s2 := Stp.newF (u := .lst vs) w1 hq
    exact p (.lst xs) m1 _ _ _ h1.2 w2 (s1.trans s2) ⟨q, vs, rfl, SqL.of upd_same, IsL.mono s2.same _ _ i1⟩
/-- a list that may change -/
theorem e_lstM {ta : TA} (h : wA K ta r m fun xs m1 => xs.length ≤ 100000 ∧ ∀ a, m1 a = none → k (.ref a) (updM m1 a (.lst xs))) : wE K (tLst ta) r m k := fun σ F H Q w e p => by
  refine h σ F H _ w e fun xs m1 vs F1 H1 h1 w1 s1 i1 => ⟨?_, fun q hq => ?_⟩
  · rw [← i1.len, sizeLine_eq]; exact Nat.le_trans h1.1 (by decide)
  · exact p (.ref q) _ _ F1 _ (h1.2 q (w1.free hq)) (w1.newM hq i1) (s1.trans (Stp.newM hq)) rfl
/-- a list is to stay as it is from here on -/
theorem e_frz {t : TE} (h : wE K t r m fun d m1 => ∃ a xs m2, d = .ref a ∧ m1 a = some (.lst xs) ∧ Sub m2 (delM m1 a) ∧ k (.lst xs) m2) : wE K t r m k := fun σ F H Q w e p => by
  refine h σ F H _ w e fun d m1 v F1 H1 h1 w1 s1 i1 => ?_
  obtain ⟨a, xs, m2, rfl, e1, e2, h2⟩ := h1
  obtain ⟨_, vs, g1, g2⟩ := w1.st a _ e1
  have w2 := w1.freeze e1 g1
  have s2 := Stp.freeze (u := .lst vs) w1 e1
  refine p (.lst xs) m2 v _ H1 h2 (w2.less e2) ((s1.trans s2).less e2) ⟨a, vs, i1, SqL.of upd_same, IsL.mono s2.same _ _ g2⟩
/-- an instance, whether it may change or not -/
def InD (m : Mu) (x : D) (C : Addr) (fs : List (Str × D)) : Prop := x = .ins C fs ∨ ∃ a, x = .ref a ∧ m a = some (.ins C fs)
theorem InD.at_ {x : D} {C : Addr} {fs : List (Str × D)} {v : V} (i : InD m x C fs) (w : Wd K F H m) (h : Is K F x v) : ∃ a dx gs, v = .ref a ∧ H a = some (.ins C dx gs) ∧ IsF K F fs gs := by
  rcases i with rfl | ⟨a, rfl, e⟩
  · obtain ⟨a, dx, gs, h1, h2, h3⟩ := h
    exact ⟨a, dx, gs, h1, w.same _ _ h2, h3⟩
  · obtain ⟨_, dx, gs, h1, h2⟩ := w.st a _ e
    exact ⟨a, dx, gs, h, h1, h2⟩
theorem e_fld {ta : TE} {f : Str} (h : wE K ta r m fun x m1 => ∃ C fs d, InD m1 x C fs ∧ Cls K C ∧ NoAttr K C f ∧ fs.lookup f = some d ∧ k d m1) : wE K (tFld K ta f) r m k := fun σ F H Q w e p => by
  refine h σ F H _ w e fun x m1 v F1 H1 h1 w1 s1 i1 => ?_
  obtain ⟨C, fs, d, hi, hc, hn, hl, hk⟩ := h1
  obtain ⟨a, dx, gs, rfl, h2, h3⟩ := hi.at_ w1 i1
  obtain ⟨v, h4, h5⟩ := h3.look hl
  exact ⟨a, C, dx, gs, v, rfl, h2, hc, hn, h4, p d m1 v F1 H1 hk w1 s1 h5⟩
end
/-! ### calls: a def's promise by data -/
abbrev SpD := List D → Mu → (D → Mu → Prop) → Prop
def spOf (K : PySem.W.Frag) (S : SpD) : Sp := fun vs H Q _ => ∃ ds F m k, Wd K F H m ∧ IsL K F ds vs ∧ S ds m k ∧ PoE K m F H k Q
section
variable {K : PySem.W.Frag} {r : En} {m m1 m2 : Mu} {F F' H H' F1 H1 : Hp} {k : D → Mu → Prop} {S : SpD}
theorem e_call {ta : TA} {dvs : List V} {dds : List D} {E : XK} (hd : ∀ F, IsL K F dds dvs) (h : wA K ta r m fun xs m1 => S (xs ++ dds) m1 k) : wE K (tCall (spOf K S) dvs E ta) r m k := fun σ F H Q w e p => by
  refine h σ F H _ w e fun xs m1 vs F1 H1 h1 w1 s1 i1 => ?_
  exact ⟨xs ++ dds, F1, m1, k, w1, i1.app (hd F1), h1, p.step s1⟩
theorem e_meth {C : Addr} {mn : Str} {ta : TE} {t : TA} {dvs : List V} {dds : List D} {E : XK} (hd : ∀ F, IsL K F dds dvs)
    (h : wE K ta r m fun x m1 => ∃ fs, InD m1 x C fs ∧ fs.lookup mn = none ∧ wA K t r m1 fun xs m2 => S (x :: (xs ++ dds)) m2 k) : wE K (tMeth C mn (spOf K S) dvs E ta t) r m k := fun σ F H Q w e p => by
  refine h σ F H _ w e fun x m1 v F1 H1 h1 w1 s1 i1 => ?_
  obtain ⟨fs, hi, hl, hk⟩ := h1
  obtain ⟨a, dx, gs, rfl, h2, h3⟩ := hi.at_ w1 i1
  refine ⟨a, dx, gs, rfl, h2, h3.lookN hl, ?_⟩
  refine hk σ F1 H1 _ w1 (e.mono s1.same) fun xs m2 vs F2 H2 h2 w2 s2 i2 => ?_
  exact ⟨x :: (xs ++ dds), F2, m2, k, w2, ⟨_, _, rfl, Is.mono s2.same _ _ i1, i2.app (hd F2)⟩, h2, p.step (s1.trans s2)⟩
/-- C(..): the new instance may change while __init__ runs; behind it the instance stays -/
theorem e_make {C : Addr} {t : TA} {dvs : List V} {dds : List D} {E : XK} (hd : ∀ F, IsL K F dds dvs)
    (h : wA K t r m fun xs m1 => ∀ a, m1 a = none → S (.ref a :: (xs ++ dds)) (updM m1 a (.ins C [])) (fun d m2 => d = .non ∧ ((∃ fs m3, m2 a = some (.ins C fs) ∧ Sub m3 (delM m2 a) ∧ k (.ins C fs) m3) ∨ k (.ref a) m2))) :
    wE K (tMake C (spOf K S) dvs E t) r m k := fun σ F H Q w e p => by
  refine h σ F H _ w e fun xs m1 vs F1 H1 h1 w1 s1 i1 => fun x dx hx hdx hne => ?_
  have w2 : Wd K F1 (upd (upd H1 dx (.own x)) x (.ins C dx [])) (updM m1 x (.ins C [])) := by
    refine ⟨fun b u q => ?_, fun a o q => ?_⟩
    · have q' := w1.same b u q
      rw [upd_ne (ne_of_none q' hx), upd_ne (ne_of_none q' hdx)]; exact q'
    · by_cases ha : a = x
      · subst ha; rw [updM_same] at q; cases q
        exact ⟨w1.freeF hx, dx, [], upd_same, rfl⟩
      · rw [updM_ne ha] at q
        refine ⟨(w1.st a o q).1, (w1.st a o q).2.mono (Same.refl _) fun u hu => ?_⟩
        rw [upd_ne ha, upd_ne (ne_of_none hu hdx)]; exact hu
  have s2 : Stp m1 F1 H1 (updM m1 x (.ins C [])) F1 (upd (upd H1 dx (.own x)) x (.ins C dx [])) := by
    refine ⟨Same.refl _, fun a o _ q => ?_, fun a hm q => ?_, fun a hm q => ?_⟩
    · rw [upd_ne (ne_of_none q hx), upd_ne (ne_of_none q hdx)]; exact q
    · by_cases ha : a = x
      · rw [ha]; exact hx
      · rw [updM_ne ha] at q; exact absurd hm q
    · exact absurd hm q
  refine ⟨.ref x :: (xs ++ dds), F1, _, _, w2, ⟨_, _, rfl, rfl, i1.app (hd F1)⟩, h1 x (w1.free hx), fun d m3 v F3 H3 h3 w3 s3 i3 => ?_⟩
  obtain ⟨rfl, h3⟩ := h3
  refine ⟨i3, ?_⟩
  rcases h3 with ⟨fs, m4, e1, e2, h4⟩ | h4
  · obtain ⟨_, dx', gs, g1, g2⟩ := w3.st x _ e1
    have w4 := w3.freeze e1 g1
    have s4 := Stp.freeze (u := .ins C dx' gs) w3 e1
    exact p (.ins C fs) m4 _ _ H3 h4 (w4.less e2) ((((s1.trans s2).trans s3).trans s4).less e2) ⟨x, dx', gs, rfl, upd_same, IsF.mono s4.same _ _ g2⟩
  · exact p (.ref x) m3 _ F3 H3 h4 w3 ((s1.trans s2).trans s3) rfl
end
/-! ### statements -/
section
variable {K : PySem.W.Frag} {r : En} {m m1 m2 : Mu} {k : KS}
theorem s_next (q : k.nx r m) : wS K tNext r m k := fun E σ F H w e p => p.nx r m σ F H q w Stp.refl e
theorem s_break (q : k.bk r m) : wS K tBreak r m k := fun E σ F H w e p => p.bk r m σ F H q w Stp.refl e
theorem s_cont (q : k.ct r m) : wS K tCont r m k := fun E σ F H w e p => p.ct r m σ F H q w Stp.refl e
theorem s_seq {t u : TS} (h : wS K t r m { k with nx := fun r1 m1 => wS K u r1 m1 k }) : wS K (tSeq t u) r m k := fun E σ F H w e p => by
  refine h { E with nx := u E } σ F H w e ⟨fun r1 m1 σ1 F1 H1 h1 w1 s1 e1 => ?_, p.rt, p.bk, p.ct⟩
  exact h1 E σ1 F1 H1 w1 e1 (p.step s1)
theorem s_ret {te : TE} (h : wE K te r m k.rt) : wS K (tRet te) r m k := fun E σ F H w e p => h σ F H _ w e p.rt
theorem s_retN (q : k.rt .non m) : wS K tRetN r m k := fun E σ F H w e p => p.rt.now w q rfl
theorem s_if {c : TT} {t u : TS} (h : wT K c r m fun b m1 => if b = true then wS K t r m1 k else wS K u r m1 k) : wS K (tIfS c t u) r m k := fun E σ F H w e p => by
  refine h σ F H _ w e fun b m1 F1 H1 h1 w1 s1 => ?_
  cases b with
  | true => exact h1 E σ F1 H1 w1 (e.mono s1.same) (p.step s1)
  | false => exact h1 E σ F1 H1 w1 (e.mono s1.same) (p.step s1)
theorem s_drop {te : TE} (h : wE K te r m fun _ m1 => k.nx r m1) : wS K (tDrop te) r m k := fun E σ F H w e p => by
  refine h σ F H _ w e fun d m1 v F1 H1 h1 w1 s1 i1 => ?_
  exact p.nx r m1 σ F1 H1 h1 w1 s1 (e.mono s1.same)
theorem g_name {i : Nat} {d : D} {q : En → Mu → Prop} (h : q (r.set i (some d)) m) : wG K (gName i) d r m q := fun v σ F H Q w iv e p => p _ m _ F H h w Stp.refl (e.set i iv)
theorem gs_nil {q : En → Mu → Prop} (h : q r m) : wGs K gNil [] r m q := fun v σ F H Q w iv e p => ⟨iv, p r m σ F H h w Stp.refl e⟩
theorem gs_cons {g : TG} {gs : TGs} {d : D} {ds : List D} {q : En → Mu → Prop} (h : wG K g d r m fun r1 m1 => wGs K gs ds r1 m1 q) : wGs K (gCons g gs) (d :: ds) r m q := fun v σ F H Q w iv e p => by
  obtain ⟨v1, r1, rfl, i1, i2⟩ := iv
  refine ⟨v1, r1, rfl, h v1 σ F H _ w i1 e fun r2 m2 σ2 F2 H2 h2 w2 s2 e2 => ?_⟩
  exact h2 r1 σ2 F2 H2 Q w2 (IsL.mono s2.same _ _ i2) e2 (p.step s2)
theorem g_tup {n : Nat} {gs : TGs} {ds : List D} {q : En → Mu → Prop} (hn : ds.length = n) (h : wGs K gs ds r m q) : wG K (gTup K n gs) (.tup ds) r m q := fun v σ F H Q w iv e p => by
  obtain ⟨a, vs, rfl, h1, h2⟩ := iv
  exact ⟨a, vs, rfl, Same.tq w.same h1, by rw [← h2.len]; exact hn, h vs σ F H Q w h2 e p⟩
theorem s_asg {te : TE} {g : TG} (h : wE K te r m fun d m1 => wG K g d r m1 k.nx) : wS K (tAsg te g) r m k := fun E σ F H w e p => by
  refine h σ F H _ w e fun d m1 v F1 H1 h1 w1 s1 i1 => ?_
  exact h1 v σ F1 H1 _ w1 i1 (e.mono s1.same) (p.nx.step s1)
/-- name = e -/
theorem s_set {te : TE} {i : Nat} (h : wE K te r m fun d m1 => k.nx (r.set i (some d)) m1) : wS K (tAsg te (gName i)) r m k := s_asg (h.mono fun d m1 q => g_name q)
theorem s_par {i j : Nat} {ta : TA} (h : wA K ta r m fun ds m1 => ∃ x y, ds = [x, y] ∧ k.nx ((r.set i (some x)).set j (some y)) m1) : wS K (tPar i j ta) r m k := fun E σ F H w e p => by
  refine h σ F H _ w e fun ds m1 vs F1 H1 h1 w1 s1 i1 => ?_
  obtain ⟨x, y, rfl, h1⟩ := h1
  obtain ⟨v1, r1, rfl, j1, v2, r2, rfl, j2, rfl⟩ := i1
  exact ⟨v1, v2, rfl, p.nx _ m1 _ F1 H1 h1 w1 s1 (((e.mono s1.same).set i j1).set j j2)⟩
/-- xs.append(e), xs a list that may change -/
theorem s_app {ta te : TE} (h : wE K ta r m fun x m1 => ∃ a ys, x = .ref a ∧ m1 a = some (.lst ys) ∧ wE K te r m1 fun d m2 => ∃ xs, m2 a = some (.lst xs) ∧ xs.length < 100000 ∧ k.nx r (updM m2 a (.lst (xs ++ [d])))) :
    wS K (tDrop (tBM K "list" rAppend ta (tCons te tNil))) r m k := fun E σ F H w e p => by
  refine h σ F H _ w e fun x m1 v F1 H1 h1 w1 s1 i1 => ?_
  obtain ⟨a, ys, rfl, hy, h1⟩ := h1
  obtain rfl : v = .ref a := i1
  obtain ⟨_, vs, g1, g2⟩ := w1.st a _ hy
  refine ⟨.inl ⟨rfl, vs, SqL.of g1⟩, ?_⟩
  refine h1 σ F1 H1 _ w1 (e.mono s1.same) fun d m2 v F2 H2 h2 w2 s2 i2 => ?_
  obtain ⟨xs, e2, hl, hk⟩ := h2
  obtain ⟨_, ws, g3, g4⟩ := w2.st a _ e2
  refine ⟨a, ws, v, rfl, rfl, g3, ?_, ?_⟩
  · rw [← g4.len, sizeLine_eq]; exact Nat.lt_of_lt_of_le hl (by decide)
  · have hn : MIs K F2 (upd H2 a (.lst (ws ++ [v]))) a (.lst (xs ++ [d])) := ⟨_, upd_same, g4.app (.one i2)⟩
    exact p.nx r _ σ F2 _ hk (w2.write e2 hn) ((s1.trans s2).trans (Stp.write e2)) (e.mono (s1.trans s2).same)
/-- xs[i] = e -/
theorem s_setL {te to ti : TE} (h : wE K te r m fun d m1 => wE K to r m1 fun o m2 => wE K ti r m2 fun y m3 => ∃ a xs i j, o = .ref a ∧ y = .int i ∧ m3 a = some (.lst xs) ∧ ixN xs.length i = some j ∧ k.nx r (updM m3 a (.lst (xs.set j d)))) :
    wS K (tAsg te (gSub to ti rSetL)) r m k := fun E σ F H w e p => by
  refine h σ F H _ w e fun d m1 v F1 H1 h1 w1 s1 i1 => ?_
  refine h1 σ F1 H1 _ w1 (e.mono s1.same) fun o m2 v2 F2 H2 h2 w2 s2 i2 => ?_
  have s12 := s1.trans s2
  refine h2 σ F2 H2 _ w2 (e.mono s12.same) fun y m3 v3 F3 H3 h3 w3 s3 i3 => ?_
  obtain ⟨a, xs, i, j, rfl, rfl, e3, hj, hk⟩ := h3
  obtain ⟨_, ws, g3, g4⟩ := w3.st a _ e3
  have s123 := s12.trans s3
  refine ⟨a, ws, i, j, i2, i3, g3, by rw [← g4.len]; exact hj, ?_⟩
  have hn : MIs K F3 (upd H3 a (.lst (ws.set j v))) a (.lst (xs.set j d)) := ⟨_, upd_same, g4.set (Is.mono (s2.trans s3).same _ _ i1)⟩
  exact p.nx r _ σ F3 _ hk (w3.write e3 hn) (s123.trans (Stp.write e3)) (e.mono s123.same)
/-- o.f = e -/
theorem s_fld {ta tv : TE} {f : Str} (h : wE K tv r m fun d m1 => wE K ta r m1 fun o m2 => ∃ a C fs, o = .ref a ∧ m2 a = some (.ins C fs) ∧ Cls K C ∧ NoAttr K C f ∧ fs.length < 1000 ∧ k.nx r (updM m2 a (.ins C (putD f d fs)))) :
    wS K (sFld K ta tv f) r m k := fun E σ F H w e p => by
  refine h σ F H _ w e fun d m1 v F1 H1 h1 w1 s1 i1 => ?_
  refine h1 σ F1 H1 _ w1 (e.mono s1.same) fun o m2 v2 F2 H2 h2 w2 s2 i2 => ?_
  have s12 := s1.trans s2
  obtain ⟨a, C, fs, rfl, e2, hc, hn, hl, hk⟩ := h2
  obtain ⟨_, dx, gs, g3, g4⟩ := w2.st a _ e2
  refine ⟨a, C, dx, gs, i2, g3, hc, hn, by rw [← g4.len]; exact hl, ?_⟩
  have hn : MIs K F2 (upd H2 a (.ins C dx (putF f v gs))) a (.ins C (putD f d fs)) := ⟨dx, _, upd_same, IsF.put (Is.mono s2.same _ _ i1) g4⟩
  exact p.nx r _ σ F2 _ hk (w2.write e2 hn) (s12.trans (Stp.write e2)) (e.mono s12.same)
/-- a slot's list is to stay as it is from here on -/
theorem s_frz {t : TS} {i : Nat} {a : Addr} {xs : List D} (hr : r[i]? = some (some (.ref a))) (hm : m a = some (.lst xs)) (h : wS K t (r.set i (some (.lst xs))) (delM m a) k) : wS K t r m k := fun E σ F H w e p => by
  obtain ⟨_, vs, g1, g2⟩ := w.st a _ hm
  have w2 := w.freeze hm g1
  have s2 := Stp.freeze (u := .lst vs) w hm
  obtain ⟨v, hv, hv2⟩ := e.2 i _ hr
  refine h E σ _ H w2 ((e.mono s2.same).put i (fun v' hv' => ?_) ⟨v, hv⟩) (p.step s2)
  rw [hv] at hv'
  cases hv'
  exact ⟨a, vs, hv2, SqL.of upd_same, IsL.mono s2.same _ _ g2⟩
/-- less is told of the store -/
theorem s_less {t : TS} (hs : Sub m1 m) (h : wS K t r m1 k) (hn : True) : wS K t r m k := fun E σ F H w e p => by
  refine h E σ F H (w.less hs) e (p.step ((Stp.refl (m := m) (F := F) (H := H)).less hs))
theorem s_aug {i : Nat} {te : TE} {f : Int → Int → Int} {a : Int} (hr : r[i]? = some (some (.int a))) (h : wE K te r m fun d m1 => ∃ b, d = .int b ∧ k.nx (r.set i (some (.int (f a b)))) m1) : wS K (tAug i te (ipI f)) r m k := fun E σ F H w e p => by
  obtain ⟨v, hv, hv2⟩ := e.2 i _ hr
  obtain rfl : v = .int a := hv2
  refine ⟨_, hv, ?_⟩
  refine h σ F H _ w e fun d m1 v F1 H1 h1 w1 s1 i1 => ?_
  obtain ⟨b, rfl, h1⟩ := h1
  refine ⟨a, b, rfl, i1, ?_⟩
  exact p.nx _ m1 _ F1 H1 h1 w1 s1 ((e.mono s1.same).set i rfl)
end
/-! ### loops -/
/-- J yields the data xs, one at each turn, whatever is made meanwhile -/
def Walks (K : PySem.W.Frag) (J : It) (xs : List D) (F0 : Hp) : Prop :=
  ∀ i F H m, Same F0 F → Wd K F H m → (i < xs.length → J.go i H ∧ ∀ v H', J.yld i H v H' → ∃ F', Wd K F' H' m ∧ Stp m F H m F' H' ∧ ∀ d, xs[i]? = some d → Is K F' d v) ∧ (xs.length ≤ i → J.stop i H)
def wI (K : PySem.W.Frag) (t : TI) (r : En) (m : Mu) (k : List D → Mu → Prop) : Prop := ∀ σ F H R, Wd K F H m → EnvOk K F σ r →
  (∀ xs m' F' H' J, k xs m' → Wd K F' H' m' → Stp m F H m' F' H' → Walks K J xs F' → R J H') → t σ H R
section
variable {K : PySem.W.Frag} {r : En} {m m1 m2 : Mu} {F0 : Hp}
theorem walks_list {a : Addr} {vs : List V} {xs : List D} (h : SqL K F0 a vs) (hi : IsL K F0 xs vs) : Walks K (Itl K a) xs F0 := fun i F H m s w => by
  have hq : SqL K H a vs := (s.trans w.same).seq h
  have hl := hi.len
  refine ⟨fun hlt => ⟨⟨vs, vs[i]'(by omega), hq, List.getElem?_eq_getElem (by omega)⟩, fun v H' y => ?_⟩, fun hle => ⟨vs, hq, by omega⟩⟩
  obtain ⟨rfl, y⟩ := y
  refine ⟨F, w, Stp.refl, fun d hd => ?_⟩
  obtain ⟨d', e1, e2⟩ := hi.get (y vs hq)
  rw [hd] at e1; cases e1
  exact Is.mono s _ _ e2
theorem walks_tup {a : Addr} {vs : List V} {xs : List D} (h : SqT K F0 a vs) (hi : IsL K F0 xs vs) : Walks K (Itt K a) xs F0 := fun i F H m s w => by
  have hq : SqT K H a vs := Same.tq (s.trans w.same) h
  have hl := hi.len
  refine ⟨fun hlt => ⟨⟨vs, vs[i]'(by omega), hq, List.getElem?_eq_getElem (by omega)⟩, fun v H' y => ?_⟩, fun hle => ⟨vs, hq, by omega⟩⟩
  obtain ⟨rfl, y⟩ := y
  refine ⟨F, w, Stp.refl, fun d hd => ?_⟩
  obtain ⟨d', e1, e2⟩ := hi.get (y vs hq)
  rw [hd] at e1; cases e1
  exact Is.mono s _ _ e2
def rangeD (lo : Int) (n : Nat) : List D := (List.range n).map fun (i : Nat) => D.int (lo + (i : Int))
theorem rangeD_get {lo : Int} {n i : Nat} {d : D} (h : (rangeD lo n)[i]? = some d) : i < n ∧ d = .int (lo + i) := by
  unfold rangeD at h
  rw [List.getElem?_map] at h
  cases e : (List.range n)[i]? with
  | none => rw [e] at h; cases h
  | some j =>
    rw [e] at h
    have e2 := List.getElem?_eq_some_iff.mp e
    obtain ⟨h1, h2⟩ := e2
    rw [List.length_range] at h1
    rw [List.getElem_range] at h2
    subst h2
    exact ⟨h1, (Option.some.inj h).symm⟩
theorem rangeD_len {lo : Int} {n : Nat} : (rangeD lo n).length = n := by unfold rangeD; rw [List.length_map, List.length_range]
theorem walks_range {lo : Int} {n : Nat} : Walks K (Itr lo n) (rangeD lo n) F0 := fun i F H m s w => by
  rw [rangeD_len]
  refine ⟨fun hlt => ⟨hlt, fun v H' y => ?_⟩, fun hle => hle⟩
  obtain ⟨rfl, rfl⟩ := y
  refine ⟨F, w, Stp.refl, fun d hd => ?_⟩
  rw [(rangeD_get hd).2]
  exact rfl
def zipD (xs ys : List D) : List D := List.zipWith (fun x y => .tup [x, y]) xs ys
theorem zipD_get {xs ys : List D} {i : Nat} {d : D} (h : (zipD xs ys)[i]? = some d) : ∃ x y, xs[i]? = some x ∧ ys[i]? = some y ∧ d = .tup [x, y] := by
  unfold zipD at h
  rw [List.getElem?_zipWith] at h
  cases e1 : xs[i]? with
  | none => rw [e1] at h; simp at h
  | some x =>
    cases e2 : ys[i]? with
    | none => rw [e1, e2] at h; simp at h
    | some y => rw [e1, e2] at h; exact ⟨x, y, rfl, rfl, (Option.some.inj h).symm⟩
theorem zipD_len {xs ys : List D} : (zipD xs ys).length = min xs.length ys.length := by unfold zipD; rw [List.length_zipWith]
theorem walks_zip {a b : Addr} {us vs : List V} {xs ys : List D} (h : SqL K F0 a us) (hi : IsL K F0 xs us) (h2 : SqL K F0 b vs) (hi2 : IsL K F0 ys vs) : Walks K (Itz K a b) (zipD xs ys) F0 := fun i F H m s w => by
  have hq : SqL K H a us := (s.trans w.same).seq h
  have hq2 : SqL K H b vs := (s.trans w.same).seq h2
  have hl := hi.len
  have hl2 := hi2.len
  rw [zipD_len]
  refine ⟨fun hlt => ⟨⟨us, vs, us[i]'(by omega), vs[i]'(by omega), hq, hq2, List.getElem?_eq_getElem (by omega), List.getElem?_eq_getElem (by omega)⟩, fun v H' y => ?_⟩, fun hle => ⟨us, vs, hq, hq2, by omega⟩⟩
  obtain ⟨T, x, y, rfl, hT, rfl, f1, f2⟩ := y
  refine ⟨upd F T (.tup [x, y]), w.newF hT, Stp.newF w hT, fun d hd => ?_⟩
  obtain ⟨dx, dy, e1, e2, rfl⟩ := zipD_get hd
  obtain ⟨d1, g1, g2⟩ := hi.get (f1 us hq)
  obtain ⟨d2, g3, g4⟩ := hi2.get (f2 vs hq2)
  rw [e1] at g1; cases g1
  rw [e2] at g3; cases g3
  have sm := (Stp.newF (u := .tup [x, y]) w hT).same
  exact ⟨T, [x, y], rfl, SqT.of upd_same, x, [y], rfl, Is.mono (s.trans sm) _ _ g2, y, [], rfl, Is.mono (s.trans sm) _ _ g4, rfl⟩
theorem walks_zipT {a b : Addr} {us vs : List V} {xs ys : List D} (h : SqT K F0 a us) (hi : IsL K F0 xs us) (h2 : SqT K F0 b vs) (hi2 : IsL K F0 ys vs) : Walks K (RZ.ItzT K a b) (zipD xs ys) F0 := fun i F H m s w => by
  have hq : SqT K H a us := Same.tq (s.trans w.same) h
  have hq2 : SqT K H b vs := Same.tq (s.trans w.same) h2
  have hl := hi.len
  have hl2 := hi2.len
  rw [zipD_len]
  refine ⟨fun hlt => ⟨⟨us, vs, us[i]'(by omega), vs[i]'(by omega), hq, hq2, List.getElem?_eq_getElem (by omega), List.getElem?_eq_getElem (by omega)⟩, fun v H' y => ?_⟩, fun hle => ⟨us, vs, hq, hq2, by omega⟩⟩
  obtain ⟨T, x, y, rfl, hT, rfl, f1, f2⟩ := y
  refine ⟨upd F T (.tup [x, y]), w.newF hT, Stp.newF w hT, fun d hd => ?_⟩
  obtain ⟨dx, dy, e1, e2, rfl⟩ := zipD_get hd
  obtain ⟨d1, g1, g2⟩ := hi.get (f1 us hq)
  obtain ⟨d2, g3, g4⟩ := hi2.get (f2 vs hq2)
  rw [e1] at g1; cases g1
  rw [e2] at g3; cases g3
  have sm := (Stp.newF (u := .tup [x, y]) w hT).same
  exact ⟨T, [x, y], rfl, SqT.of upd_same, x, [y], rfl, Is.mono (s.trans sm) _ _ g2, y, [], rfl, Is.mono (s.trans sm) _ _ g4, rfl⟩
variable {ki : List D → Mu → Prop}
theorem i_list {tl : TE} (h : wE K tl r m fun x m1 => ∃ xs, x = .lst xs ∧ ki xs m1) : wI K (iList K tl) r m ki := fun σ F H R w e p => by
  refine h σ F H _ w e fun x m1 v F1 H1 h1 w1 s1 i1 => ?_
  obtain ⟨xs, rfl, h1⟩ := h1
  obtain ⟨a, vs, rfl, h2, h3⟩ := i1
  exact ⟨a, rfl, ⟨vs, w1.same.seq h2⟩, p xs m1 F1 H1 _ h1 w1 s1 (walks_list h2 h3)⟩
theorem i_tup {tl : TE} (h : wE K tl r m fun x m1 => ∃ xs, x = .tup xs ∧ ki xs m1) : wI K (iTup K tl) r m ki := fun σ F H R w e p => by
  refine h σ F H _ w e fun x m1 v F1 H1 h1 w1 s1 i1 => ?_
  obtain ⟨xs, rfl, h1⟩ := h1
  obtain ⟨a, vs, rfl, h2, h3⟩ := i1
  exact ⟨a, rfl, ⟨vs, Same.tq w1.same h2⟩, p xs m1 F1 H1 _ h1 w1 s1 (walks_tup h2 h3)⟩
theorem i_rng1 {ta : TA} (h : wA K ta r m fun ds m1 => ∃ j, ds = [.int j] ∧ -100000 ≤ j ∧ j ≤ 100000 ∧ ki (rangeD 0 j.toNat) m1) : wI K (iRng1 ta) r m ki := fun σ F H R w e p => by
  refine h σ F H _ w e fun ds m1 vs F1 H1 h1 w1 s1 i1 => ?_
  obtain ⟨j, rfl, h2, h3, h1⟩ := h1
  obtain ⟨v, t, rfl, i2, rfl⟩ := i1
  obtain rfl : v = .int j := i2
  exact ⟨j, rfl, by omega, by omega, p _ m1 F1 H1 _ h1 w1 s1 walks_range⟩
theorem i_rng2 {ta : TA} (h : wA K ta r m fun ds m1 => ∃ i j, ds = [.int i, .int j] ∧ (-100000 ≤ i ∧ i ≤ 100000 ∧ -100000 ≤ j ∧ j ≤ 100000) ∧ ki (rangeD i (j - i).toNat) m1) : wI K (iRng2 ta) r m ki := fun σ F H R w e p => by
  refine h σ F H _ w e fun ds m1 vs F1 H1 h1 w1 s1 i1 => ?_
  obtain ⟨i, j, rfl, h2, h1⟩ := h1
  obtain ⟨v, t, rfl, i2, v', t', rfl, i3, rfl⟩ := i1
  obtain rfl : v = .int i := i2
  obtain rfl : v' = .int j := i3
  exact ⟨i, j, rfl, by omega, p _ m1 F1 H1 _ h1 w1 s1 walks_range⟩
theorem i_zip {ta : TA} (h : wA K ta r m fun ds m1 => ∃ xs ys, ds = [.lst xs, .lst ys] ∧ ki (zipD xs ys) m1) : wI K (iZip K ta) r m ki := fun σ F H R w e p => by
  refine h σ F H _ w e fun ds m1 vs F1 H1 h1 w1 s1 i1 => ?_
  obtain ⟨xs, ys, rfl, h1⟩ := h1
  obtain ⟨v, t, rfl, ⟨a, us, rfl, h2, h3⟩, v', t', rfl, ⟨b, ws, rfl, h4, h5⟩, rfl⟩ := i1
  exact ⟨a, b, us, ws, rfl, w1.same.seq h2, w1.same.seq h4, p _ m1 F1 H1 _ h1 w1 s1 (walks_zip h2 h3 h4 h5)⟩
theorem i_zipA {ta : TA} (h : wA K ta r m fun ds m1 => (∃ xs ys, ds = [.lst xs, .lst ys] ∧ ki (zipD xs ys) m1) ∨ ∃ xs ys, ds = [.tup xs, .tup ys] ∧ ki (zipD xs ys) m1) : wI K (RZ.iZipA K ta) r m ki := fun σ F H R w e p => by
  refine h σ F H _ w e fun ds m1 vs F1 H1 h1 w1 s1 i1 => ?_
  rcases h1 with ⟨xs, ys, rfl, h1⟩ | ⟨xs, ys, rfl, h1⟩
  · obtain ⟨v, t, rfl, ⟨a, us, rfl, h2, h3⟩, v', t', rfl, ⟨b, ws, rfl, h4, h5⟩, rfl⟩ := i1
    exact ⟨a, b, us, ws, rfl, .inl ⟨w1.same.seq h2, w1.same.seq h4, p _ m1 F1 H1 _ h1 w1 s1 (walks_zip h2 h3 h4 h5)⟩⟩
  · obtain ⟨v, t, rfl, ⟨a, us, rfl, h2, h3⟩, v', t', rfl, ⟨b, ws, rfl, h4, h5⟩, rfl⟩ := i1
    exact ⟨a, b, us, ws, rfl, .inr ⟨Same.tq w1.same h2, Same.tq w1.same h4, p _ m1 F1 H1 _ h1 w1 s1 (walks_zipT h2 h3 h4 h5)⟩⟩
theorem s_for {wi : TI} {g : TG} {tb : TS} {k : KS}
    (h : wI K wi r m fun xs m1 => ∃ I : Nat → En → Mu → Prop, I 0 r m1 ∧ (∀ i x r' m', xs[i]? = some x → I i r' m' → wG K g x r' m' fun r2 m2 => wS K tb r2 m2 { nx := I (i + 1), rt := k.rt, bk := k.nx, ct := I (i + 1) }) ∧ ∀ r' m', I xs.length r' m' → k.nx r' m') :
    wS K (tFor wi g tb) r m k := fun E σ F H w e p => by
  refine h σ F H _ w e fun xs m1 F1 H1 J h1 w1 s1 hw => ?_
  obtain ⟨I, h0, hs, hd⟩ := h1
  refine ⟨fun i n σ' H' => n = xs.length - i ∧ i ≤ xs.length ∧ ∃ r' m' F', I i r' m' ∧ Wd K F' H' m' ∧ Stp m1 F1 H1 m' F' H' ∧ EnvOk K F' σ' r', ⟨xs.length, rfl, Nat.zero_le _, r, m1, F1, h0, w1, Stp.refl, e.mono s1.same⟩, ?_⟩
  rintro i n σ' H' ⟨rfl, hi, r', m', F', hI, w', s', e'⟩
  obtain ⟨go, stop⟩ := hw i F' H' m' s'.same w'
  by_cases hlt : i < xs.length
  · obtain ⟨g1, g2⟩ := go hlt
    refine .inr ⟨g1, fun σ2 H2 => ∃ r2 m2 F2, I (i + 1) r2 m2 ∧ Wd K F2 H2 m2 ∧ Stp m1 F1 H1 m2 F2 H2 ∧ EnvOk K F2 σ2 r2, fun σ2 H2 q => ⟨xs.length - (i + 1), by omega, rfl, hlt, q⟩, fun v H2 y => ?_⟩
    obtain ⟨F2, w2, s2, iv⟩ := g2 v H2 y
    have hx : xs[i]? = some xs[i] := List.getElem?_eq_getElem hlt
    have s12 := s'.trans s2
    refine hs i _ r' m' hx hI v σ' F2 H2 _ w2 (iv _ hx) (e'.mono s2.same) fun r3 m3 σ3 F3 H3 h3 w3 s3 e3 => ?_
    have s13 := s12.trans s3
    refine h3 _ σ3 F3 H3 w3 e3 ⟨fun r4 m4 σ4 F4 H4 h4 w4 s4 e4 => ⟨r4, m4, F4, h4, w4, s13.trans s4, e4⟩, p.rt.step (s1.trans s13), p.nx.step (s1.trans s13), fun r4 m4 σ4 F4 H4 h4 w4 s4 e4 => ⟨r4, m4, F4, h4, w4, s13.trans s4, e4⟩⟩
  · have e0 : i = xs.length := by omega
    subst e0
    exact .inl ⟨stop (Nat.le_refl _), p.nx r' m' σ' F' H' (hd r' m' hI) w' (s1.trans s') e'⟩
theorem s_while {c : TT} {tb : TS} {k : KS} (I : Nat → En → Mu → Prop) (n0 : Nat) (h0 : I n0 r m)
    (hs : ∀ n r' m', I n r' m' → wT K c r' m' fun b m1 => if b = true then wS K tb r' m1 { nx := fun r2 m2 => ∃ n', n' < n ∧ I n' r2 m2, rt := k.rt, bk := k.nx, ct := fun r2 m2 => ∃ n', n' < n ∧ I n' r2 m2 } else k.nx r' m1) :
    wS K (tWhile c tb) r m k := fun E σ F H w e p => by
  refine ⟨fun n σ' H' => ∃ r' m' F', I n r' m' ∧ Wd K F' H' m' ∧ Stp m F H m' F' H' ∧ EnvOk K F' σ' r', ⟨n0, r, m, F, h0, w, Stp.refl, e⟩, ?_⟩
  rintro n σ' H' ⟨r', m', F', hI, w', s', e'⟩
  refine hs n r' m' hI σ' F' H' _ w' e' fun b m1 F1 H1 h1 w1 s1 => ?_
  have s01 := s'.trans s1
  cases b with
  | true =>
    refine ⟨fun σ2 H2 => ∃ n', n' < n ∧ ∃ r2 m2 F2, I n' r2 m2 ∧ Wd K F2 H2 m2 ∧ Stp m F H m2 F2 H2 ∧ EnvOk K F2 σ2 r2, fun σ2 H2 q => q, ?_⟩
    exact h1 _ σ' F1 H1 w1 (e'.mono s1.same) ⟨fun r4 m4 σ4 F4 H4 ⟨n', hn, h4⟩ w4 s4 e4 => ⟨n', hn, r4, m4, F4, h4, w4, s01.trans s4, e4⟩, p.rt.step s01, p.nx.step s01, fun r4 m4 σ4 F4 H4 ⟨n', hn, h4⟩ w4 s4 e4 => ⟨n', hn, r4, m4, F4, h4, w4, s01.trans s4, e4⟩⟩
  | false => exact p.nx r' m1 σ' F1 H1 h1 w1 s01 (e'.mono s1.same)
/-! ### comprehensions -/
theorem wipe_set {j : Nat} {x : Option V} : ∀ (vs : List Nat) (σ : L2.St), j ∈ vs → L2.wipe (σ.set j x) vs = L2.wipe σ vs
  | [], σ, h => by simp at h
  | v :: vs, σ, h => by
    show (L2.wipe (σ.set j x) vs).set v none = (L2.wipe σ vs).set v none
    by_cases hj : j ∈ vs
    · rw [wipe_set vs σ hj]
    · have e : j = v := by simpa [hj] using h
      subst e
      have : ∀ vs : List Nat, j ∉ vs → L2.wipe (σ.set j x) vs = (L2.wipe σ vs).set j x := by
        intro vs
        induction vs with
        | nil => intro _; rfl
        | cons u us ih =>
          intro hn
          simp only [List.mem_cons, not_or] at hn
          show (L2.wipe (σ.set j x) us).set u none = ((L2.wipe σ us).set u none).set j x
          rw [ih hn.2, List.set_comm _ _ hn.1]
      rw [this vs hj, List.set_set]
def GIn (g : TG) (vs : List Nat) : Prop := ∀ v (a σ : L2.St) H (Q : L2.St → Hp → Prop), L2.wipe σ vs = a → g v σ H (fun σ2 H2 => L2.wipe σ2 vs = a → Q σ2 H2) → g v σ H (fun σ2 H2 => L2.wipe σ2 vs = a ∧ Q σ2 H2)
def GsIn (g : TGs) (vs : List Nat) : Prop := ∀ v (a σ : L2.St) H (Q : L2.St → Hp → Prop), L2.wipe σ vs = a → g v σ H (fun σ2 H2 => L2.wipe σ2 vs = a → Q σ2 H2) → g v σ H (fun σ2 H2 => L2.wipe σ2 vs = a ∧ Q σ2 H2)
theorem gin_name {j : Nat} {vs : List Nat} (h : j ∈ vs) : GIn (gName j) vs := fun v a σ H Q e q => by
  have e2 : L2.wipe (σ.set j (some v)) vs = a := (wipe_set vs σ h).trans e
  exact ⟨e2, q e2⟩
theorem gsin_nil {vs : List Nat} : GsIn gNil vs := fun v a σ H Q e q => ⟨q.1, e, q.2 e⟩
theorem gsin_one {j : Nat} {vs : List Nat} {t : TGs} (h : j ∈ vs) (ht : GsIn t vs) : GsIn (gCons (gName j) t) vs := fun v a σ H Q e q => by
  obtain ⟨x, r, e1, q⟩ := q
  exact ⟨x, r, e1, ht r a (σ.set j (some x)) H Q ((wipe_set vs σ h).trans e) q⟩
theorem gin_tup {n : Nat} {vs : List Nat} {t : TGs} (ht : GsIn t vs) : GIn (gTup K n t) vs := fun v a σ H Q e q => by
  obtain ⟨x, xs, e1, e2, e3, q⟩ := q
  exact ⟨x, xs, e1, e2, e3, ht xs a σ H Q e q⟩
theorem wipe_wipe (vs : List Nat) (σ : L2.St) : L2.wipe (L2.wipe σ vs) vs = L2.wipe σ vs := by
  have : ∀ (us : List Nat), (∀ j ∈ us, j ∈ vs) → L2.wipe (L2.wipe σ us) vs = L2.wipe σ vs := by
    intro us
    induction us with
    | nil => intro _; rfl
    | cons u us ih =>
      intro hs
      show L2.wipe ((L2.wipe σ us).set u none) vs = _
      rw [wipe_set vs _ (hs u (List.mem_cons_self ..))]
      exact ih fun j hj => hs j (List.mem_cons_of_mem _ hj)
  exact this vs fun _ h => h
theorem e_lc {wi : TI} {g : TG} {tt : TT} {te : TE} {vs : List Nat} {k : D → Mu → Prop} (hg : GIn g vs)
    (h : wI K wi r m fun xs m1 => xs.length < 100000 ∧ ∃ I : Nat → List D → Mu → Prop, I 0 [] m1 ∧
      (∀ i x acc m', xs[i]? = some x → I i acc m' → wG K g x (wipeD r vs) m' fun r2 m2 => wT K tt r2 m2 fun b m3 => if b = true then wE K te r2 m3 fun d m4 => I (i + 1) (acc ++ [d]) m4 else I (i + 1) acc m3) ∧
      ∀ acc m', I xs.length acc m' → k (.lst acc) m' ∨ ∀ a, m' a = none → k (.ref a) (updM m' a (.lst acc))) :
    wE K (tLc wi g tt te vs) r m k := fun σ F H Q w e p => by
  refine h σ F H _ w e fun xs m1 F1 H1 J h1 w1 s1 hw => ?_
  obtain ⟨hz, I, h0, hs, hd⟩ := h1
  intro D hD
  refine ⟨fun i n H' => n = xs.length - i ∧ i ≤ xs.length ∧ ∃ acc us m' F', acc.length ≤ i ∧ I i acc m' ∧ Wd K F' H' m' ∧ m' D = none ∧ F' D = none ∧ H' D = some (.lst us) ∧ IsL K F' acc us ∧ Stp m1 F1 H1 m' F' H', ⟨xs.length, rfl, Nat.zero_le _, [], [], m1, F1, Nat.zero_le _, h0, ?_, w1.free hD, w1.freeF hD, upd_same, rfl, ?_⟩, ?_⟩
  · exact ⟨fun b u q => by rw [upd_ne (ne_of_none q (w1.freeF hD))]; exact w1.same b u q, fun a o q => ⟨(w1.st a o q).1, (w1.st a o q).2.mono (Same.refl _) fun u hu => by rw [upd_ne (ne_of_none hu hD)]; exact hu⟩⟩
  · exact ⟨Same.refl _, fun a o _ q => by rw [upd_ne (ne_of_none q hD)]; exact q, fun a q q' => absurd q q', fun a q q' => absurd q q'⟩
  rintro i n H' ⟨rfl, hi, acc, us, m', F', hal, hI, w', hm, hF, hH, ha, s'⟩
  obtain ⟨go, stop⟩ := hw i F' H' m' s'.same w'
  -- the new list stays untouched by what is read
  have keep : ∀ {m2 : Mu} {F2 H2 : Hp}, Stp m' F' H' m2 F2 H2 → m2 D = none ∧ F2 D = none ∧ H2 D = some (.lst us) := fun {m2 F2 H2} s => by
    refine ⟨?_, ?_, s.frame D _ hm hH⟩
    · cases q : m2 D with
      | none => rfl
      | some o => have := s.new D hm (by rw [q]; exact fun z => nomatch z); rw [hH] at this; cases this
    · cases q : F2 D with
      | none => rfl
      | some o =>
        rcases s.fnew D hF (by rw [q]; exact fun z => nomatch z) with z | z
        · rw [hH] at z; cases z
        · exact absurd hm z
  by_cases hlt : i < xs.length
  · obtain ⟨g1, g2⟩ := go hlt
    refine .inr ⟨g1, fun H2 => ∃ acc us m2 F2, acc.length ≤ i + 1 ∧ I (i + 1) acc m2 ∧ Wd K F2 H2 m2 ∧ m2 D = none ∧ F2 D = none ∧ H2 D = some (.lst us) ∧ IsL K F2 acc us ∧ Stp m1 F1 H1 m2 F2 H2, fun H2 q => ⟨xs.length - (i + 1), by omega, rfl, hlt, q⟩, fun v H2 y => ?_⟩
    obtain ⟨F2, w2, s2, iv⟩ := g2 v H2 y
    have hx : xs[i]? = some xs[i] := List.getElem?_eq_getElem hlt
    refine hg v _ (L2.wipe σ vs) H2 _ (wipe_wipe vs σ) ?_
    refine hs i _ acc m' hx hI v (L2.wipe σ vs) F2 H2 _ w2 (iv _ hx) ((e.mono (s1.trans (s'.trans s2)).same).wipe vs) fun r3 m3 σ3 F3 H3 h3 w3 s3 e3 => fun _ => ?_
    refine h3 σ3 F3 H3 _ w3 e3 fun b m4 F4 H4 h4 w4 s4 => ?_
    have t4 := (s2.trans s3).trans s4
    cases b with
    | false =>
      obtain ⟨k1, k2, k3⟩ := keep t4
      exact ⟨acc, us, m4, F4, by omega, h4, w4, k1, k2, k3, IsL.mono t4.same _ _ ha, s'.trans t4⟩
    | true =>
      refine h4 σ3 F4 H4 _ w4 (e3.mono s4.same) fun d m5 v5 F5 H5 h5 w5 s5 i5 => ?_
      have t5 := t4.trans s5
      obtain ⟨k1, k2, k3⟩ := keep t5
      have hau := IsL.mono t5.same _ _ ha
      refine ⟨us, k3, ?_, acc ++ [d], us ++ [v5], m5, F5, by rw [List.length_append]; simp; omega, h5, ?_, k1, k2, upd_same, hau.app (.one i5), ?_⟩
      · rw [← hau.len, sizeLine_eq]; omega
      · exact ⟨fun b u q => by rw [upd_ne (ne_of_none q k2)]; exact w5.same b u q, fun a o q => by
          have : a ≠ D := fun z => by rw [z, k1] at q; cases q
          exact ⟨(w5.st a o q).1, (w5.st a o q).2.mono (Same.refl _) fun u hu => by rw [upd_ne this]; exact hu⟩⟩
      · have s6 := s'.trans t5
        exact ⟨s6.same, fun a o q q2 => by rw [upd_ne (ne_of_none q2 hD)]; exact s6.frame a o q q2, s6.new, s6.fnew⟩
  · have e0 : i = xs.length := by omega
    subst e0
    refine .inl ⟨stop (Nat.le_refl _), ?_⟩
    rcases hd acc m' hI with hk | hk
    · refine p (.lst acc) m' _ (upd F' D (.lst us)) H' hk ?_ ?_ ⟨D, us, rfl, SqL.of upd_same, IsL.mono (fun b u q => by rw [upd_ne (ne_of_none q hF)]; exact q) _ _ ha⟩
      · exact ⟨fun b u q => by
          by_cases hb : b = D
          · rw [hb, upd_same] at q; rw [hb, hH]; exact q
          · rw [upd_ne hb] at q; exact w'.same b u q, fun a o q => by
          have : a ≠ D := fun z => by rw [z, hm] at q; cases q
          exact ⟨by rw [upd_ne this]; exact (w'.st a o q).1, (w'.st a o q).2.mono (fun b u q => by rw [upd_ne (ne_of_none q hF)]; exact q) fun u hu => hu⟩⟩
      · have s6 : Stp m1 F1 H1 m' (upd F' D (.lst us)) H' := ⟨fun b u q => by
          have q' := s'.same b u q
          rw [upd_ne (ne_of_none q' hF)]; exact q', s'.frame, s'.new, fun a q q2 => by
          by_cases hb : a = D
          · rw [hb]; exact .inl hD
          · rw [upd_ne hb] at q2; exact s'.fnew a q q2⟩
        exact s1.trans s6
    · refine p (.ref D) _ _ F' H' (hk D hm) ?_ ?_ rfl
      · exact ⟨w'.same, fun a o q => by
          by_cases hb : a = D
          · rw [hb, updM_same] at q; cases q; rw [hb]; exact ⟨hF, us, hH, ha⟩
          · rw [updM_ne hb] at q; exact w'.st a o q⟩
      · have s6 : Stp m1 F1 H1 (updM m' D (.lst acc)) F' H' := ⟨s'.same, s'.frame, fun a q q2 => by
          by_cases hb : a = D
          · rw [hb]; exact hD
          · rw [updM_ne hb] at q2; exact s'.new a q q2, s'.fnew⟩
        exact s1.trans s6
end
/-! ### a def keeps its promise -/
def startD (N : List Str) (ds : List D) : En := ds.map some ++ List.replicate (N.length - ds.length) none
theorem env_start {K : PySem.W.Frag} {F : Hp} {N : List Str} {ds : List D} {vs : List V} (h : IsL K F ds vs) : EnvOk K F (L2.start N vs) (startD N ds) := by
  have hl := h.len
  refine ⟨by unfold L2.start startD; simp [hl], fun i d e => ?_⟩
  unfold startD at e
  unfold L2.start
  by_cases hi : i < ds.length
  · rw [List.getElem?_append_left (by simpa using hi), List.getElem?_map] at e
    have e2 : ds[i]? = some d := by
      cases q : ds[i]? with
      | none => rw [q] at e; cases e
      | some d' => rw [q] at e; exact congrArg some (Option.some.inj (Option.some.inj e))
    obtain ⟨v, h1, h2⟩ := h.get' e2
    refine ⟨v, ?_, h2⟩
    rw [List.getElem?_append_left (by simpa [← hl] using hi), List.getElem?_map, h1]; rfl
  · rw [List.getElem?_append_right (by simpa using hi)] at e
    rw [List.getElem?_replicate] at e
    split at e <;> simp at e
theorem ok_of {P : Program} {w : World} {K : PySem.W.Frag} {mg : Str → Option Value} {base : Heap} {x qual : Str} {params : Arguments} {body : List Stmt} {scope : Scope} {dvs : List V} {kws : List (Str × V)} {f : Addr} {fd : FuncData} {N ps : List Str} {kk : Nat} {S : SpD}
    (F : FunD K x qual params body scope dvs kws f fd) (Sc : FnScope N ps scope) (hl : ∀ ds m k, S ds m k → ds.length = ps.length)
    (hb : ∀ (cdv : Value) (A : Around) (outer : List Env) (s : Shared) (H : Hp) (E : XK), Room kk (A.deeper (envOfC qual scope s.heap.objs.size f cdv)) →
      ∃ t, PSs (cxOf CX0 P w K mg base N qual scope f cdv A outer s H E).nox body t ∧ ∀ ds m k, S ds m k → wS K t (startD N ds) m { nx := fun _ m' => k .non m', rt := k }) :
    FnOk P w K mg base CX0 (kk + 1) f fd ps (spOf K S) := by
  refine F.ok Sc (fun vs H Q E h => ?_) (fun cdv A outer s H vs Q E hr h => ?_)
  · obtain ⟨ds, F0, m, k, _, h2, h3, _⟩ := h
    rw [← h2.len]; exact hl ds m k h3
  · obtain ⟨ds, F0, m, k, w1, h2, h3, p⟩ := h
    obtain ⟨t, ht, hw⟩ := hb cdv A outer s H E hr
    refine ⟨t, PSs.nox ht, hw ds m k h3 _ _ F0 H w1 (env_start h2) ⟨fun r m' σ F' H' a b c _ => p .non m' .non F' H' a b c rfl, p, fun r m' σ F' H' a => a.elim, fun r m' σ F' H' a => a.elim⟩⟩
end DL
end

section
set_option Elab.async false
set_option linter.all false
set_option maxRecDepth 100000
set_option maxHeartbeats 2000000
namespace OW
open PySem PySem.Spec PyProof.Rows L2
/-! ### a def that hands back NotImplemented at once -/
structure FnNI (P : Program) (w : World) (K : PySem.W.Frag) (mg : Str → Option Value) (base : Heap) (k : Nat) (f : Addr) (fd : FuncData) (ps : List Str) (pre : List V → Hp → (Hp → Prop) → Prop) : Prop where
  len : ∀ vs H Q, pre vs H Q → vs.length = ps.length
  run : ∀ (A : Around) (outer : List Env) (s : Shared) (H : Hp) (args : Args) (us : List Value) (vs : List V) (Q : Hp → Prop), Room k A → Env0 P w K mg base A outer s H → BindsTo s fd args (ps.zip us) → Vals vs us → pre vs H Q →
    codeAny (model P w) A (.call (.ref f) args) (fun r s' => r = .ok (.ret .notImplemented) ∧ ∃ H', s'.os = s.os ∧ AllBare s'.gens ∧ Un (frs outer) [] H H' s.heap s'.heap ∧ HOk P w H' s'.heap ∧ Q H') s
theorem ni_of {P : Program} {w : World} {K : PySem.W.Frag} {mg : Str → Option Value} {base : Heap} {k : Nat} {f : Addr} {name qual : Str} {params : Arguments} {c : Expr} {p1 p2 p3 : Pos} {rest : List Stmt} {scope : Scope} {dvs : List V} {kws : List (Str × V)}
    {fd : FuncData} {N ps : List Str} {pre : List V → Hp → (Hp → Prop) → Prop} {body : List Stmt} (F : FunD K name qual params body scope dvs kws f fd) (hbd : body = .If c [.Return (some (.Name "NotImplemented" p1)) p2] [] p3 :: rest) (S : FnScope N ps scope)
    (hg : scope.names.lookup ("NotImplemented" : Str) = some NameKind.globalImplicit) (hm : mg "NotImplemented" = none)
    (len : ∀ vs H Q, pre vs H Q → vs.length = ps.length)
    (hbody : ∀ (cdv : Value) (A : Around) (outer : List Env) (s : Shared) (H : Hp) (vs : List V) (Q : Hp → Prop), Room k (A.deeper (envOfC qual scope s.heap.objs.size f cdv)) → pre vs H Q →
      ∃ t, PT (cxOf CX0 P w K mg base N qual scope f cdv A outer s H (fun _ _ _ => False)).nox c t ∧ t (L2.start N vs) H (fun b H' => b = true ∧ Q H')) :
    FnNI P w K mg base (k + 1) f fd ps pre := by
  obtain ⟨⟨oc, od, dV, kV, doc, pm, an, cdv, ct, osl, rfl, lk, hcd, _, _⟩, kp⟩ := F
  subst hbd
  refine ⟨len, fun A outer s H args us vs Q hr e0 hb r hsp => ?_⟩
  have hl := len _ _ _ hsp
  have KX : K.In s.heap := e0.mod.kin.keeps fun b o e => (e0.bs b o e).1
  have lim : s.heap.NoLimit := e0.mod.nolimit.keeps fun b o e => (e0.bs b o e).1
  have hkind : ∀ y ∈ ps.zip us, scope.names.lookup y.1 = some .local ∨ (scope.names.lookup y.1 = some .cell ∧ ((cellsFrom (s.heap.objs.size + 1) scope.names []).lookup y.1).isSome = true) := fun ⟨n, v⟩ hy => by
    rcases S.par n (List.of_mem_zip hy).1 with q | q
    · exact .inl q
    · exact .inr ⟨q, PySem.W.cellsFrom_some _ _ _ (.inl q)⟩
  refine codeAny_call_function hr.depth (KX _ _ lk) rfl S.co S.gen rfl (PySem.W.codeRec_of KX hcd) (hb _ _ _ _ ?_)
  refine wpAny_newFunctionEnv_cells S.kind hkind fun env he s1 x => ?_
  subst he
  refine ⟨lim.keeps x.toInCall.keep, codeAny_func ?_⟩
  obtain ⟨t, ht, hq⟩ := hbody cdv A outer s H vs Q (hr.deeper _) hsp
  have I0 : Inv (cxOf CX0 P w K mg base N qual scope f cdv A outer s H (fun _ _ _ => False)) [] (L2.start N vs) H s1 := inv_start S hr.hd e0 hl r x
  have I := I0.wish (fun _ _ => False)
  have hrun : wpAny (model P w) (A.deeper (envOfC qual scope s.heap.objs.size f cdv)) (execs (.If c [.Return (some (.Name "NotImplemented" p1)) p2] [] p3 :: rest) (envOfC qual scope s.heap.objs.size f cdv))
      (fun fl s' => fl = .ret .notImplemented ∧ ∃ H', s'.os = s.os ∧ AllBare s'.gens ∧ Un (frs outer) [] H H' s.heap s'.heap ∧ HOk P w H' s'.heap ∧ Q H') (fun _ _ => False) s1 := by
    refine wpAny_execs_cons (wpAny_If (wpAny_mono (ht.run [] s1 (L2.start N vs) H _ I hq) (fun d s2 h2 => ?_) fun _ _ z => z.elim))
    obtain ⟨H2, I2, rfl, q2⟩ := h2
    show wpAny _ _ (execs [_] _) _ _ s2
    exact wpAny_execs_cons (wpAny_Return_some (ld_blt I2 hg hm (by decide +kernel) ⟨rfl, H2, I2.os, I2.bare, I2.base, I2.hok, q2⟩))
  refine wpAny_mono hrun (fun fl s' hs => ?_) fun _ _ z => z.elim
  obtain ⟨rfl, hs⟩ := hs
  exact ⟨rfl, hs⟩
section
variable {X : Cx} {CX : CXT} {k : Nat} {f C : Addr} {fd : FuncData} {ps : List Str} {sp : Sp} {E : XK}
theorem run_ni {pins : List (Addr × Obj)} {σ : L2.St} {H : Hp} {s : Shared} {Q : Hp → Prop} {us : List Value} {vs : List V} {pre : List V → Hp → (Hp → Prop) → Prop} (F : FnNI X.prog X.w X.K X.mg X.base k f fd ps pre) (hr : Room k X.A) (hb : Binds X.K fd ps [])
    (I : Inv X pins σ H s) (r : Vals vs us) (h : pre vs H Q) : wpAny (model X.prog X.w) X.A (call (.ref f) us) (fun v s' => v = .notImplemented ∧ ∃ H', Inv X pins σ H' s' ∧ Q H') X.xe s := by
  have hl : (us ++ []).length = ps.length := by rw [List.append_nil, ← r.length]; exact F.len _ _ _ h
  have hb' := hb s us I.kIn hl
  rw [List.append_nil] at hb'
  refine wpAny_call (codeAny_mono (F.run X.A X.stack s H ⟨us, []⟩ us vs Q hr I.env0 hb' r h) fun r s' hq => ?_)
  obtain ⟨rfl, H', h1, h2, h3, h4, h5⟩ := hq
  exact ⟨rfl, H', I.call' h1 h3 h4 h2 (fun b hb => by cases hb), h5⟩
/-! ### what of the text an operator of a class must have -/
structure OpC (K : PySem.W.Frag) (C : Addr) (nm : String) (f : Addr) (rc : Option Value) : Prop where
  sf : PySem.W.selfFirst K C = true
  at_ : PySem.W.findIn K (.ref C) (PySem.dunder nm) = some (some (.ref f))
  fn : PySem.W.isFn K (.ref f) = true
  rat : PySem.W.findIn K (.ref C) (dunderR nm) = some rc
  rp : rc = none ∨ ∃ g : Addr, rc = some (.ref g)
theorem inst_at {pins : List (Addr × Obj)} {σ : L2.St} {H : Hp} {s : Shared} {a dx : Addr} {fs : List (Str × V)} (I : Inv X pins σ H s) (h : H a = some (.ins C dx fs)) : ∃ od, PySem.W.InstAt s.heap a (PySem.W.instObj C dx) C (some od) := by
  obtain ⟨mA, O, _⟩ := ins_get I.hok h
  obtain ⟨od, J, _⟩ := O.look
  exact ⟨od, J⟩
theorem back_of {pins : List (Addr × Obj)} {σ : L2.St} {Q : VK} {u : Value} {s : Shared} (h : EP X pins σ Q u s) : PySem.W.CmpBack (EP X pins σ Q) u s := by
  obtain ⟨v, H', I, r, q⟩ := h
  cases u with
  | notImplemented => cases v <;> simp [L2.RelV] at r
  | _ => exact ⟨v, H', I, r, q⟩
theorem notNI {v : V} {u : Value} (r : RelV v u) : u ≠ .notImplemented := fun z => by subst z; cases v <;> simp [L2.RelV] at r
theorem vals1 {x : V} {u : Value} (r : RelV x u) : Vals [x] [u] := .cons r .nil
theorem vals2 {x y : V} {u v : Value} (r : RelV x u) (q : RelV y v) : Vals [x, y] [u, v] := .cons r (.cons q .nil)
/-- -a, ~a of an instance -/
theorem un_own {op : UnaryOp} {nm : Str} (hop : (op = .USub ∧ nm = "__neg__") ∨ (op = .Invert ∧ nm = "__invert__")) (hs : PySem.W.findIn X.K (.ref C) nm = some (some (.ref f))) (hf : PySem.W.isFn X.K (.ref f) = true)
    (F : FnOk X.prog X.w X.K X.mg X.base CX k f fd ps sp) (hr : Room k X.A) (hb : Binds X.K fd ps []) (hx : Passes CX X E) :
    UnR X (unaryOp op) (fun x H Q => ∃ a dx fs, x = .ref a ∧ H a = some (.ins C dx fs) ∧ sp [x] H Q E) := by
  intro pins s σ H x v Q I rx h
  obtain ⟨a, dx, fs, rfl, ha, h⟩ := h
  obtain rfl : v = .ref a := rx
  obtain ⟨od, J⟩ := inst_at I ha
  obtain ⟨m, Fm⟩ := I.fr
  have hcall := run_fn (ds := []) (dvs := []) F hr hb .nil hx I (vals1 (x := .ref a) rfl) h
  rcases hop with ⟨rfl, rfl⟩ | ⟨rfl, rfl⟩
  · exact PySem.W.ksp_neg Fm I.mod.kin J hs hf hcall
  · exact PySem.W.ksp_inv Fm I.mod.kin J hs hf hcall
/-- a op b, a an instance of C, b one of C too -/
theorem op_same {op : Operator} {rc : Option Value} (O : OpC X.K C op.info.2 f rc) (F : FnOk X.prog X.w X.K X.mg X.base CX k f fd ps sp) (hr : Room k X.A) (hb : Binds X.K fd ps []) (hx : Passes CX X E) :
    OpR X (binaryOp op) (fun x y H Q => ∃ a dx fs b dy gs, x = .ref a ∧ y = .ref b ∧ H a = some (.ins C dx fs) ∧ H b = some (.ins C dy gs) ∧ sp [x, y] H Q E) := by
  intro pins s σ H x y u v Q I rx ry h
  obtain ⟨a, dx, fs, b, dy, gs, rfl, rfl, ha, hb2, h⟩ := h
  obtain rfl : u = .ref a := rx
  obtain rfl : v = .ref b := ry
  obtain ⟨od, J⟩ := inst_at I ha
  obtain ⟨od2, J2⟩ := inst_at I hb2
  obtain ⟨m, Fm⟩ := I.fr
  exact PySem.W.binop_K Fm I.mod.kin J J2.type O.sf O.at_ O.fn (thn (run_fn (ds := []) (dvs := []) F hr hb .nil hx I (vals2 (x := .ref a) (y := .ref b) rfl rfl) h) fun _ _ z => back_of z)
/-- a op n, a an instance, n an int -/
theorem op_int {op : Operator} {rc fo ro : Option Value} (O : OpC X.K C op.info.2 f rc) (h1 : PySem.W.findIn X.K (.type "int") (PySem.dunder op.info.2) = some fo) (h2 : PySem.W.findIn X.K (.type "int") (dunderR op.info.2) = some ro)
    (F : FnOk X.prog X.w X.K X.mg X.base CX k f fd ps sp) (hr : Room k X.A) (hb : Binds X.K fd ps []) (hx : Passes CX X E) :
    OpR X (binaryOp op) (fun x y H Q => ∃ a dx fs i, x = .ref a ∧ y = .int i ∧ H a = some (.ins C dx fs) ∧ sp [x, y] H Q E) := by
  intro pins s σ H x y u v Q I rx ry h
  obtain ⟨a, dx, fs, i, rfl, rfl, ha, h⟩ := h
  obtain rfl : u = .ref a := rx
  obtain ⟨t, rfl⟩ := ry
  obtain ⟨od, J⟩ := inst_at I ha
  obtain ⟨m, Fm⟩ := I.fr
  refine PySem.W.ksp_binT (T := "int") (rc := rc) Fm I.mod.kin J rfl O.sf O.at_ O.fn O.rat O.rp h1 h2 ?_ (thn (run_fn (ds := []) (dvs := []) F hr hb .nil hx I (vals2 (x := .ref a) (y := .int i) rfl ⟨t, rfl⟩) h) fun _ _ z => back_of z)
  rfl
/-- what the type int has -/
structure IntOp (op : Operator) (idl : String) (b : Builtin) : Prop where
  fill : fillsNumberSlot (.type "int") op.info.2 = pure true
  slot : Slot "int" (PySem.dunder op.info.2) idl
  entry : entryFor table idl = some b
  args : ∀ u v, argsOk idl ⟨[u, v], []⟩
  no : ∀ (M : Model) (A : Around) (E : Value → Shared → Prop) (i : Int) (t : Tok) (a C dx : Addr) (s : Shared) (Q : Fin → Shared → Prop), s.heap.get? a = some (PySem.W.instObj C dx) → Q (.done (.ret .notImplemented)) s → wpAny M A (b ⟨[.int i t, .ref a], []⟩) Q E s
/-- n op b, n an int, b an instance -/
theorem op_rint {op : Operator} {idl : String} {bi : Builtin} {rc : Option Value} {f0 : Addr} (IO : IntOp op idl bi) (O : OpC X.K C op.info.2 f0 rc) (hrc : rc = some (.ref f)) (hf : PySem.W.isFn X.K (.ref f) = true) (hsub : PySem.W.subIn X.K (.ref C) (.type "int") = some false)
    (F : FnOk X.prog X.w X.K X.mg X.base CX k f fd ps sp) (hr : Room k X.A) (hb : Binds X.K fd ps []) (hx : Passes CX X E) :
    OpR X (binaryOp op) (fun x y H Q => ∃ i b dx fs, x = .int i ∧ y = .ref b ∧ H b = some (.ins C dx fs) ∧ sp [y, x] H Q E) := by
  intro pins s σ H x y u v Q I rx ry h
  obtain ⟨i, b, dx, fs, rfl, rfl, ha, h⟩ := h
  obtain rfl : v = .ref b := ry
  obtain ⟨t, rfl⟩ := rx
  obtain ⟨od, J⟩ := inst_at I ha
  have KX := I.kIn
  obtain ⟨cd, rest, hcd, hm⟩ := PySem.W.ksp_first O.sf
  rcases hi : op.info with ⟨sym, nm'⟩
  have ofi := IO.fill
  have osl := IO.slot
  have oat := O.at_
  have ora := O.rat
  rw [hi] at ofi osl oat ora
  dsimp only at ofi osl oat ora
  have hne : (Value.type "int" == Value.ref C) = false := Bool.eq_false_iff.mpr fun q => by cases beq_iff_eq.mp q
  simp only [binaryOp, hi]
  refine wpAny_holding (wpAny_bind ?_)
  unfold binaryOp1
  refine wpAny_bind (wpAny_typeOf (typeIs_int s i t) (wpAny_bind (J.type.here (wpAny_bind (wpAny_of_eq ofi ?_)))))
  simp only [hne, Bool.false_eq_true, if_false]
  refine wpAny_bind ((PySem.W.fills_K KX hcd hm oat).here ?_)
  simp only [Bool.and_self, if_true]
  refine wpAny_bind ((PySem.W.looks_subIn KX hsub).here ?_)
  have hpy : numberSlotInPython (.type "int") nm' = pure false := rfl
  simp only [Bool.false_eq_true, if_false, pure_bind, Bool.not_false, Bool.and_self, if_true, hpy]
  refine wpAny_bind (wpAny_tryMethod_declines (typeIs_int s i t) osl ?_)
  refine wpAny_call_entry IO.slot (typeIs_int s i t) IO.entry (IO.no _ _ _ i t b C dx s _ J.at_ ⟨_, rfl, rfl, ?_⟩) (IO.args _ _)
  refine wpAny_bind ?_
  unfold tryMethod
  rw [hrc] at ora
  refine wpAny_bind (PySem.W.special_fn KX J ora (beq_iff_eq.mp hf) (wpAny_mono (run_fn (ds := []) (dvs := []) F hr hb .nil hx I (vals2 (x := .ref b) (y := .int i) rfl ⟨t, rfl⟩) h) (fun v s' hv => ?_) fun _ _ e => e))
  obtain ⟨z, H', I', r', q'⟩ := hv
  have hz := notNI r'
  cases v <;> first | exact absurd rfl hz | exact wpAny_pure (wpAny_bind (wpAny_rule (wpAny_pure (wpAny_pure ⟨z, H', I', r', q'⟩))))
/-- a op b, instances of two classes; the left one takes it -/
theorem op_two {op : Operator} {rc rc2 : Option Value} {C2 f2 : Addr} (O : OpC X.K C op.info.2 f rc) (O2 : OpC X.K C2 op.info.2 f2 rc2) (hne : C ≠ C2) (hsub : PySem.W.subIn X.K (.ref C2) (.ref C) = some false)
    (F : FnOk X.prog X.w X.K X.mg X.base CX k f fd ps sp) (hr : Room k X.A) (hb : Binds X.K fd ps []) (hx : Passes CX X E) :
    OpR X (binaryOp op) (fun x y H Q => ∃ a dx fs b dy gs, x = .ref a ∧ y = .ref b ∧ H a = some (.ins C dx fs) ∧ H b = some (.ins C2 dy gs) ∧ sp [x, y] H Q E) := by
  intro pins s σ H x y u v Q I rx ry h
  obtain ⟨a, dx, fs, b, dy, gs, rfl, rfl, ha, hb2, h⟩ := h
  obtain rfl : u = .ref a := rx
  obtain rfl : v = .ref b := ry
  obtain ⟨od, J⟩ := inst_at I ha
  obtain ⟨od2, J2⟩ := inst_at I hb2
  have KX := I.kIn
  obtain ⟨cd, rest, hcd, hm⟩ := PySem.W.ksp_first O.sf
  obtain ⟨cd2, rest2, hcd2, hm2⟩ := PySem.W.ksp_first O2.sf
  rcases hi : op.info with ⟨sym, nm'⟩
  have oat := O.at_
  have ora := O.rat
  have oat2 := O2.at_
  have ora2 := O2.rat
  rw [hi] at oat ora oat2 ora2
  dsimp only at oat ora oat2 ora2
  have hne' : (Value.ref C == Value.ref C2) = false := Bool.eq_false_iff.mpr fun q => by cases beq_iff_eq.mp q; exact hne rfl
  simp only [binaryOp, hi]
  refine wpAny_holding (wpAny_bind ?_)
  unfold binaryOp1
  refine wpAny_bind (J.type.here (wpAny_bind (J2.type.here (wpAny_bind ((PySem.W.fills_K KX hcd hm oat).here ?_)))))
  simp only [hne', Bool.false_eq_true, if_false]
  refine wpAny_bind ((PySem.W.fills_K KX hcd2 hm2 oat2).here ?_)
  simp only [Bool.and_self, if_true]
  refine wpAny_bind ((PySem.W.looks_subIn KX hsub).here ?_)
  simp only [Bool.false_eq_true, if_false, pure_bind, Bool.not_false, Bool.and_self, if_true]
  refine wpAny_bind ((PySem.W.ksp_inPy KX oat ora O.rp).here ?_)
  simp only [if_true]
  refine wpAny_bind ((PySem.W.ksp_inPy KX oat2 ora2 O2.rp).here ?_)
  simp only [Bool.not_true, Bool.false_eq_true, if_false, pure_bind]
  refine wpAny_bind ?_
  unfold tryMethod
  refine wpAny_bind (PySem.W.special_fn KX J oat (beq_iff_eq.mp O.fn) (wpAny_mono (run_fn (ds := []) (dvs := []) F hr hb .nil hx I (vals2 (x := .ref a) (y := .ref b) rfl rfl) h) (fun v s' hv => ?_) fun _ _ e => e))
  obtain ⟨z, H', I', r', q'⟩ := hv
  have hz := notNI r'
  cases v <;> first | exact absurd rfl hz | exact wpAny_pure (wpAny_pure (wpAny_pure ⟨z, H', I', r', q'⟩))
/-- a op b, instances of two classes; the left one declines, the right one's reflected method takes it -/
theorem op_rtwo {op : Operator} {rc rc2 : Option Value} {C2 f1 f2 : Addr} {k1 : Nat} {fd1 : FuncData} {ps1 : List Str} {pre : List V → Hp → (Hp → Prop) → Prop} (O : OpC X.K C op.info.2 f1 rc) (O2 : OpC X.K C2 op.info.2 f2 rc2) (hrc : rc2 = some (.ref f)) (hf : PySem.W.isFn X.K (.ref f) = true) (hne : C ≠ C2)
    (hsub : PySem.W.subIn X.K (.ref C2) (.ref C) = some false) (N : FnNI X.prog X.w X.K X.mg X.base k1 f1 fd1 ps1 pre) (hr1 : Room k1 X.A) (hb1 : Binds X.K fd1 ps1 [])
    (F : FnOk X.prog X.w X.K X.mg X.base CX k f fd ps sp) (hr : Room k X.A) (hb : Binds X.K fd ps []) (hx : Passes CX X E) :
    OpR X (binaryOp op) (fun x y H Q => ∃ a dx fs b dy gs, x = .ref a ∧ y = .ref b ∧ H a = some (.ins C dx fs) ∧ H b = some (.ins C2 dy gs) ∧ pre [x, y] H fun H1 => (∃ dx' fs', H1 a = some (.ins C dx' fs')) ∧ (∃ dy' gs', H1 b = some (.ins C2 dy' gs')) ∧ sp [y, x] H1 Q E) := by
  intro pins s σ H x y u v Q I rx ry h
  obtain ⟨a, dx, fs, b, dy, gs, rfl, rfl, ha, hb2, h⟩ := h
  obtain rfl : u = .ref a := rx
  obtain rfl : v = .ref b := ry
  obtain ⟨od, J⟩ := inst_at I ha
  obtain ⟨od2, J2⟩ := inst_at I hb2
  have KX := I.kIn
  obtain ⟨cd, rest, hcd, hm⟩ := PySem.W.ksp_first O.sf
  obtain ⟨cd2, rest2, hcd2, hm2⟩ := PySem.W.ksp_first O2.sf
  rcases hi : op.info with ⟨sym, nm'⟩
  have oat := O.at_
  have ora := O.rat
  have oat2 := O2.at_
  have ora2 := O2.rat
  rw [hi] at oat ora oat2 ora2
  dsimp only at oat ora oat2 ora2
  have hne' : (Value.ref C == Value.ref C2) = false := Bool.eq_false_iff.mpr fun q => by cases beq_iff_eq.mp q; exact hne rfl
  simp only [binaryOp, hi]
  refine wpAny_holding (wpAny_bind ?_)
  unfold binaryOp1
  refine wpAny_bind (J.type.here (wpAny_bind (J2.type.here (wpAny_bind ((PySem.W.fills_K KX hcd hm oat).here ?_)))))
  simp only [hne', Bool.false_eq_true, if_false]
  refine wpAny_bind ((PySem.W.fills_K KX hcd2 hm2 oat2).here ?_)
  simp only [Bool.and_self, if_true]
  refine wpAny_bind ((PySem.W.looks_subIn KX hsub).here ?_)
  simp only [Bool.false_eq_true, if_false, pure_bind, Bool.not_false, Bool.and_self, if_true]
  refine wpAny_bind ((PySem.W.ksp_inPy KX oat ora O.rp).here ?_)
  simp only [if_true]
  refine wpAny_bind ((PySem.W.ksp_inPy KX oat2 ora2 O2.rp).here ?_)
  simp only [Bool.not_true, Bool.false_eq_true, if_false, pure_bind]
  refine wpAny_bind ?_
  unfold tryMethod
  refine wpAny_bind (PySem.W.special_fn KX J oat (beq_iff_eq.mp O.fn) (wpAny_mono (run_ni N hr1 hb1 I (vals2 (x := .ref a) (y := .ref b) rfl rfl) h) (fun v s' hv => ?_) fun _ _ e => e))
  obtain ⟨rfl, H1, I1, ⟨dx1, fs1, ha1⟩, ⟨dy', gs', hb3⟩, h1⟩ := hv
  obtain ⟨od4, J4⟩ := inst_at I1 ha1
  refine wpAny_pure ?_
  obtain ⟨od3, J3⟩ := inst_at I1 hb3
  have KX1 := I1.kIn
  refine wpAny_bind (J4.type.here (wpAny_bind (J3.type.here ?_)))
  simp only [hne', Bool.false_eq_true, if_false]
  refine wpAny_bind ?_
  rw [hrc] at ora2
  refine wpAny_bind (PySem.W.special_fn KX1 J3 ora2 (beq_iff_eq.mp hf) (wpAny_mono (run_fn (ds := []) (dvs := []) F hr hb .nil hx I1 (vals2 (x := .ref b) (y := .ref a) rfl rfl) h1) (fun v s' hv => ?_) fun _ _ e => e))
  obtain ⟨z, H', I', r', q'⟩ := hv
  have hz := notNI r'
  cases v <;> first | exact absurd rfl hz | exact wpAny_pure (wpAny_bind (wpAny_rule (wpAny_pure (wpAny_pure ⟨z, H', I', r', q'⟩))))
end
end OW
end

section
set_option Elab.async false
set_option linter.all false
set_option maxRecDepth 100000
set_option maxHeartbeats 2000000
namespace OW
open PySem PySem.Spec PyProof.Rows L2
theorem no_bin {name : String} {f : Int → Int → Sem Fin} (M : Model) (A : Around) (E : Value → Shared → Prop) (i : Int) (t : Tok) (a C dx : Addr) (s : Shared) (Q : Fin → Shared → Prop) (h : s.heap.get? a = some (PySem.W.instObj C dx)) (q : Q (.done (.ret .notImplemented)) s) :
    wpAny M A (Builtin.Int.intBinary name f false ⟨[.int i t, .ref a], []⟩) Q E s := by
  show wpAny M A (asInt? (.ref a) >>= _) Q E s
  refine wpAny_bind ?_
  unfold asInt?
  refine wpAny_bind (wpAny_load h ?_)
  show wpAny M A (pure none) _ E s
  refine wpAny_pure ?_
  exact wpAny_bind (wpAny_rule (wpAny_pure q))
theorem int_add : IntOp .Add "int.__add__" Builtin.«int.__add__» := ⟨PySem.F.fills_int_add, PySem.F.slot_int_add, PySem.F.entry_int_add, PySem.F.args_int_add_2, fun M A E i t a C dx s Q h q => no_bin M A E i t a C dx s Q h q⟩
theorem int_sub : IntOp .Sub "int.__sub__" Builtin.«int.__sub__» := ⟨PySem.F.fills_int_sub, PySem.F.slot_int_sub, PySem.F.entry_int_sub, PySem.F.args_int_sub_2, fun M A E i t a C dx s Q h q => no_bin M A E i t a C dx s Q h q⟩
theorem int_mul : IntOp .Mult "int.__mul__" Builtin.«int.__mul__» := ⟨PySem.F.fills_int_mul, PySem.F.slot_int_mul, PySem.F.entry_int_mul, PySem.F.args_int_mul_2, fun M A E i t a C dx s Q h q => no_bin M A E i t a C dx s Q h q⟩
/-! ### comparisons -/
/-- the type of a value -/
inductive RTy (H : Hp) : V → Value → Prop where
  | int (i : Int) : RTy H (.int i) (.type "int")
  | bl (b : Bool) : RTy H (.bl b) (.type "bool")
  | non : RTy H .non (.type "NoneType")
  | str (x : Str) : RTy H (.str x) (.type "str")
  | ins {a C dx : Addr} {fs : List (Str × V)} (h : H a = some (.ins C dx fs)) : RTy H (.ref a) (.ref C)
  | lst {a : Addr} {xs : List V} (h : H a = some (.lst xs)) : RTy H (.ref a) (.type "list")
  | tup {a : Addr} {xs : List V} (h : H a = some (.tup xs)) : RTy H (.ref a) (.type "tuple")
section
variable {X : Cx} {CX : CXT} {k : Nat} {f C : Addr} {fd : FuncData} {ps : List Str} {sp : Sp} {E : XK}
theorem rty_looks {pins : List (Addr × Obj)} {σ : L2.St} {H : Hp} {s : Shared} {y : V} {v t : Value} (I : Inv X pins σ H s) (r : L2.RelV y v) (h : RTy H y t) : PySem.W.Looks (model X.prog X.w) s.heap (typeOf v) t := by
  cases h with
  | int i => obtain ⟨u, rfl⟩ := r; exact PySem.W.Looks.of_pure rfl
  | bl b => obtain rfl := (show v = .bool b from r); exact PySem.W.Looks.of_pure rfl
  | non => obtain rfl := (show v = .none from r); exact PySem.W.Looks.of_pure rfl
  | str x => obtain ⟨u, rfl⟩ := r; exact PySem.W.Looks.of_pure rfl
  | @ins a C dx fs h =>
    obtain rfl := (show v = .ref a from r)
    obtain ⟨od, J⟩ := inst_at I h
    exact J.type
  | @lst a xs h =>
    obtain rfl := (show v = .ref a from r)
    obtain ⟨_, its, n, _, h1⟩ := (show ObjOk X.prog X.w H s.heap a (.lst xs) from I.hok a _ h)
    exact (PySem.W.Looks.ld h1).andThen .now
  | @tup a xs h =>
    obtain rfl := (show v = .ref a from r)
    obtain ⟨_, its, _, o, h1, h2, _⟩ := (show ObjOk X.prog X.w H s.heap a (.tup xs) from I.hok a _ h)
    rw [← h2]
    exact (PySem.W.Looks.ld h1).andThen .now
/-- a op b, a an instance of C whose own method takes it -/
theorem op_cmp {op : CmpOp} (hop : ∀ a b, compareOp op a b = richCompare op a b) (hs : PySem.W.findIn X.K (.ref C) (cmpInfo op).2.1 = some (some (.ref f))) (hf : PySem.W.isFn X.K (.ref f) = true)
    (F : FnOk X.prog X.w X.K X.mg X.base CX k f fd ps sp) (hr : Room k X.A) (hb : Binds X.K fd ps []) (hx : Passes CX X E) :
    OpR X (compareOp op) (fun x y H Q => ∃ a dx fs tb, x = .ref a ∧ H a = some (.ins C dx fs) ∧ RTy H y tb ∧ PySem.W.notFirst X.K C tb = true ∧ sp [x, y] H Q E) := by
  intro pins s σ H x y u v Q I rx ry h
  obtain ⟨a, dx, fs, tb, rfl, ha, ht, hn, h⟩ := h
  obtain rfl : u = .ref a := rx
  obtain ⟨od, J⟩ := inst_at I ha
  obtain ⟨m, Fm⟩ := I.fr
  rw [hop]
  exact PySem.W.cmp_K (by have := hr.units0; omega) Fm I.mod.kin J (rty_looks I ry ht) hn hs hf (thn (run_fn (ds := []) (dvs := []) F hr hb .nil hx I (vals2 (x := .ref a) rfl ry) h) fun _ _ z => back_of z)
structure IntCmp (op : CmpOp) (idl : String) (b : Builtin) : Prop where
  slot : Slot "int" (cmpInfo op).2.1 idl
  entry : entryFor table idl = some b
  args : ∀ u v, argsOk idl ⟨[u, v], []⟩
  no : ∀ (M : Model) (A : Around) (E : Value → Shared → Prop) (i : Int) (t : Tok) (a C dx : Addr) (s : Shared) (Q : Fin → Shared → Prop), s.heap.get? a = some (PySem.W.instObj C dx) → Q (.done (.ret .notImplemented)) s → wpAny M A (b ⟨[.int i t, .ref a], []⟩) Q E s
theorem int_lt : IntCmp .Lt "int.__lt__" Builtin.«int.__lt__» := ⟨PySem.F.slot_int_lt, PySem.F.entry_int_lt, PySem.F.args_int_lt_2, fun M A E i t a C dx s Q h q => no_bin M A E i t a C dx s Q h q⟩
theorem int_le : IntCmp .LtE "int.__le__" Builtin.«int.__le__» := ⟨PySem.F.slot_int_le, PySem.F.entry_int_le, PySem.F.args_int_le_2, fun M A E i t a C dx s Q h q => no_bin M A E i t a C dx s Q h q⟩
theorem int_gt : IntCmp .Gt "int.__gt__" Builtin.«int.__gt__» := ⟨PySem.F.slot_int_gt, PySem.F.entry_int_gt, PySem.F.args_int_gt_2, fun M A E i t a C dx s Q h q => no_bin M A E i t a C dx s Q h q⟩
theorem int_ge : IntCmp .GtE "int.__ge__" Builtin.«int.__ge__» := ⟨PySem.F.slot_int_ge, PySem.F.entry_int_ge, PySem.F.args_int_ge_2, fun M A E i t a C dx s Q h q => no_bin M A E i t a C dx s Q h q⟩
theorem int_eq : IntCmp .Eq "int.__eq__" Builtin.«int.__eq__» := ⟨PySem.F.slot_int_eq, PySem.F.entry_int_eq, PySem.F.args_int_eq_2, fun M A E i t a C dx s Q h q => no_bin M A E i t a C dx s Q h q⟩
theorem int_ne : IntCmp .NotEq "int.__ne__" Builtin.«int.__ne__» := ⟨PySem.F.slot_int_ne, PySem.F.entry_int_ne, PySem.F.args_int_ne_2, fun M A E i t a C dx s Q h q => no_bin M A E i t a C dx s Q h q⟩
/-- n op b, n an int, b an instance -/
theorem op_rcmp {op : CmpOp} {idl : String} {bi : Builtin} (IC : IntCmp op idl bi) (hop : ∀ a b, compareOp op a b = richCompare op a b) (hone : ∀ i t a, oneThing? op (.int i t) (.ref a) = none) (hs : PySem.W.findIn X.K (.ref C) (cmpInfo op).2.2 = some (some (.ref f))) (hf : PySem.W.isFn X.K (.ref f) = true) (hsub : PySem.W.subIn X.K (.ref C) (.type "int") = some false)
    (F : FnOk X.prog X.w X.K X.mg X.base CX k f fd ps sp) (hr : Room k X.A) (hb : Binds X.K fd ps []) (hx : Passes CX X E) :
    OpR X (compareOp op) (fun x y H Q => ∃ i b dx fs, x = .int i ∧ y = .ref b ∧ H b = some (.ins C dx fs) ∧ sp [y, x] H Q E) := by
  intro pins s σ H x y u v Q I rx ry h
  obtain ⟨i, b, dx, fs, rfl, rfl, ha, h⟩ := h
  obtain rfl : v = .ref b := ry
  obtain ⟨t, rfl⟩ := rx
  obtain ⟨od, J⟩ := inst_at I ha
  have KX := I.kIn
  rw [hop]
  have hne : (Value.type "int" != Value.ref C) = true := by
    rw [bne_iff_ne]; exact fun q => by cases q
  unfold richCompare
  simp only [hone]
  refine wpAny_holding (wpAny_bind (wpAny_cRoomFor (by have := hr.units0; omega) ?_))
  refine wpAny_bind (wpAny_typeOf (typeIs_int s i t) (wpAny_bind (J.type.here ?_)))
  rw [if_pos hne]
  refine wpAny_bind ((PySem.W.looks_subIn KX hsub).here ?_)
  simp only [Bool.false_eq_true, if_false]
  refine wpAny_bind (wpAny_tryCompare_declines (typeIs_int s i t) IC.slot ?_)
  refine wpAny_call_entry IC.slot (typeIs_int s i t) IC.entry (IC.no _ _ _ i t b C dx s _ J.at_ ⟨_, rfl, rfl, ?_⟩) (IC.args _ _)
  simp only [Bool.not_false, if_true]
  refine wpAny_bind ?_
  unfold tryCompare
  refine wpAny_bind (PySem.W.ifBound_K KX J hs hf (wpAny_mono (run_fn (ds := []) (dvs := []) F hr hb .nil hx I (vals2 (x := .ref b) (y := .int i) rfl ⟨t, rfl⟩) h) (fun v s' hv => ?_) fun _ _ e => e))
  obtain ⟨z, H', I', r', q'⟩ := hv
  have hz := notNI r'
  cases v <;> first | exact absurd rfl hz | exact wpAny_pure (wpAny_pure ⟨z, H', I', r', q'⟩)
/-- a op b, instances of two classes; the left one declines -/
theorem op_rcmp2 {op : CmpOp} {C2 f1 : Addr} {k1 : Nat} {fd1 : FuncData} {ps1 : List Str} {pre : List V → Hp → (Hp → Prop) → Prop} (hop : ∀ a b, compareOp op a b = richCompare op a b) (hs1 : PySem.W.findIn X.K (.ref C) (cmpInfo op).2.1 = some (some (.ref f1))) (hf1 : PySem.W.isFn X.K (.ref f1) = true)
    (hs : PySem.W.findIn X.K (.ref C2) (cmpInfo op).2.2 = some (some (.ref f))) (hf : PySem.W.isFn X.K (.ref f) = true) (hne : C ≠ C2) (hsub : PySem.W.subIn X.K (.ref C2) (.ref C) = some false)
    (N : FnNI X.prog X.w X.K X.mg X.base k1 f1 fd1 ps1 pre) (hr1 : Room k1 X.A) (hb1 : Binds X.K fd1 ps1 []) (F : FnOk X.prog X.w X.K X.mg X.base CX k f fd ps sp) (hr : Room k X.A) (hb : Binds X.K fd ps []) (hx : Passes CX X E) :
    OpR X (compareOp op) (fun x y H Q => ∃ a dx fs b dy gs, x = .ref a ∧ y = .ref b ∧ H a = some (.ins C dx fs) ∧ H b = some (.ins C2 dy gs) ∧ pre [x, y] H fun H1 => (∃ dy' gs', H1 b = some (.ins C2 dy' gs')) ∧ sp [y, x] H1 Q E) := by
  intro pins s σ H x y u v Q I rx ry h
  obtain ⟨a, dx, fs, b, dy, gs, rfl, rfl, ha, hb2, h⟩ := h
  obtain rfl : u = .ref a := rx
  obtain rfl : v = .ref b := ry
  obtain ⟨od, J⟩ := inst_at I ha
  obtain ⟨od2, J2⟩ := inst_at I hb2
  have KX := I.kIn
  rw [hop]
  have hne' : (Value.ref C != Value.ref C2) = true := by
    rw [bne_iff_ne]; exact fun q => by cases q; exact hne rfl
  unfold richCompare
  simp only [oneThing_ref]
  refine wpAny_holding (wpAny_bind (wpAny_cRoomFor (by have := hr.units0; omega) ?_))
  refine wpAny_bind (J.type.here (wpAny_bind (J2.type.here ?_)))
  rw [if_pos hne']
  refine wpAny_bind ((PySem.W.looks_subIn KX hsub).here ?_)
  simp only [Bool.false_eq_true, if_false]
  refine wpAny_bind ?_
  unfold tryCompare
  refine wpAny_bind (PySem.W.ifBound_K KX J hs1 hf1 (wpAny_mono (run_ni N hr1 hb1 I (vals2 (x := .ref a) (y := .ref b) rfl rfl) h) (fun v s' hv => ?_) fun _ _ e => e))
  obtain ⟨rfl, H1, I1, ⟨dy', gs', hb3⟩, h1⟩ := hv
  refine wpAny_pure ?_
  obtain ⟨od3, J3⟩ := inst_at I1 hb3
  simp only [Bool.not_false, if_true]
  refine wpAny_bind ?_
  refine wpAny_bind (PySem.W.ifBound_K I1.kIn J3 hs hf (wpAny_mono (run_fn (ds := []) (dvs := []) F hr hb .nil hx I1 (vals2 (x := .ref b) (y := .ref a) rfl rfl) h1) (fun v s' hv => ?_) fun _ _ e => e))
  obtain ⟨z, H', I', r', q'⟩ := hv
  have hz := notNI r'
  cases v <;> first | exact absurd rfl hz | exact wpAny_pure (wpAny_pure ⟨z, H', I', r', q'⟩)
end
end OW
end

section
set_option Elab.async false
set_option linter.all false
set_option maxRecDepth 100000
set_option maxHeartbeats 2000000
namespace FX
open PySem PySem.Spec PyProof.Rows L2
/-! ### static methods: C.m(..) -/
structure StM (K : PySem.W.Frag) (C : Addr) (m : Str) (p g : Addr) : Prop where
  rd : PySem.W.readsIn K C (.type "type") = true
  ga : PySem.W.specialIn K (.ref C) "__getattribute__" = some (some (.builtin "type.__getattribute__"))
  at_ : PySem.W.findCls K (.ref C) (.type "type") m = some (.get (.builtin "staticmethod.__get__") (.ref p) .none (.ref C))
  rc : ∃ rest, PySem.W.recIn K p "staticmethod" = some (.ref g :: rest)
  kp : PySem.W.keepIn K (.ref g) = true
def tStat (C : Addr) (sp : Sp) (dvs : List V) (E : XK) (ta : TE) (t : TA) : TE := fun σ H Q => ta σ H fun x H1 => x = .ref C ∧ t σ H1 fun vs H2 => sp (vs ++ dvs) H2 Q E
section
variable {X : Cx} {CX : CXT} {k : Nat} {C p g : Addr} {fd : FuncData} {ps : List Str} {sp : Sp} {E : XK} {o e : Expr} {es : List Expr} {m : Str} {pos apos : Pos} {ta : TE} {t : TA} {pl : Sem Bool} {dvs : List V} {ds : List Value}
theorem pe_stat (he : PE X o ta) (c : StM X.K C m p g) (F : FnOk X.prog X.w X.K X.mg X.base CX k g fd ps sp) (hr : Room k X.A) (hb : Binds X.K fd ps ds) (hd : Vals dvs ds) (hx : Passes CX X E) (ha : PA X (e :: es) t)
    (hst : starEach (e :: es) X.env = (false, eval e X.env) :: starEach es X.env := by rfl) (hpl : (backTo pos (starEach es X.env)).any (·.1) = false := by rfl)
    (ht : eval (.Call (.Attribute o m apos) (e :: es) [] pos) X.env = (do
      let ov ← eval o X.env
      standAt apos.atName
      let (f, first) ← holding [ov] (getMethod ov m pl)
      callWith pos f first (backTo pos (starEach (e :: es) X.env)) (backToKw pos (keywordEach [] X.env))) := by rfl) :
    PE X (.Call (.Attribute o m apos) (e :: es) [] pos) (tStat C sp dvs E ta t) := by
  refine ⟨fun pins s σ H Q I h => ?_⟩
  refine PySem.W.methodCall_KW (pl := pl) (thn (he.run pins s σ H _ I h) fun u s1 ⟨x, H1, I1, rx, ex, q⟩ => ?_) ht
  subst ex
  obtain rfl : u = Value.ref C := rx
  obtain ⟨rest, hp⟩ := c.rc
  refine PySem.W.method_cls I1.kIn c.ga (PySem.W.cls_bind I1.kIn c.rd c.at_ ?_)
  refine wpAny_call (PySem.W.sm_get (s := { s1 with toks := s1.toks + 1 }) I1.kIn hp (PySem.W.handed_on rfl ?_))
  have I2 := I1.tok (s1.toks + 1)
  refine PySem.W.callWith_K (first := []) (h₀ := X.base) I.ok.mod.kin c.kp (thn (ha.run pos pins _ σ H1 _ I2 q) fun us s2 ⟨vs, H2, I3, r, q2⟩ => ⟨I3.kIn, ?_⟩) hst hpl
  exact run_fn (us := us) (vs := vs) F hr hb hd hx I3 r q2
end
/-! ### further facts of the head -/
def sPt (K : PySem.W.Frag) (x m : Str) : Addr := match PySem.W.findIn K (.ref (He.ga K x)) m with
  | some (some (.ref p)) => p
  | _ => 0
def sAd (K : PySem.W.Frag) (x m : Str) : Addr := match PySem.W.recIn K (sPt K x m) "staticmethod" with
  | some (.ref g :: _) => g
  | _ => 0
inductive Fx where
  | sf (x : Str)
  | cl (x : Str)
  | kitT (T : String) (y : Str) (b : Bool)
  | kit (x y : Str) (b : Bool)
  | kitB (x : Str) (T : String) (b : Bool)
  | sub (x y : Str) (b : Bool)
  | subT (x : Str) (T : String) (b : Bool)
  | rno (x : Str) (m : Str)
  | ne (x y : Str)
  | stat (x m : Str)
  | fnd (x m : Str) (b : String)
  | mro2 (x : Str)
def gtB (e : Option PySem.W.CFound) (p C : Addr) : Bool := match e with
  | some (.get (.builtin i) (.ref a) .none (.ref c)) => decide (i = "staticmethod.__get__") && (decide (a = p) && decide (c = C))
  | _ => false
theorem gtB_ok {e : Option PySem.W.CFound} {p C : Addr} (h : gtB e p C = true) : e = some (.get (.builtin "staticmethod.__get__") (.ref p) .none (.ref C)) := by
  unfold gtB at h
  split at h
  · obtain ⟨h1, h2⟩ := He.ba h
    obtain ⟨h3, h4⟩ := He.ba h2
    rw [of_decide_eq_true h1, of_decide_eq_true h3, of_decide_eq_true h4]
  · cases h
def Fx.ok (K : PySem.W.Frag) : Fx → Bool
  | .sf x => PySem.W.selfFirst K (He.ga K x)
  | .cl x => He.eqO (PySem.W.findIn K (.ref (He.ga K x)) "__class__") (some (some (.builtin "object.__class__"))) && decide (PySem.W.mroIn K (He.ga K x) (.type "object") = some true)
  | .kitT T y b => decide (PySem.W.kitOne K (.type T) (.ref (He.ga K y)) = some b)
  | .kit x y b => decide (PySem.W.kitOne K (.ref (He.ga K x)) (.ref (He.ga K y)) = some b)
  | .kitB x T b => decide (PySem.W.kitOne K (.ref (He.ga K x)) (.type T) = some b)
  | .sub x y b => decide (PySem.W.subIn K (.ref (He.ga K x)) (.ref (He.ga K y)) = some b)
  | .subT x T b => decide (PySem.W.subIn K (.ref (He.ga K x)) (.type T) = some b)
  | .rno x m => He.eqO (PySem.W.findIn K (.ref (He.ga K x)) m) (some none)
  | .ne x y => decide (He.ga K x ≠ He.ga K y)
  | .mro2 x => (match PySem.W.clsIn K (He.ga K x) with | some cd => cd.mro == [.ref (He.ga K x), .type "object"] | none => false)
  | .fnd x m b => He.eqO (PySem.W.findIn K (.ref (He.ga K x)) m) (some (some (.builtin b)))
  | .stat x m => PySem.W.readsIn K (He.ga K x) (.type "type") && (He.eqO (PySem.W.specialIn K (.ref (He.ga K x)) "__getattribute__") (some (some (.builtin "type.__getattribute__"))) &&
      (gtB (PySem.W.findCls K (.ref (He.ga K x)) (.type "type") m) (sPt K x m) (He.ga K x) && ((match PySem.W.recIn K (sPt K x m) "staticmethod" with
        | some (.ref _ :: _) => true
        | _ => false) && PySem.W.keepIn K (.ref (sAd K x m)))))
section
variable {K : PySem.W.Frag} {x y m : Str} {T : String} {b : Bool}
theorem sf_ok (c : (Fx.sf x).ok K = true) : PySem.W.selfFirst K (He.ga K x) = true := c
theorem kitT_ok (c : (Fx.kitT T y b).ok K = true) : PySem.W.kitOne K (.type T) (.ref (He.ga K y)) = some b := of_decide_eq_true c
theorem kit_ok (c : (Fx.kit x y b).ok K = true) : PySem.W.kitOne K (.ref (He.ga K x)) (.ref (He.ga K y)) = some b := of_decide_eq_true c
theorem kitB_ok (c : (Fx.kitB x T b).ok K = true) : PySem.W.kitOne K (.ref (He.ga K x)) (.type T) = some b := of_decide_eq_true c
theorem sub_ok (c : (Fx.sub x y b).ok K = true) : PySem.W.subIn K (.ref (He.ga K x)) (.ref (He.ga K y)) = some b := of_decide_eq_true c
theorem subT_ok (c : (Fx.subT x T b).ok K = true) : PySem.W.subIn K (.ref (He.ga K x)) (.type T) = some b := of_decide_eq_true c
theorem rno_ok (c : (Fx.rno x m).ok K = true) : PySem.W.findIn K (.ref (He.ga K x)) m = some none := He.eqO_ok c
theorem fnd_ok {b : String} (c : (Fx.fnd x m b).ok K = true) : PySem.W.findIn K (.ref (He.ga K x)) m = some (some (.builtin b)) := He.eqO_ok c
theorem mro2_ok (c : (Fx.mro2 x).ok K = true) : ∃ cd, PySem.W.clsIn K (He.ga K x) = some cd ∧ cd.mro = [.ref (He.ga K x), .type "object"] := by
  have c' : (match PySem.W.clsIn K (He.ga K x) with | some cd => cd.mro == [.ref (He.ga K x), .type "object"] | none => false) = true := c
  cases e : PySem.W.clsIn K (He.ga K x) with
  | none => rw [e] at c'; cases c'
  | some cd => rw [e] at c'; exact ⟨cd, rfl, beq_iff_eq.mp c'⟩
theorem ne_ok (c : (Fx.ne x y).ok K = true) : He.ga K x ≠ He.ga K y := of_decide_eq_true c
theorem cl_ok (c : (Fx.cl x).ok K = true) : PySem.W.findIn K (.ref (He.ga K x)) "__class__" = some (some (.builtin "object.__class__")) ∧ PySem.W.mroIn K (He.ga K x) (.type "object") = some true := ⟨He.eqO_ok (He.ba c).1, of_decide_eq_true (He.ba c).2⟩
theorem stat_ok (c : (Fx.stat x m).ok K = true) : StM K (He.ga K x) m (sPt K x m) (sAd K x m) := by
  obtain ⟨h1, c⟩ := He.ba c
  obtain ⟨h2, c⟩ := He.ba c
  obtain ⟨h3, c⟩ := He.ba c
  obtain ⟨h4, h5⟩ := He.ba c
  refine ⟨h1, He.eqO_ok h2, gtB_ok h3, ?_, h5⟩
  unfold sAd
  split at h4
  · rename_i g r e
    rw [e]
    exact ⟨r, rfl⟩
  · cases h4
end
/-- a static method's def -/
structure StD where
  cls : Str
  m : Str
  qual : Str
  params : Arguments
  body : List Stmt
  scope : Scope
def fnS (K : PySem.W.Frag) (d : StD) : He.FnW := match K.lookup (sAd K d.cls d.m) with
  | some ⟨_, _, .func fd, _⟩ => some (fd.name, fd.qualname, fd.params, fd.body, fd.scope, fd.globals, fd.closure, fd.builtins)
  | _ => none
def StD.val (d : StD) : He.FnW := some (d.m, d.qual, d.params, .stmts d.body, d.scope, mainGlobals, [], builtinsNs)
def StD.ok (K : PySem.W.Frag) (d : StD) : Bool := PySem.W.keepIn K (.ref (sAd K d.cls d.m)) && (match K.lookup (sAd K d.cls d.m) with
  | some ⟨_, _, .func fd, _⟩ => PySem.W.codeIn K fd.code d.qual && He.dflB K fd.defaults []
  | _ => false)
theorem StD.funD {K : PySem.W.Frag} {d : StD} (e : fnS K d = d.val) (c : d.ok K = true) : ∃ fd, FunD K d.m d.qual d.params d.body d.scope [] [] (sAd K d.cls d.m) fd := by
  obtain ⟨kp, c2⟩ := He.ba c
  unfold fnS at e
  cases q : K.lookup (sAd K d.cls d.m) with
  | none =>
    rw [q] at c2
    cases c2
  | some o =>
    obtain ⟨oc, od, dt, osl⟩ := o
    rw [q] at c2 e
    cases dt with
    | func fd =>
      obtain ⟨n1, n2, n3, n4, n5, n6, n7, n8, n9, n10, n11, n12, n13, n14, n15⟩ := fd
      have e2 : (some (n1, n2, n3, n4, n5, n6, n7, n15) : He.FnW) = some (d.m, d.qual, d.params, .stmts d.body, d.scope, mainGlobals, [], builtinsNs) := e
      simp only [Option.some.injEq, Prod.mk.injEq] at e2
      obtain ⟨h1, h2, h3, h4, h5, h6, h7, h8⟩ := e2
      subst h1 h2 h3 h4 h5 h6 h7 h8
      have c3 : (PySem.W.codeIn K n13 d.qual && He.dflB K n8 []) = true := c2
      obtain ⟨k1, k2⟩ := He.ba c3
      exact ⟨_, ⟨oc, od, n8, n9, n10, n11, n12, n13, n14, osl, rfl, q, k1, He.dflB_ok k2, .inl rfl⟩, kp⟩
    | _ => cases c2
/-! ### the Hook -/
abbrev AlE : Type := He.AlD × Bool × List He.FnW
def obsE (fa : List He.Fa) (fn : List He.DefD) (fx : List Fx) (st : List StD) (K : PySem.W.Frag) : AlE := (He.obsD fa fn K, (fx.all fun f => f.ok K) && st.all fun d => d.ok K, st.map (fnS K))
def valE (fn : List He.DefD) (st : List StD) : AlE := (He.valD fn, true, st.map StD.val)
structure SaysE (fa : List He.Fa) (fn : List He.DefD) (fx : List Fx) (st : List StD) (K : PySem.W.Frag) : Prop where
  d : He.SaysD fa fn K
  x : ∀ f ∈ fx, f.ok K = true
  s : ∀ q ∈ st, ∃ fd, FunD K q.m q.qual q.params q.body q.scope [] [] (sAd K q.cls q.m) fd
theorem map_mem {α β : Type} {f g : α → β} : ∀ {l : List α}, l.map f = l.map g → ∀ a ∈ l, f a = g a
  | [], _, a, h => by cases h
  | b :: l, e, a, h => by
    simp only [List.map_cons, List.cons.injEq] at e
    rcases List.mem_cons.mp h with z | z
    · rw [z]; exact e.1
    · exact map_mem e.2 a z
theorem saysE_of {fa : List He.Fa} {fn : List He.DefD} {fx : List Fx} {st : List StD} {K : PySem.W.Frag} (e : obsE fa fn fx st K = valE fn st) : SaysE fa fn fx st K := by
  have e1 : He.obsD fa fn K = He.valD fn := congrArg (fun z : AlE => z.1) e
  have e2 : ((fx.all fun f => f.ok K) && st.all fun d => d.ok K) = true := congrArg (fun z : AlE => z.2.1) e
  have e3 : st.map (fnS K) = st.map StD.val := congrArg (fun z : AlE => z.2.2) e
  obtain ⟨h1, h2⟩ := He.ba e2
  exact ⟨e1, fun f hf => List.all_eq_true.mp h1 f hf, fun q hq => StD.funD (map_mem e3 q hq) (List.all_eq_true.mp h2 q hq)⟩
def obsEG (n : Nat) (fa : List He.Fa) (fn : List He.DefD) (fx : List Fx) (st : List StD) (g : Addr → Option Obj) : AlE := obsE fa fn fx st (He.frG g (cStatics :: He.asD g n))
def hookE (n : Nat) (fa : List He.Fa) (fn : List He.DefD) (fx : List Fx) (st : List StD) : PySem.W.Hook where
  α := AlE
  obs := fun s => obsEG n fa fn fx st s.heap.get?
  val := fun _ => valE fn st
  says := fun _ h => ∃ K : PySem.W.Frag, K.In h ∧ SaysE fa fn fx st K
  of := fun _ _ e => ⟨_, He.frG_in, saysE_of e⟩
  keeps := fun _ _ _ ⟨K, hK, c⟩ k => ⟨K, PySem.W.Frag.In.keeps hK k, c⟩
theorem obsEG_eq {n : Nat} {fa : List He.Fa} {fn : List He.DefD} {fx : List Fx} {st : List StD} {g : Addr → Option Obj} {s : Shared} (h : ∀ a, g a = s.heap.get? a) : obsEG n fa fn fx st g = (hookE n fa fn fx st).obs s := by
  have e : g = s.heap.get? := funext h
  rw [e] <;> rfl
section
variable {fa : List He.Fa} {fn : List He.DefD} {fx : List Fx} {st : List StD} {K : PySem.W.Frag}
theorem SaysE.fact (c : SaysE fa fn fx st K) {f : He.Fa} (h : f ∈ fa) : f.ok K = true := by
  have c1 := (He.ba (show ((fa.all fun f => f.ok K) && fn.all fun d => d.ok K) = true from congrArg (fun z : He.AlD => z.1) c.d)).1
  exact List.all_eq_true.mp c1 f h
theorem SaysE.defn (c : SaysE fa fn fx st K) {d : He.DefD} (h : d ∈ fn) : ∃ fd, FunD K d.name d.qual d.params d.body d.scope (d.dvs K) (d.kws K) (He.fAd K d.at_) fd := by
  have c2 := (He.ba (show ((fa.all fun f => f.ok K) && fn.all fun d => d.ok K) = true from congrArg (fun z : He.AlD => z.1) c.d)).2
  have e : fn.map (fun d => He.fnW K d.at_) = fn.map He.DefD.val := congrArg (fun z : He.AlD => z.2) c.d
  exact He.DefD.funD (map_mem e d h) (List.all_eq_true.mp c2 d h)
end
end FX
end

section
set_option Elab.async false
set_option linter.all false
set_option maxRecDepth 100000
set_option maxHeartbeats 2000000
namespace DL
open PySem PySem.Spec PyProof.Rows L2
section
variable {K : PySem.W.Frag} {r : En} {m : Mu} {k : D → Mu → Prop} {S : SpD} {C C2 : Addr} {E : XK}
theorem IsL.two {F : Hp} {x y : D} {vx vy : V} (hx : Is K F x vx) (hy : Is K F y vy) : IsL K F [x, y] [vx, vy] := ⟨vx, [vy], rfl, hx, vy, [], rfl, hy, rfl⟩
theorem sp_at {x y : D} {vx vy : V} {F H : Hp} {Q : VK} (w : Wd K F H m) (hx : Is K F x vx) (hy : Is K F y vy) (p : PoE K m F H k Q) (q : S [x, y] m k) : spOf K S [vx, vy] H Q E := ⟨[x, y], F, m, k, w, .two hx hy, q, p⟩
theorem nilD {K : PySem.W.Frag} : ∀ F, IsL K F [] [] := fun _ => rfl
/-! ### ints -/
theorem ri {Cc : Int → Int → Prop} {g : Int → Int → Int} {i j : Int} (hc : Cc i j) (q : k (.int (g i j)) m) : wR K (rI Cc fun i j => .int (g i j)) (.int i) (.int j) m k := r_I (d := .int (g i j)) hc (fun _ => rfl) q
theorem ri0 {g : Int → Int → Int} {i j : Int} (q : k (.int (g i j)) m) : wR K (rI0 fun i j => .int (g i j)) (.int i) (.int j) m k := r_I0 (d := .int (g i j)) (fun _ => rfl) q
theorem rb0 {g : Int → Int → Bool} {i j : Int} (q : k (.bl (g i j)) m) : wR K (rI0 fun i j => .bl (g i j)) (.int i) (.int j) m k := r_I0 (d := .bl (g i j)) (fun _ => rfl) q
theorem ui {g : Int → Int} {i : Int} (q : k (.int (g i)) m) : wU K (rU fun i => .int (g i)) (.int i) m k := u_U (d := .int (g i)) (fun _ => rfl) q
theorem req {i j : Int} (q : k (.bl (decide (i = j))) m) : wR K rEq (.int i) (.int j) m k := r_eq (u := .int i) (v := .int j) rfl rfl rfl (by
  have e : decide (V.int i = V.int j) = decide (i = j) := decide_eq_decide.mpr ⟨fun z => V.int.inj z, fun z => by rw [z]⟩
  rw [e]; exact q)
theorem rne {i j : Int} (q : k (.bl (!decide (i = j))) m) : wR K rNe (.int i) (.int j) m k := r_ne (u := .int i) (v := .int j) rfl rfl rfl (by
  have e : decide (V.int i = V.int j) = decide (i = j) := decide_eq_decide.mpr ⟨fun z => V.int.inj z, fun z => by rw [z]⟩
  rw [e]; exact q)
theorem reqb {i j : Bool} (q : k (.bl (decide (i = j))) m) : wR K rEq (.bl i) (.bl j) m k := r_eq (u := .bl i) (v := .bl j) rfl rfl rfl (by
  have e : decide (V.bl i = V.bl j) = decide (i = j) := decide_eq_decide.mpr ⟨fun z => V.bl.inj z, fun z => by rw [z]⟩
  rw [e]; exact q)
/-! ### operators of own classes -/
theorem u_own {x : D} {fs : List (Str × D)} (hi : InD m x C fs) (q : S [x] m k) : wU K (fun x H Q => ∃ a dx fs, x = .ref a ∧ H a = some (.ins C dx fs) ∧ spOf K S [x] H Q E) x m k := fun vx F H Q w ix p => by
  obtain ⟨a, dx, gs, rfl, h1, _⟩ := hi.at_ w ix
  exact ⟨a, dx, gs, rfl, h1, [x], F, m, k, w, .one ix, q, p⟩
theorem r_same {x y : D} {fs gs : List (Str × D)} (hx : InD m x C fs) (hy : InD m y C gs) (q : S [x, y] m k) :
    wR K (fun x y H Q => ∃ a dx fs b dy gs, x = .ref a ∧ y = .ref b ∧ H a = some (.ins C dx fs) ∧ H b = some (.ins C dy gs) ∧ spOf K S [x, y] H Q E) x y m k := fun vx vy F H Q w ix iy p => by
  obtain ⟨a, dx, ga, rfl, h1, _⟩ := hx.at_ w ix
  obtain ⟨b, dy, gb, rfl, h2, _⟩ := hy.at_ w iy
  exact ⟨a, dx, ga, b, dy, gb, rfl, rfl, h1, h2, sp_at w ix iy p q⟩
theorem r_two {x y : D} {fs gs : List (Str × D)} (hx : InD m x C fs) (hy : InD m y C2 gs) (q : S [x, y] m k) :
    wR K (fun x y H Q => ∃ a dx fs b dy gs, x = .ref a ∧ y = .ref b ∧ H a = some (.ins C dx fs) ∧ H b = some (.ins C2 dy gs) ∧ spOf K S [x, y] H Q E) x y m k := fun vx vy F H Q w ix iy p => by
  obtain ⟨a, dx, ga, rfl, h1, _⟩ := hx.at_ w ix
  obtain ⟨b, dy, gb, rfl, h2, _⟩ := hy.at_ w iy
  exact ⟨a, dx, ga, b, dy, gb, rfl, rfl, h1, h2, sp_at w ix iy p q⟩
theorem r_oint {x : D} {i : Int} {fs : List (Str × D)} (hx : InD m x C fs) (q : S [x, .int i] m k) :
    wR K (fun x y H Q => ∃ a dx fs i, x = .ref a ∧ y = .int i ∧ H a = some (.ins C dx fs) ∧ spOf K S [x, y] H Q E) x (.int i) m k := fun vx vy F H Q w ix iy p => by
  obtain ⟨a, dx, ga, rfl, h1, _⟩ := hx.at_ w ix
  obtain rfl : vy = .int i := iy
  exact ⟨a, dx, ga, i, rfl, rfl, h1, sp_at w ix (show Is K F (.int i) (.int i) from rfl) p q⟩
theorem r_rint {y : D} {i : Int} {fs : List (Str × D)} (hy : InD m y C fs) (q : S [y, .int i] m k) :
    wR K (fun x y H Q => ∃ i b dx fs, x = .int i ∧ y = .ref b ∧ H b = some (.ins C dx fs) ∧ spOf K S [y, x] H Q E) (.int i) y m k := fun vx vy F H Q w ix iy p => by
  obtain ⟨a, dx, ga, rfl, h1, _⟩ := hy.at_ w iy
  obtain rfl : vx = .int i := ix
  exact ⟨i, a, dx, ga, rfl, rfl, h1, sp_at w iy (show Is K F (.int i) (.int i) from rfl) p q⟩
/-- NotImplemented by data: where S holds -/
def preOf (K : PySem.W.Frag) (Sx : List D → Prop) : List V → Hp → (Hp → Prop) → Prop := fun vs H Q => ∃ ds F m, Wd K F H m ∧ IsL K F ds vs ∧ Sx ds ∧ ∀ F' H', Wd K F' H' m → Stp m F H m F' H' → Q H'
theorem r_rtwo {Sx : List D → Prop} {x y : D} {fs gs : List (Str × D)} (hx : x = .ins C fs) (hy : y = .ins C2 gs) (hn : Sx [x, y]) (q : S [y, x] m k) :
    wR K (fun x y H Q => ∃ a dx fs b dy gs, x = .ref a ∧ y = .ref b ∧ H a = some (.ins C dx fs) ∧ H b = some (.ins C2 dy gs) ∧ preOf K Sx [x, y] H fun H1 => (∃ dx' fs', H1 a = some (.ins C dx' fs')) ∧ (∃ dy' gs', H1 b = some (.ins C2 dy' gs')) ∧ spOf K S [y, x] H1 Q E) x y m k := fun vx vy F H Q w ix iy p => by
  obtain ⟨a, dx, ga, rfl, h1, h1'⟩ := (show InD m x C fs from .inl hx).at_ w ix
  obtain ⟨b, dy, gb, rfl, h2, h2'⟩ := (show InD m y C2 gs from .inl hy).at_ w iy
  refine ⟨a, dx, ga, b, dy, gb, rfl, rfl, h1, h2, [x, y], F, m, w, .two ix iy, hn, fun F' H' w' s' => ?_⟩
  have ix' := Is.mono s'.same _ _ ix
  have iy' := Is.mono s'.same _ _ iy
  obtain ⟨a2, dx2, ga2, e2, h3, _⟩ := (show InD m x C fs from .inl hx).at_ w' ix'
  obtain ⟨b2, dy2, gb2, e3, h4, _⟩ := (show InD m y C2 gs from .inl hy).at_ w' iy'
  cases e2; cases e3
  exact ⟨⟨dx2, ga2, h3⟩, ⟨dy2, gb2, h4⟩, sp_at w' iy' ix' (p.step s') q⟩
theorem r_rcmp2 {Sx : List D → Prop} {x y : D} {fs gs : List (Str × D)} (hx : x = .ins C fs) (hy : y = .ins C2 gs) (hn : Sx [x, y]) (q : S [y, x] m k) :
    wR K (fun x y H Q => ∃ a dx fs b dy gs, x = .ref a ∧ y = .ref b ∧ H a = some (.ins C dx fs) ∧ H b = some (.ins C2 dy gs) ∧ preOf K Sx [x, y] H fun H1 => (∃ dy' gs', H1 b = some (.ins C2 dy' gs')) ∧ spOf K S [y, x] H1 Q E) x y m k := fun vx vy F H Q w ix iy p => by
  obtain ⟨a, dx, ga, rfl, h1, h1'⟩ := (show InD m x C fs from .inl hx).at_ w ix
  obtain ⟨b, dy, gb, rfl, h2, h2'⟩ := (show InD m y C2 gs from .inl hy).at_ w iy
  refine ⟨a, dx, ga, b, dy, gb, rfl, rfl, h1, h2, [x, y], F, m, w, .two ix iy, hn, fun F' H' w' s' => ?_⟩
  have ix' := Is.mono s'.same _ _ ix
  have iy' := Is.mono s'.same _ _ iy
  obtain ⟨b2, dy2, gb2, e3, h4, _⟩ := (show InD m y C2 gs from .inl hy).at_ w' iy'
  cases e3
  exact ⟨⟨dy2, gb2, h4⟩, sp_at w' iy' ix' (p.step s') q⟩
/-- what is of a type, by data (immutable data; lists and tuples that were made) -/
inductive TD : D → Value → Prop where
  | int (i : Int) : TD (.int i) (.type "int")
  | bl (b : Bool) : TD (.bl b) (.type "bool")
  | non : TD .non (.type "NoneType")
  | str (x : Str) : TD (.str x) (.type "str")
  | ins (C : Addr) (fs : List (Str × D)) : TD (.ins C fs) (.ref C)
theorem td_rty {F H : Hp} {d : D} {v : V} {t : Value} (h : TD d t) (w : Wd K F H m) (i : Is K F d v) : OW.RTy H v t := by
  cases h with
  | int j => obtain rfl : v = .int j := i; exact .int j
  | bl b => obtain rfl : v = .bl b := i; exact .bl b
  | non => obtain rfl : v = .non := i; exact .non
  | str x => obtain rfl : v = .str x := i; exact .str x
  | ins C fs =>
    obtain ⟨a, dx, gs, rfl, h1, _⟩ := i
    exact .ins (w.same _ _ h1)
theorem r_cmp {x y : D} {tb : Value} {fs : List (Str × D)} (hx : InD m x C fs) (hy : TD y tb) (hn : PySem.W.notFirst K C tb = true) (q : S [x, y] m k) :
    wR K (fun x y H Q => ∃ a dx fs tb, x = .ref a ∧ H a = some (.ins C dx fs) ∧ OW.RTy H y tb ∧ PySem.W.notFirst K C tb = true ∧ spOf K S [x, y] H Q E) x y m k := fun vx vy F H Q w ix iy p => by
  obtain ⟨a, dx, ga, rfl, h1, _⟩ := hx.at_ w ix
  exact ⟨a, dx, ga, tb, rfl, h1, td_rty hy w iy, hn, sp_at w ix iy p q⟩
theorem r_or1 {o o' : R2} {x y : D} (h : wR K o x y m k) : wR K (fun x y H Q => o x y H Q ∨ o' x y H Q) x y m k := fun vx vy F H Q w ix iy p => .inl (h vx vy F H Q w ix iy p)
theorem r_or2 {o o' : R2} {x y : D} (h : wR K o' x y m k) : wR K (fun x y H Q => o x y H Q ∨ o' x y H Q) x y m k := fun vx vy F H Q w ix iy p => .inr (h vx vy F H Q w ix iy p)
theorem notFirst_int (K : PySem.W.Frag) (C : Addr) : PySem.W.notFirst K C (.type "int") = true := rfl
theorem notFirst_self (K : PySem.W.Frag) (C : Addr) : PySem.W.notFirst K C (.ref C) = true := by unfold PySem.W.notFirst; simp
/-! ### static methods -/
theorem e_stat {t : TA} {dvs : List V} {dds : List D} {ta : TE} (hd : ∀ F, IsL K F dds dvs) (h : wE K ta r m fun x m1 => x = .ref C ∧ wA K t r m1 fun xs m2 => S (xs ++ dds) m2 k) : wE K (FX.tStat C (spOf K S) dvs E ta t) r m k := fun σ F H Q w e p => by
  refine h σ F H _ w e fun x m1 v F1 H1 h1 w1 s1 i1 => ?_
  obtain ⟨rfl, h1⟩ := h1
  refine ⟨i1, ?_⟩
  refine h1 σ F1 H1 _ w1 (e.mono s1.same) fun xs m2 vs F2 H2 h2 w2 s2 i2 => ?_
  exact ⟨xs ++ dds, F2, m2, k, w2, i2.app (hd F2), h2, p.step (s1.trans s2)⟩
theorem e_call0 {ta : TA} (h : wA K ta r m fun xs m1 => S xs m1 k) : wE K (tCall (spOf K S) [] E ta) r m k := e_call (dds := []) nilD (h.mono fun xs m1 q => by rw [List.append_nil]; exact q)
theorem e_stat0 {t : TA} {ta : TE} (h : wE K ta r m fun x m1 => x = .ref C ∧ wA K t r m1 fun xs m2 => S xs m2 k) : wE K (FX.tStat C (spOf K S) [] E ta t) r m k := e_stat (dds := []) nilD (h.mono fun x m1 q => ⟨q.1, q.2.mono fun xs m2 z => by rw [List.append_nil]; exact z⟩)
theorem e_meth0 {mn : Str} {ta : TE} {t : TA} (h : wE K ta r m fun x m1 => ∃ fs, InD m1 x C fs ∧ fs.lookup mn = none ∧ wA K t r m1 fun xs m2 => S (x :: xs) m2 k) : wE K (tMeth C mn (spOf K S) [] E ta t) r m k :=
  e_meth (dds := []) nilD (h.mono fun x m1 ⟨fs, a, b, c⟩ => ⟨fs, a, b, c.mono fun xs m2 z => by rw [List.append_nil]; exact z⟩)
/-- a method of an instance that stays -/
theorem e_methI {mn : Str} {ta : TE} {t : TA} (h : wE K ta r m fun x m1 => ∃ fs, x = .ins C fs ∧ fs.lookup mn = none ∧ wA K t r m1 fun xs m2 => S (x :: xs) m2 k) : wE K (tMeth C mn (spOf K S) [] E ta t) r m k :=
  e_meth0 (h.mono fun x m1 ⟨fs, a, b, c⟩ => ⟨fs, .inl a, b, c⟩)
/-! ### built-in functions -/
theorem c_len {x : D} {n : Nat} (hn : (∃ xs, x = .lst xs ∧ n = xs.length) ∨ (∃ xs, x = .tup xs ∧ n = xs.length) ∨ ∃ a xs, x = .ref a ∧ m a = some (.lst xs) ∧ n = xs.length) (q : k (.int n) m) :
    wC K (fun xs H Q => ∃ p ys, xs = [.ref p] ∧ (SqL K H p ys ∨ SqT K H p ys) ∧ Q (.int ys.length) H) [x] m k := fun vs F H Q w i p => by
  obtain ⟨v, t, rfl, iv, rfl⟩ := i
  rcases hn with ⟨xs, rfl, rfl⟩ | ⟨xs, rfl, rfl⟩ | ⟨a, xs, rfl, hm, rfl⟩
  · obtain ⟨a, us, rfl, h1, h2⟩ := iv
    refine ⟨a, us, rfl, .inl (w.same.seq h1), ?_⟩
    rw [← h2.len]; exact p.now w q rfl
  · obtain ⟨a, us, rfl, h1, h2⟩ := iv
    refine ⟨a, us, rfl, .inr (Same.tq w.same h1), ?_⟩
    rw [← h2.len]; exact p.now w q rfl
  · obtain ⟨_, us, h1, h2⟩ := w.st a _ hm
    obtain rfl : v = .ref a := iv
    refine ⟨a, us, rfl, .inl (SqL.of h1), ?_⟩
    rw [← h2.len]; exact p.now w q rfl
theorem c_abs {i : Int} (q : k (.int (if i < 0 then -i else i)) m) : wC K (fun xs H Q => ∃ i, xs = [.int i] ∧ Q (.int (if i < 0 then -i else i)) H) [.int i] m k := fun vs F H Q w iv p => by
  obtain ⟨v, t, rfl, h1, rfl⟩ := iv
  obtain rfl : v = .int i := h1
  exact ⟨i, rfl, p.now w q rfl⟩
theorem c_int1 {i : Int} (q : k (.int i) m) : wC K (fun xs H Q => (∃ i, xs = [.int i] ∧ Q (.int i) H) ∨ ∃ k, xs = [.bl k] ∧ Q (.int (if k then 1 else 0)) H) [.int i] m k := fun vs F H Q w iv p => by
  obtain ⟨v, t, rfl, h1, rfl⟩ := iv
  obtain rfl : v = .int i := h1
  exact .inl ⟨i, rfl, p.now w q rfl⟩
theorem c_bool1 {b : Bool} (q : k (.bl b) m) : wC K (fun xs H Q => (∃ i, xs = [.int i] ∧ Q (.bl (i != 0)) H) ∨ ∃ k, xs = [.bl k] ∧ Q (.bl k) H) [.bl b] m k := fun vs F H Q w iv p => by
  obtain ⟨v, t, rfl, h1, rfl⟩ := iv
  obtain rfl : v = .bl b := h1
  exact .inr ⟨b, rfl, p.now w q rfl⟩
theorem c_tuple {xs : List D} (q : k (.tup xs) m) : wC K (fun vs H Q => ∃ p ys, vs = [.ref p] ∧ ((SqL K H p ys ∧ ∀ l, H l = none → Q (.ref l) (upd H l (.tup ys))) ∨ (SqT K H p ys ∧ Q (.ref p) H))) [.lst xs] m k := fun vs F H Q w iv p => by
  obtain ⟨v, t, rfl, ⟨a, us, rfl, h1, h2⟩, rfl⟩ := iv
  refine ⟨a, us, rfl, .inl ⟨w.same.seq h1, fun l hl => ?_⟩⟩
  have s2 := Stp.newF (u := .tup us) w hl
  exact p (.tup xs) m _ _ _ q (w.newF hl) s2 ⟨l, us, rfl, SqT.of upd_same, IsL.mono s2.same _ _ h2⟩
theorem c_tupleT {xs : List D} (q : k (.tup xs) m) : wC K (fun vs H Q => ∃ p ys, vs = [.ref p] ∧ ((SqL K H p ys ∧ ∀ l, H l = none → Q (.ref l) (upd H l (.tup ys))) ∨ (SqT K H p ys ∧ Q (.ref p) H))) [.tup xs] m k := fun vs F H Q w iv p => by
  obtain ⟨v, t, rfl, ⟨a, us, rfl, h1, h2⟩, rfl⟩ := iv
  exact ⟨a, us, rfl, .inr ⟨Same.tq w.same h1, p.now w q ⟨a, us, rfl, h1, h2⟩⟩⟩
theorem c_list {x : D} {xs : List D} (hx : x = .lst xs ∨ x = .tup xs) (q : k (.lst xs) m) : wC K (fun vs H Q => ∃ p ys, vs = [.ref p] ∧ (SqL K H p ys ∨ SqT K H p ys) ∧ ∀ l, H l = none → Q (.ref l) (upd H l (.lst ys))) [x] m k := fun vs F H Q w iv p => by
  rcases hx with rfl | rfl
  · obtain ⟨v, t, rfl, ⟨a, us, rfl, h1, h2⟩, rfl⟩ := iv
    refine ⟨a, us, rfl, .inl (w.same.seq h1), fun l hl => ?_⟩
    have s2 := Stp.newF (u := .lst us) w hl
    exact p (.lst xs) m _ _ _ q (w.newF hl) s2 ⟨l, us, rfl, SqL.of upd_same, IsL.mono s2.same _ _ h2⟩
  · obtain ⟨v, t, rfl, ⟨a, us, rfl, h1, h2⟩, rfl⟩ := iv
    refine ⟨a, us, rfl, .inr (Same.tq w.same h1), fun l hl => ?_⟩
    have s2 := Stp.newF (u := .lst us) w hl
    exact p (.lst xs) m _ _ _ q (w.newF hl) s2 ⟨l, us, rfl, SqL.of upd_same, IsL.mono s2.same _ _ h2⟩
theorem isL_bl : ∀ {bs : List Bool} {vs : List V} {F : Hp}, IsL K F (bs.map D.bl) vs → vs = bs.map V.bl
  | [], vs, F, h => h
  | b :: bs, vs, F, ⟨v, t, h1, h2, h3⟩ => by
    have e : v = .bl b := h2
    rw [h1, isL_bl h3, e]; rfl
theorem isL_int : ∀ {bs : List Int} {vs : List V} {F : Hp}, IsL K F (bs.map D.int) vs → vs = bs.map V.int
  | [], vs, F, h => h
  | b :: bs, vs, F, ⟨v, t, h1, h2, h3⟩ => by
    have e : v = .int b := h2
    rw [h1, isL_int h3, e]; rfl
theorem c_all {bs : List Bool} {xs : List D} (hx : xs = bs.map D.bl) (q : k (.bl (bs.all id)) m) : wC K (rAll K) [.lst xs] m k := fun vs F H Q w iv p => by
  subst hx
  obtain ⟨v, t, rfl, ⟨a, us, rfl, h1, h2⟩, rfl⟩ := iv
  rw [isL_bl h2] at h1
  exact ⟨a, bs, rfl, w.same.seq h1, p.now w q rfl⟩
theorem c_sum {bs : List Int} {xs : List D} (hx : xs = bs.map D.int) (q : k (.int bs.sum) m) : wC K (rSum K) [.lst xs] m k := fun vs F H Q w iv p => by
  subst hx
  obtain ⟨v, t, rfl, ⟨a, us, rfl, h1, h2⟩, rfl⟩ := iv
  rw [isL_int h2] at h1
  exact ⟨a, bs, rfl, w.same.seq h1, p.now w q rfl⟩
/-! ### isinstance -/
structure ClI (K : PySem.W.Frag) (C : Addr) : Prop where
  cls : Cls K C
  cl : PySem.W.findIn K (.ref C) "__class__" = some (some (.builtin "object.__class__"))
  ob : PySem.W.mroIn K C (.type "object") = some true
theorem spec_get (K : PySem.W.Frag) : PySem.W.specialIn K (.builtin "object.__class__") "__get__" = some (some (.builtin "getset_descriptor.__get__")) := by kernel_rfl
theorem takes_cls (K : PySem.W.Frag) : PySem.W.takesIn K (.builtin "object.__class__") = some true := by kernel_rfl
/-- what isinstance asks of a datum -/
inductive TI2 (K : PySem.W.Frag) (m : Mu) : D → Value → Prop where
  | int (i : Int) : TI2 K m (.int i) (.type "int")
  | bl (b : Bool) : TI2 K m (.bl b) (.type "bool")
  | non : TI2 K m .non (.type "NoneType")
  | str (x : Str) : TI2 K m (.str x) (.type "str")
  | lst (xs : List D) : TI2 K m (.lst xs) (.type "list")
  | tup (xs : List D) : TI2 K m (.tup xs) (.type "tuple")
  | dic (kvs : List (Key × V)) : TI2 K m (.raw (.dK kvs)) (.type "dict")
  | ins {x : D} {C : Addr} {fs : List (Str × D)} (h : InD m x C fs) (c : ClI K C) : TI2 K m x (.ref C)
theorem ti_x {F H : Hp} {d : D} {v : V} {t : Value} (h : TI2 K m d t) (w : Wd K F H m) (i : Is K F d v) : TyX K H v t := by
  cases h with
  | int j => obtain rfl : v = .int j := i; exact .base (.int j)
  | bl b => obtain rfl : v = .bl b := i; exact .base (.bl b)
  | non => obtain rfl : v = .non := i; exact .base .non
  | str x => obtain rfl : v = .str x := i; exact .base (.str x)
  | lst xs =>
    obtain ⟨a, us, rfl, h1, _⟩ := i
    rcases w.same.seq h1 with (h | ⟨o, h⟩) | ⟨o, its, n, h, hc, _⟩
    · exact .base (.lst h)
    · exact .base (.frz h)
    · exact .kList h hc
  | tup xs =>
    obtain ⟨a, us, rfl, h1, _⟩ := i
    rcases Same.tq w.same h1 with (h | ⟨o, h⟩) | ⟨o, its, n, h, hc, _⟩
    · exact .base (.tup h)
    · exact .fTuple h
    · exact .kTuple h hc
  | dic kvs =>
    obtain ⟨a, rfl, h1⟩ := i
    exact .base (.dK (w.same _ _ h1))
  | ins hi c =>
    obtain ⟨a, dx, gs, rfl, h1, _⟩ := hi.at_ w i
    exact .base (.ins h1 c.cls c.cl (spec_get K) (takes_cls K) c.ob)
theorem c_isi {x c : D} {t u : Value} {b : Bool} (hc : (∃ n, c = .ty n ∧ u = .type n) ∨ ∃ C, c = .ref C ∧ u = .ref C) (ht : TI2 K m x t) (hk : PySem.W.kitOne K t u = some b) (q : k (.bl b) m) : wC K (rIsi K) [x, c] m k := fun vs F H Q w iv p => by
  obtain ⟨v, t2, rfl, h1, v2, t3, rfl, h2, rfl⟩ := iv
  rcases hc with ⟨n, rfl, rfl⟩ | ⟨C, rfl, rfl⟩
  · obtain rfl : v2 = .ty n := h2
    exact ⟨v, .ty n, t, .type n, b, rfl, .ty n, ti_x ht w h1, hk, p.now w q rfl⟩
  · obtain rfl : v2 = .ref C := h2
    exact ⟨v, .ref C, t, .ref C, b, rfl, .own C, ti_x ht w h1, hk, p.now w q rfl⟩
inductive ClD : List D → List Value → Prop where
  | nil : ClD [] []
  | ty {cs : List D} {us : List Value} (n : String) (h : ClD cs us) : ClD (.ty n :: cs) (.type n :: us)
  | own {cs : List D} {us : List Value} (C : Addr) (h : ClD cs us) : ClD (.ref C :: cs) (.ref C :: us)
theorem cld_v {F : Hp} : ∀ {cs : List D} {us : List Value} {vs : List V}, ClD cs us → IsL K F cs vs → Paired ClsV vs us
  | _, _, vs, .nil, h => by rw [show vs = [] from h]; exact .nil
  | _, _, vs, .ty n h, ⟨v, t, e, h1, h2⟩ => by
    obtain rfl : v = .ty n := h1
    rw [e]; exact .cons (.ty n) (cld_v h h2)
  | _, _, vs, .own C h, ⟨v, t, e, h1, h2⟩ => by
    obtain rfl : v = .ref C := h1
    rw [e]; exact .cons (.own C) (cld_v h h2)
/-- isinstance(x, (c1, c2)) -/
theorem e_isiT {ta : TE} {tc : TA} {cs : List D} {us : List Value} (h : wE K ta r m fun x m1 => wA K tc r m1 fun ds m2 => ds = cs ∧ cs.length ≤ 100000 ∧ ∃ t b, ClD cs us ∧ TI2 K m2 x t ∧ PySem.W.kitAny K t us = some b ∧ k (.bl b) m2) :
    wE K (tCB (rIsiT K) (tCons ta (tCons (tTup tc) tNil))) r m k := fun σ F H Q w e p => by
  refine h σ F H _ w e fun x m1 v F1 H1 h1 w1 s1 i1 => ?_
  refine h1 σ F1 H1 _ w1 (e.mono s1.same) fun ds m2 vs F2 H2 h2 w2 s2 i2 => ?_
  obtain ⟨rfl, hl, t, b, hc, ht, hk, q⟩ := h2
  refine ⟨by rw [← i2.len, sizeLine_eq]; exact Nat.le_trans hl (by decide), fun a ha => ?_⟩
  have w3 := w2.newF (u := .tup vs) ha
  have s3 := Stp.newF (u := .tup vs) w2 ha
  refine ⟨v, a, vs, t, us, b, rfl, upd_same, cld_v hc i2, ti_x ht w3 (Is.mono (s2.trans s3).same _ _ i1), hk, ?_⟩
  exact p (.bl b) m2 _ _ _ q w3 ((s1.trans s2).trans s3) rfl
end
end DL
end

section
set_option Elab.async false
set_option linter.all false
set_option maxRecDepth 100000
set_option maxHeartbeats 2000000
namespace LW
open PySem PySem.Spec PyProof.Rows L2
def topS (i : Nat) : Stmt := PySem.Challenge.pw_lessways_k10_leaves_depth_walk.main.body.getD i (.Pass ⟨0, 0, 0, 0⟩)
abbrev s_wall : Stmt := topS 0
abbrev s_is_integer : Stmt := topS 7
abbrev s_common_divisor : Stmt := topS 8
abbrev s_Share_init : Stmt := inClass (topS 9) 0
abbrev s_Share_add : Stmt := inClass (topS 9) 1
abbrev s_Share_radd : Stmt := inClass (topS 9) 2
abbrev s_Share_sub : Stmt := inClass (topS 9) 3
abbrev s_Share_rsub : Stmt := inClass (topS 9) 4
abbrev s_Share_mul : Stmt := inClass (topS 9) 5
abbrev s_Share_rmul : Stmt := inClass (topS 9) 6
abbrev s_Share_neg : Stmt := inClass (topS 9) 7
abbrev s_Share_abs : Stmt := inClass (topS 9) 8
abbrev s_Share_eq : Stmt := inClass (topS 9) 9
abbrev s_Share_lt : Stmt := inClass (topS 9) 10
abbrev s_Share_le : Stmt := inClass (topS 9) 11
abbrev s_Share_gt : Stmt := inClass (topS 9) 12
abbrev s_Share_ge : Stmt := inClass (topS 9) 13
abbrev s_Share_str : Stmt := inClass (topS 9) 14
abbrev s_Share_over : Stmt := inClass (topS 9) 15
abbrev s_is_number : Stmt := topS 10
abbrev s_as_share : Stmt := topS 11
abbrev s_worth_of : Stmt := topS 12
abbrev s_Row_init : Stmt := inClass (topS 14) 0
abbrev s_Row_eq : Stmt := inClass (topS 14) 1
abbrev s_Row_invert : Stmt := inClass (topS 14) 2
abbrev s_Row_holds : Stmt := inClass (topS 14) 3
abbrev s_Row_put : Stmt := inClass (topS 14) 4
abbrev s_whole_factor : Stmt := topS 15
abbrev s_Term_init : Stmt := inClass (topS 18) 0
abbrev s_Term_unknown : Stmt := inClass (topS 18) 1
abbrev s_Term_constant : Stmt := inClass (topS 18) 2
abbrev s_Term_add : Stmt := inClass (topS 18) 3
abbrev s_Term_radd : Stmt := inClass (topS 18) 4
abbrev s_Term_sub : Stmt := inClass (topS 18) 5
abbrev s_Term_rsub : Stmt := inClass (topS 18) 6
abbrev s_Term_mul : Stmt := inClass (topS 18) 7
abbrev s_Term_rmul : Stmt := inClass (topS 18) 8
abbrev s_Term_neg : Stmt := inClass (topS 18) 9
abbrev s_Term_eq : Stmt := inClass (topS 18) 10
abbrev s_Term_lt : Stmt := inClass (topS 18) 11
abbrev s_Term_le : Stmt := inClass (topS 18) 12
abbrev s_Term_gt : Stmt := inClass (topS 18) 13
abbrev s_Term_ge : Stmt := inClass (topS 18) 14
abbrev s_Term_scaled : Stmt := inClass (topS 18) 15
abbrev s_Term_over : Stmt := inClass (topS 18) 16
abbrev s_Term_put : Stmt := inClass (topS 18) 17
abbrev s_Term_at : Stmt := inClass (topS 18) 18
abbrev s_is_worth : Stmt := topS 19
abbrev s_as_term : Stmt := topS 20
abbrev s_leaves : Stmt := topS 22
abbrev s_depth : Stmt := topS 23
abbrev s_walk : Stmt := topS 24
abbrev s_law_source : Stmt := topS 26
abbrev s_law_draw : Stmt := topS 27
abbrev s_law_pick : Stmt := topS 28
abbrev s_law_less : Stmt := topS 29
abbrev s_law_middle : Stmt := topS 30
abbrev s_law_worths : Stmt := topS 31
abbrev s_law_root : Stmt := topS 32
abbrev s_law_fixed : Stmt := topS 33
abbrev s_law_line : Stmt := topS 34
abbrev s_law_meet : Stmt := topS 35
abbrev s_law_plane : Stmt := topS 36
abbrev s_law_det : Stmt := topS 37
abbrev s_law_triple : Stmt := topS 38
abbrev s_law_room : Stmt := topS 39
abbrev s_law_faces : Stmt := topS 40
abbrev s_law_number : Stmt := topS 41
abbrev s_law_holds : Stmt := topS 42
abbrev s_law_ints : Stmt := topS 43
abbrev s_law_row : Stmt := topS 44
abbrev s_law_said : Stmt := topS 45
abbrev s_law_terms : Stmt := topS 46
abbrev s_law_same : Stmt := topS 47
abbrev s_law_passed : Stmt := topS 48
abbrev s_law_grown : Stmt := topS 49
abbrev s_law_of_terms : Stmt := topS 50
abbrev s_law_listed : Stmt := topS 51
abbrev s_law_rows_of : Stmt := topS 52
abbrev s_law_led : Stmt := topS 53
abbrev s_law_chain_right : Stmt := topS 54
abbrev s_law : Stmt := topS 55
def d_wall : He.DefD := ⟨("_wall", none), "_wall", "_wall", defArgs s_wall, defBody s_wall, defScope s_wall, [], []⟩
def d_is_integer : He.DefD := ⟨("is_integer", none), "is_integer", "is_integer", defArgs s_is_integer, defBody s_is_integer, defScope s_is_integer, [], []⟩
def d_common_divisor : He.DefD := ⟨("common_divisor", none), "common_divisor", "common_divisor", defArgs s_common_divisor, defBody s_common_divisor, defScope s_common_divisor, [], []⟩
def d_Share_init : He.DefD := ⟨("Share", some "__init__"), "__init__", "Share.__init__", defArgs s_Share_init, defBody s_Share_init, defScope s_Share_init, [.int 1], []⟩
def d_Share_add : He.DefD := ⟨("Share", some "__add__"), "__add__", "Share.__add__", defArgs s_Share_add, defBody s_Share_add, defScope s_Share_add, [], []⟩
def d_Share_radd : He.DefD := ⟨("Share", some "__radd__"), "__radd__", "Share.__radd__", defArgs s_Share_radd, defBody s_Share_radd, defScope s_Share_radd, [], []⟩
def d_Share_sub : He.DefD := ⟨("Share", some "__sub__"), "__sub__", "Share.__sub__", defArgs s_Share_sub, defBody s_Share_sub, defScope s_Share_sub, [], []⟩
def d_Share_rsub : He.DefD := ⟨("Share", some "__rsub__"), "__rsub__", "Share.__rsub__", defArgs s_Share_rsub, defBody s_Share_rsub, defScope s_Share_rsub, [], []⟩
def d_Share_mul : He.DefD := ⟨("Share", some "__mul__"), "__mul__", "Share.__mul__", defArgs s_Share_mul, defBody s_Share_mul, defScope s_Share_mul, [], []⟩
def d_Share_rmul : He.DefD := ⟨("Share", some "__rmul__"), "__rmul__", "Share.__rmul__", defArgs s_Share_rmul, defBody s_Share_rmul, defScope s_Share_rmul, [], []⟩
def d_Share_neg : He.DefD := ⟨("Share", some "__neg__"), "__neg__", "Share.__neg__", defArgs s_Share_neg, defBody s_Share_neg, defScope s_Share_neg, [], []⟩
def d_Share_abs : He.DefD := ⟨("Share", some "__abs__"), "__abs__", "Share.__abs__", defArgs s_Share_abs, defBody s_Share_abs, defScope s_Share_abs, [], []⟩
def d_Share_eq : He.DefD := ⟨("Share", some "__eq__"), "__eq__", "Share.__eq__", defArgs s_Share_eq, defBody s_Share_eq, defScope s_Share_eq, [], []⟩
def d_Share_lt : He.DefD := ⟨("Share", some "__lt__"), "__lt__", "Share.__lt__", defArgs s_Share_lt, defBody s_Share_lt, defScope s_Share_lt, [], []⟩
def d_Share_le : He.DefD := ⟨("Share", some "__le__"), "__le__", "Share.__le__", defArgs s_Share_le, defBody s_Share_le, defScope s_Share_le, [], []⟩
def d_Share_gt : He.DefD := ⟨("Share", some "__gt__"), "__gt__", "Share.__gt__", defArgs s_Share_gt, defBody s_Share_gt, defScope s_Share_gt, [], []⟩
def d_Share_ge : He.DefD := ⟨("Share", some "__ge__"), "__ge__", "Share.__ge__", defArgs s_Share_ge, defBody s_Share_ge, defScope s_Share_ge, [], []⟩
def d_Share_str : He.DefD := ⟨("Share", some "__str__"), "__str__", "Share.__str__", defArgs s_Share_str, defBody s_Share_str, defScope s_Share_str, [], []⟩
def d_Share_over : He.DefD := ⟨("Share", some "over"), "over", "Share.over", defArgs s_Share_over, defBody s_Share_over, defScope s_Share_over, [], []⟩
def d_is_number : He.DefD := ⟨("is_number", none), "is_number", "is_number", defArgs s_is_number, defBody s_is_number, defScope s_is_number, [], []⟩
def d_as_share : He.DefD := ⟨("as_share", none), "as_share", "as_share", defArgs s_as_share, defBody s_as_share, defScope s_as_share, [], []⟩
def d_worth_of : He.DefD := ⟨("worth_of", none), "worth_of", "worth_of", defArgs s_worth_of, defBody s_worth_of, defScope s_worth_of, [], []⟩
def d_Row_init : He.DefD := ⟨("Row", some "__init__"), "__init__", "Row.__init__", defArgs s_Row_init, defBody s_Row_init, defScope s_Row_init, [], []⟩
def d_Row_eq : He.DefD := ⟨("Row", some "__eq__"), "__eq__", "Row.__eq__", defArgs s_Row_eq, defBody s_Row_eq, defScope s_Row_eq, [], []⟩
def d_Row_invert : He.DefD := ⟨("Row", some "__invert__"), "__invert__", "Row.__invert__", defArgs s_Row_invert, defBody s_Row_invert, defScope s_Row_invert, [], []⟩
def d_Row_holds : He.DefD := ⟨("Row", some "holds"), "holds", "Row.holds", defArgs s_Row_holds, defBody s_Row_holds, defScope s_Row_holds, [], []⟩
def d_Row_put : He.DefD := ⟨("Row", some "put"), "put", "Row.put", defArgs s_Row_put, defBody s_Row_put, defScope s_Row_put, [], []⟩
def d_whole_factor : He.DefD := ⟨("whole_factor", none), "whole_factor", "whole_factor", defArgs s_whole_factor, defBody s_whole_factor, defScope s_whole_factor, [], []⟩
def d_Term_init : He.DefD := ⟨("Term", some "__init__"), "__init__", "Term.__init__", defArgs s_Term_init, defBody s_Term_init, defScope s_Term_init, [], []⟩
def d_Term_add : He.DefD := ⟨("Term", some "__add__"), "__add__", "Term.__add__", defArgs s_Term_add, defBody s_Term_add, defScope s_Term_add, [], []⟩
def d_Term_radd : He.DefD := ⟨("Term", some "__radd__"), "__radd__", "Term.__radd__", defArgs s_Term_radd, defBody s_Term_radd, defScope s_Term_radd, [], []⟩
def d_Term_sub : He.DefD := ⟨("Term", some "__sub__"), "__sub__", "Term.__sub__", defArgs s_Term_sub, defBody s_Term_sub, defScope s_Term_sub, [], []⟩
def d_Term_rsub : He.DefD := ⟨("Term", some "__rsub__"), "__rsub__", "Term.__rsub__", defArgs s_Term_rsub, defBody s_Term_rsub, defScope s_Term_rsub, [], []⟩
def d_Term_mul : He.DefD := ⟨("Term", some "__mul__"), "__mul__", "Term.__mul__", defArgs s_Term_mul, defBody s_Term_mul, defScope s_Term_mul, [], []⟩
def d_Term_rmul : He.DefD := ⟨("Term", some "__rmul__"), "__rmul__", "Term.__rmul__", defArgs s_Term_rmul, defBody s_Term_rmul, defScope s_Term_rmul, [], []⟩
def d_Term_neg : He.DefD := ⟨("Term", some "__neg__"), "__neg__", "Term.__neg__", defArgs s_Term_neg, defBody s_Term_neg, defScope s_Term_neg, [], []⟩
def d_Term_eq : He.DefD := ⟨("Term", some "__eq__"), "__eq__", "Term.__eq__", defArgs s_Term_eq, defBody s_Term_eq, defScope s_Term_eq, [], []⟩
def d_Term_lt : He.DefD := ⟨("Term", some "__lt__"), "__lt__", "Term.__lt__", defArgs s_Term_lt, defBody s_Term_lt, defScope s_Term_lt, [], []⟩
def d_Term_le : He.DefD := ⟨("Term", some "__le__"), "__le__", "Term.__le__", defArgs s_Term_le, defBody s_Term_le, defScope s_Term_le, [], []⟩
def d_Term_gt : He.DefD := ⟨("Term", some "__gt__"), "__gt__", "Term.__gt__", defArgs s_Term_gt, defBody s_Term_gt, defScope s_Term_gt, [], []⟩
def d_Term_ge : He.DefD := ⟨("Term", some "__ge__"), "__ge__", "Term.__ge__", defArgs s_Term_ge, defBody s_Term_ge, defScope s_Term_ge, [], []⟩
def d_Term_scaled : He.DefD := ⟨("Term", some "scaled"), "scaled", "Term.scaled", defArgs s_Term_scaled, defBody s_Term_scaled, defScope s_Term_scaled, [], []⟩
def d_Term_over : He.DefD := ⟨("Term", some "over"), "over", "Term.over", defArgs s_Term_over, defBody s_Term_over, defScope s_Term_over, [], []⟩
def d_Term_put : He.DefD := ⟨("Term", some "put"), "put", "Term.put", defArgs s_Term_put, defBody s_Term_put, defScope s_Term_put, [], []⟩
def d_Term_at : He.DefD := ⟨("Term", some "at"), "at", "Term.at", defArgs s_Term_at, defBody s_Term_at, defScope s_Term_at, [], []⟩
def d_is_worth : He.DefD := ⟨("is_worth", none), "is_worth", "is_worth", defArgs s_is_worth, defBody s_is_worth, defScope s_is_worth, [], []⟩
def d_as_term : He.DefD := ⟨("as_term", none), "as_term", "as_term", defArgs s_as_term, defBody s_as_term, defScope s_as_term, [], []⟩
def d_leaves : He.DefD := ⟨("leaves", none), "leaves", "leaves", defArgs s_leaves, defBody s_leaves, defScope s_leaves, [], []⟩
def d_depth : He.DefD := ⟨("depth", none), "depth", "depth", defArgs s_depth, defBody s_depth, defScope s_depth, [], []⟩
def d_walk : He.DefD := ⟨("walk", none), "walk", "walk", defArgs s_walk, defBody s_walk, defScope s_walk, [], []⟩
def d_law_source : He.DefD := ⟨("_law_source", none), "_law_source", "_law_source", defArgs s_law_source, defBody s_law_source, defScope s_law_source, [], []⟩
def d_law_draw : He.DefD := ⟨("_law_draw", none), "_law_draw", "_law_draw", defArgs s_law_draw, defBody s_law_draw, defScope s_law_draw, [], []⟩
def d_law_pick : He.DefD := ⟨("_law_pick", none), "_law_pick", "_law_pick", defArgs s_law_pick, defBody s_law_pick, defScope s_law_pick, [], []⟩
def d_law_less : He.DefD := ⟨("_law_less", none), "_law_less", "_law_less", defArgs s_law_less, defBody s_law_less, defScope s_law_less, [], []⟩
def d_law_middle : He.DefD := ⟨("_law_middle", none), "_law_middle", "_law_middle", defArgs s_law_middle, defBody s_law_middle, defScope s_law_middle, [], []⟩
def d_law_worths : He.DefD := ⟨("_law_worths", none), "_law_worths", "_law_worths", defArgs s_law_worths, defBody s_law_worths, defScope s_law_worths, [], []⟩
def d_law_root : He.DefD := ⟨("_law_root", none), "_law_root", "_law_root", defArgs s_law_root, defBody s_law_root, defScope s_law_root, [], []⟩
def d_law_fixed : He.DefD := ⟨("_law_fixed", none), "_law_fixed", "_law_fixed", defArgs s_law_fixed, defBody s_law_fixed, defScope s_law_fixed, [], []⟩
def d_law_line : He.DefD := ⟨("_law_line", none), "_law_line", "_law_line", defArgs s_law_line, defBody s_law_line, defScope s_law_line, [], []⟩
def d_law_meet : He.DefD := ⟨("_law_meet", none), "_law_meet", "_law_meet", defArgs s_law_meet, defBody s_law_meet, defScope s_law_meet, [], []⟩
def d_law_plane : He.DefD := ⟨("_law_plane", none), "_law_plane", "_law_plane", defArgs s_law_plane, defBody s_law_plane, defScope s_law_plane, [], []⟩
def d_law_det : He.DefD := ⟨("_law_det", none), "_law_det", "_law_det", defArgs s_law_det, defBody s_law_det, defScope s_law_det, [], []⟩
def d_law_triple : He.DefD := ⟨("_law_triple", none), "_law_triple", "_law_triple", defArgs s_law_triple, defBody s_law_triple, defScope s_law_triple, [], []⟩
def d_law_room : He.DefD := ⟨("_law_room", none), "_law_room", "_law_room", defArgs s_law_room, defBody s_law_room, defScope s_law_room, [], []⟩
def d_law_faces : He.DefD := ⟨("_law_faces", none), "_law_faces", "_law_faces", defArgs s_law_faces, defBody s_law_faces, defScope s_law_faces, [], []⟩
def d_law_number : He.DefD := ⟨("_law_number", none), "_law_number", "_law_number", defArgs s_law_number, defBody s_law_number, defScope s_law_number, [], []⟩
def d_law_holds : He.DefD := ⟨("_law_holds", none), "_law_holds", "_law_holds", defArgs s_law_holds, defBody s_law_holds, defScope s_law_holds, [], []⟩
def d_law_ints : He.DefD := ⟨("_law_ints", none), "_law_ints", "_law_ints", defArgs s_law_ints, defBody s_law_ints, defScope s_law_ints, [], []⟩
def d_law_row : He.DefD := ⟨("_law_row", none), "_law_row", "_law_row", defArgs s_law_row, defBody s_law_row, defScope s_law_row, [], []⟩
def d_law_said : He.DefD := ⟨("_law_said", none), "_law_said", "_law_said", defArgs s_law_said, defBody s_law_said, defScope s_law_said, [], []⟩
def d_law_terms : He.DefD := ⟨("_law_terms", none), "_law_terms", "_law_terms", defArgs s_law_terms, defBody s_law_terms, defScope s_law_terms, [], []⟩
def d_law_same : He.DefD := ⟨("_law_same", none), "_law_same", "_law_same", defArgs s_law_same, defBody s_law_same, defScope s_law_same, [], []⟩
def d_law_passed : He.DefD := ⟨("_law_passed", none), "_law_passed", "_law_passed", defArgs s_law_passed, defBody s_law_passed, defScope s_law_passed, [], []⟩
def d_law_grown : He.DefD := ⟨("_law_grown", none), "_law_grown", "_law_grown", defArgs s_law_grown, defBody s_law_grown, defScope s_law_grown, [], []⟩
def d_law_of_terms : He.DefD := ⟨("_law_of_terms", none), "_law_of_terms", "_law_of_terms", defArgs s_law_of_terms, defBody s_law_of_terms, defScope s_law_of_terms, [], []⟩
def d_law_listed : He.DefD := ⟨("_law_listed", none), "_law_listed", "_law_listed", defArgs s_law_listed, defBody s_law_listed, defScope s_law_listed, [], []⟩
def d_law_rows_of : He.DefD := ⟨("_law_rows_of", none), "_law_rows_of", "_law_rows_of", defArgs s_law_rows_of, defBody s_law_rows_of, defScope s_law_rows_of, [], []⟩
def d_law_led : He.DefD := ⟨("_law_led", none), "_law_led", "_law_led", defArgs s_law_led, defBody s_law_led, defScope s_law_led, [], []⟩
def d_law_chain_right : He.DefD := ⟨("_law_chain_right", none), "_law_chain_right", "_law_chain_right", defArgs s_law_chain_right, defBody s_law_chain_right, defScope s_law_chain_right, [], []⟩
def d_law : He.DefD := ⟨("law", none), "law", "law", defArgs s_law, defBody s_law, defScope s_law, [], []⟩
def t_Term_unknown : FX.StD := ⟨"Term", "unknown", "Term.unknown", defArgs s_Term_unknown, defBody s_Term_unknown, defScope s_Term_unknown⟩
def t_Term_constant : FX.StD := ⟨"Term", "constant", "Term.constant", defArgs s_Term_constant, defBody s_Term_constant, defScope s_Term_constant⟩
def fn0 : List He.DefD := [d_wall, d_is_integer, d_common_divisor, d_Share_init, d_Share_add, d_Share_radd, d_Share_sub, d_Share_rsub, d_Share_mul, d_Share_rmul, d_Share_neg, d_Share_abs, d_Share_eq, d_Share_lt, d_Share_le, d_Share_gt, d_Share_ge, d_Share_str, d_Share_over, d_is_number, d_as_share, d_worth_of, d_Row_init, d_Row_eq, d_Row_invert, d_Row_holds, d_Row_put, d_whole_factor, d_Term_init, d_Term_add]
def fn1 : List He.DefD := [d_Term_radd, d_Term_sub, d_Term_rsub, d_Term_mul, d_Term_rmul, d_Term_neg, d_Term_eq, d_Term_lt, d_Term_le, d_Term_gt, d_Term_ge, d_Term_scaled, d_Term_over, d_Term_put, d_Term_at, d_is_worth, d_as_term, d_leaves, d_depth, d_walk, d_law_source, d_law_draw, d_law_pick, d_law_less, d_law_middle, d_law_worths, d_law_root, d_law_fixed, d_law_line, d_law_meet]
def fn2 : List He.DefD := [d_law_plane, d_law_det, d_law_triple, d_law_room, d_law_faces, d_law_number, d_law_holds, d_law_ints, d_law_row, d_law_said, d_law_terms, d_law_same, d_law_passed, d_law_grown, d_law_of_terms, d_law_listed, d_law_rows_of, d_law_led, d_law_chain_right, d_law]
def fn : List He.DefD := fn0 ++ fn1 ++ fn2
def fs0 : List FX.StD := [t_Term_unknown, t_Term_constant]
def fs : List FX.StD := fs0
def fa0 : List He.Fa := [.glo "_wall", .glo "LessError", .glo "NoShare", .glo "NoUnknown", .glo "NotStraight", .glo "is_integer", .glo "common_divisor", .glo "Share", .cls "Share", .meth "Share" "__init__", .meth "Share" "__add__", .meth "Share" "__radd__", .meth "Share" "__sub__", .meth "Share" "__rsub__", .meth "Share" "__mul__", .meth "Share" "__rmul__", .meth "Share" "__neg__", .meth "Share" "__abs__", .meth "Share" "__eq__", .meth "Share" "__lt__", .meth "Share" "__le__", .meth "Share" "__gt__", .meth "Share" "__ge__", .meth "Share" "__str__", .meth "Share" "over", .mkr "Share", .noat "Share" "bottom", .noat "Share" "top", .glo "is_number", .glo "as_share"]
def fa1 : List He.Fa := [.glo "worth_of", .glo "Row", .cls "Row", .meth "Row" "__init__", .meth "Row" "__eq__", .meth "Row" "__invert__", .meth "Row" "holds", .meth "Row" "put", .mkr "Row", .noat "Row" "strict", .noat "Row" "term", .glo "whole_factor", .int "UNKNOWNS" 3, .glo "Term", .cls "Term", .meth "Term" "__init__", .meth "Term" "__add__", .meth "Term" "__radd__", .meth "Term" "__sub__", .meth "Term" "__rsub__", .meth "Term" "__mul__", .meth "Term" "__rmul__", .meth "Term" "__neg__", .meth "Term" "__eq__", .meth "Term" "__lt__", .meth "Term" "__le__", .meth "Term" "__gt__", .meth "Term" "__ge__", .meth "Term" "scaled", .meth "Term" "over"]
def fa2 : List He.Fa := [.meth "Term" "put", .meth "Term" "at", .mkr "Term", .noat "Term" "number", .noat "Term" "times", .glo "is_worth", .glo "as_term", .glo "leaves", .glo "depth", .glo "walk", .glo "_law_source", .glo "_law_draw", .glo "_law_pick", .glo "_law_less", .glo "_law_middle", .glo "_law_worths", .glo "_law_root", .glo "_law_fixed", .glo "_law_line", .glo "_law_meet", .glo "_law_plane", .glo "_law_det", .glo "_law_triple", .glo "_law_room", .glo "_law_faces", .glo "_law_number", .glo "_law_holds", .glo "_law_ints", .glo "_law_row", .glo "_law_said"]
def fa3 : List He.Fa := [.glo "_law_terms", .glo "_law_same", .glo "_law_passed", .glo "_law_grown", .glo "_law_of_terms", .glo "_law_listed", .glo "_law_rows_of", .glo "_law_led", .glo "_law_chain_right", .glo "law", .free "NotImplemented", .free "ValueError", .free "abs", .free "all", .free "bool", .free "enumerate", .free "int", .free "isinstance", .free "len", .free "list", .free "max", .free "min", .free "range", .free "staticmethod", .free "str", .free "super", .free "tuple", .free "zip"]
def fa : List He.Fa := fa0 ++ fa1 ++ fa2 ++ fa3
def fx0 : List FX.Fx := [.cl "Share", .sf "Share", .fnd "Share" "__ne__" "object.__ne__", .subT "Share" "object" true, .mro2 "Share", .rno "Share" "__iadd__", .rno "Share" "__isub__", .rno "Share" "__imul__", .kitT "int" "Share" false, .kitB "Share" "int" false, .kitT "bool" "Share" false, .kitB "Share" "bool" false, .kitT "str" "Share" false, .kitB "Share" "str" false, .kitT "NoneType" "Share" false, .kitB "Share" "NoneType" false, .kitT "list" "Share" false, .kitB "Share" "list" false, .kitT "tuple" "Share" false, .kitB "Share" "tuple" false, .kitT "dict" "Share" false, .kitB "Share" "dict" false, .subT "Share" "bool" false, .subT "Share" "str" false, .subT "Share" "NoneType" false, .subT "Share" "list" false, .subT "Share" "tuple" false, .subT "Share" "dict" false, .subT "Share" "int" false, .cl "Row"]
def fx1 : List FX.Fx := [.sf "Row", .fnd "Row" "__ne__" "object.__ne__", .subT "Row" "object" true, .mro2 "Row", .rno "Row" "__iadd__", .rno "Row" "__isub__", .rno "Row" "__imul__", .kitT "int" "Row" false, .kitB "Row" "int" false, .kitT "bool" "Row" false, .kitB "Row" "bool" false, .kitT "str" "Row" false, .kitB "Row" "str" false, .kitT "NoneType" "Row" false, .kitB "Row" "NoneType" false, .kitT "list" "Row" false, .kitB "Row" "list" false, .kitT "tuple" "Row" false, .kitB "Row" "tuple" false, .kitT "dict" "Row" false, .kitB "Row" "dict" false, .subT "Row" "bool" false, .subT "Row" "str" false, .subT "Row" "NoneType" false, .subT "Row" "list" false, .subT "Row" "tuple" false, .subT "Row" "dict" false, .subT "Row" "int" false, .cl "Term", .sf "Term"]
def fx2 : List FX.Fx := [.fnd "Term" "__ne__" "object.__ne__", .subT "Term" "object" true, .mro2 "Term", .rno "Term" "__iadd__", .rno "Term" "__isub__", .rno "Term" "__imul__", .stat "Term" "unknown", .stat "Term" "constant", .kitT "int" "Term" false, .kitB "Term" "int" false, .kitT "bool" "Term" false, .kitB "Term" "bool" false, .kitT "str" "Term" false, .kitB "Term" "str" false, .kitT "NoneType" "Term" false, .kitB "Term" "NoneType" false, .kitT "list" "Term" false, .kitB "Term" "list" false, .kitT "tuple" "Term" false, .kitB "Term" "tuple" false, .kitT "dict" "Term" false, .kitB "Term" "dict" false, .subT "Term" "bool" false, .subT "Term" "str" false, .subT "Term" "NoneType" false, .subT "Term" "list" false, .subT "Term" "tuple" false, .subT "Term" "dict" false, .subT "Term" "int" false, .kit "Share" "Share" true]
def fx3 : List FX.Fx := [.kit "Share" "Row" false, .sub "Share" "Row" false, .ne "Share" "Row", .kit "Share" "Term" false, .sub "Share" "Term" false, .ne "Share" "Term", .kit "Row" "Share" false, .sub "Row" "Share" false, .ne "Row" "Share", .kit "Row" "Row" true, .kit "Row" "Term" false, .sub "Row" "Term" false, .ne "Row" "Term", .kit "Term" "Share" false, .sub "Term" "Share" false, .ne "Term" "Share", .kit "Term" "Row" false, .sub "Term" "Row" false, .ne "Term" "Row", .kit "Term" "Term" true]
def fx : List FX.Fx := fx0 ++ fx1 ++ fx2 ++ fx3
def loose0 : List PySem.Str := ["_wall", "LessError", "NoShare", "NoUnknown", "NotStraight", "is_integer", "common_divisor", "Share", "is_number", "as_share", "worth_of", "Row", "whole_factor", "UNKNOWNS", "Term", "is_worth", "as_term", "leaves", "depth", "walk", "_law_source", "_law_draw", "_law_pick", "_law_less", "_law_middle", "_law_worths", "_law_root", "_law_fixed", "_law_line", "_law_meet"]
def loose1 : List PySem.Str := ["_law_plane", "_law_det", "_law_triple", "_law_room", "_law_faces", "_law_number", "_law_holds", "_law_ints", "_law_row", "_law_said", "_law_terms", "_law_same", "_law_passed", "_law_grown", "_law_of_terms", "_law_listed", "_law_rows_of", "_law_led", "_law_chain_right"]
def loose : List PySem.Str := loose0 ++ loose1
/-- what the top has written -/
structure Txt (K : PySem.W.Frag) (mg : Str → Option Value) : Prop where
  g_wall : mg "_wall" = some (.ref (He.ga K "_wall"))
  F_wall : ∃ fd, FunD K "_wall" "_wall" (defArgs s_wall) (defBody s_wall) (defScope s_wall) [] [] (He.ga K "_wall") fd
  g_LessError : mg "LessError" = some (.ref (He.ga K "LessError"))
  g_NoShare : mg "NoShare" = some (.ref (He.ga K "NoShare"))
  g_NoUnknown : mg "NoUnknown" = some (.ref (He.ga K "NoUnknown"))
  g_NotStraight : mg "NotStraight" = some (.ref (He.ga K "NotStraight"))
  g_is_integer : mg "is_integer" = some (.ref (He.ga K "is_integer"))
  F_is_integer : ∃ fd, FunD K "is_integer" "is_integer" (defArgs s_is_integer) (defBody s_is_integer) (defScope s_is_integer) [] [] (He.ga K "is_integer") fd
  g_common_divisor : mg "common_divisor" = some (.ref (He.ga K "common_divisor"))
  F_common_divisor : ∃ fd, FunD K "common_divisor" "common_divisor" (defArgs s_common_divisor) (defBody s_common_divisor) (defScope s_common_divisor) [] [] (He.ga K "common_divisor") fd
  g_Share : mg "Share" = some (.ref (He.ga K "Share"))
  c_Share : Cls K (He.ga K "Share")
  i_Share : DL.ClI K (He.ga K "Share")
  sf_Share : PySem.W.selfFirst K (He.ga K "Share") = true
  fne_Share : PySem.W.findIn K (.ref (He.ga K "Share")) "__ne__" = some (some (.builtin "object.__ne__"))
  su_Share_object : PySem.W.subIn K (.ref (He.ga K "Share")) (.type "object") = some true
  mro_Share : ∃ cd, PySem.W.clsIn K (He.ga K "Share") = some cd ∧ cd.mro = [.ref (He.ga K "Share"), .type "object"]
  noiadd_Share : PySem.W.findIn K (.ref (He.ga K "Share")) "__iadd__" = some none
  noisub_Share : PySem.W.findIn K (.ref (He.ga K "Share")) "__isub__" = some none
  noimul_Share : PySem.W.findIn K (.ref (He.ga K "Share")) "__imul__" = some none
  F_Share_init : ∃ fd, FunD K "__init__" "Share.__init__" (defArgs s_Share_init) (defBody s_Share_init) (defScope s_Share_init) [.int 1] [] (He.ma K (He.ga K "Share") "__init__") fd
  m_Share_init : Meth K (He.ga K "Share") "__init__" (He.ma K (He.ga K "Share") "__init__")
  F_Share_add : ∃ fd, FunD K "__add__" "Share.__add__" (defArgs s_Share_add) (defBody s_Share_add) (defScope s_Share_add) [] [] (He.ma K (He.ga K "Share") "__add__") fd
  m_Share_add : Meth K (He.ga K "Share") "__add__" (He.ma K (He.ga K "Share") "__add__")
  F_Share_radd : ∃ fd, FunD K "__radd__" "Share.__radd__" (defArgs s_Share_radd) (defBody s_Share_radd) (defScope s_Share_radd) [] [] (He.ma K (He.ga K "Share") "__radd__") fd
  m_Share_radd : Meth K (He.ga K "Share") "__radd__" (He.ma K (He.ga K "Share") "__radd__")
  F_Share_sub : ∃ fd, FunD K "__sub__" "Share.__sub__" (defArgs s_Share_sub) (defBody s_Share_sub) (defScope s_Share_sub) [] [] (He.ma K (He.ga K "Share") "__sub__") fd
  m_Share_sub : Meth K (He.ga K "Share") "__sub__" (He.ma K (He.ga K "Share") "__sub__")
  F_Share_rsub : ∃ fd, FunD K "__rsub__" "Share.__rsub__" (defArgs s_Share_rsub) (defBody s_Share_rsub) (defScope s_Share_rsub) [] [] (He.ma K (He.ga K "Share") "__rsub__") fd
  m_Share_rsub : Meth K (He.ga K "Share") "__rsub__" (He.ma K (He.ga K "Share") "__rsub__")
  F_Share_mul : ∃ fd, FunD K "__mul__" "Share.__mul__" (defArgs s_Share_mul) (defBody s_Share_mul) (defScope s_Share_mul) [] [] (He.ma K (He.ga K "Share") "__mul__") fd
  m_Share_mul : Meth K (He.ga K "Share") "__mul__" (He.ma K (He.ga K "Share") "__mul__")
  F_Share_rmul : ∃ fd, FunD K "__rmul__" "Share.__rmul__" (defArgs s_Share_rmul) (defBody s_Share_rmul) (defScope s_Share_rmul) [] [] (He.ma K (He.ga K "Share") "__rmul__") fd
  m_Share_rmul : Meth K (He.ga K "Share") "__rmul__" (He.ma K (He.ga K "Share") "__rmul__")
  F_Share_neg : ∃ fd, FunD K "__neg__" "Share.__neg__" (defArgs s_Share_neg) (defBody s_Share_neg) (defScope s_Share_neg) [] [] (He.ma K (He.ga K "Share") "__neg__") fd
  m_Share_neg : Meth K (He.ga K "Share") "__neg__" (He.ma K (He.ga K "Share") "__neg__")
  F_Share_abs : ∃ fd, FunD K "__abs__" "Share.__abs__" (defArgs s_Share_abs) (defBody s_Share_abs) (defScope s_Share_abs) [] [] (He.ma K (He.ga K "Share") "__abs__") fd
  m_Share_abs : Meth K (He.ga K "Share") "__abs__" (He.ma K (He.ga K "Share") "__abs__")
  F_Share_eq : ∃ fd, FunD K "__eq__" "Share.__eq__" (defArgs s_Share_eq) (defBody s_Share_eq) (defScope s_Share_eq) [] [] (He.ma K (He.ga K "Share") "__eq__") fd
  m_Share_eq : Meth K (He.ga K "Share") "__eq__" (He.ma K (He.ga K "Share") "__eq__")
  F_Share_lt : ∃ fd, FunD K "__lt__" "Share.__lt__" (defArgs s_Share_lt) (defBody s_Share_lt) (defScope s_Share_lt) [] [] (He.ma K (He.ga K "Share") "__lt__") fd
  m_Share_lt : Meth K (He.ga K "Share") "__lt__" (He.ma K (He.ga K "Share") "__lt__")
  F_Share_le : ∃ fd, FunD K "__le__" "Share.__le__" (defArgs s_Share_le) (defBody s_Share_le) (defScope s_Share_le) [] [] (He.ma K (He.ga K "Share") "__le__") fd
  m_Share_le : Meth K (He.ga K "Share") "__le__" (He.ma K (He.ga K "Share") "__le__")
  F_Share_gt : ∃ fd, FunD K "__gt__" "Share.__gt__" (defArgs s_Share_gt) (defBody s_Share_gt) (defScope s_Share_gt) [] [] (He.ma K (He.ga K "Share") "__gt__") fd
  m_Share_gt : Meth K (He.ga K "Share") "__gt__" (He.ma K (He.ga K "Share") "__gt__")
  F_Share_ge : ∃ fd, FunD K "__ge__" "Share.__ge__" (defArgs s_Share_ge) (defBody s_Share_ge) (defScope s_Share_ge) [] [] (He.ma K (He.ga K "Share") "__ge__") fd
  m_Share_ge : Meth K (He.ga K "Share") "__ge__" (He.ma K (He.ga K "Share") "__ge__")
  F_Share_str : ∃ fd, FunD K "__str__" "Share.__str__" (defArgs s_Share_str) (defBody s_Share_str) (defScope s_Share_str) [] [] (He.ma K (He.ga K "Share") "__str__") fd
  m_Share_str : Meth K (He.ga K "Share") "__str__" (He.ma K (He.ga K "Share") "__str__")
  F_Share_over : ∃ fd, FunD K "over" "Share.over" (defArgs s_Share_over) (defBody s_Share_over) (defScope s_Share_over) [] [] (He.ma K (He.ga K "Share") "over") fd
  m_Share_over : Meth K (He.ga K "Share") "over" (He.ma K (He.ga K "Share") "over")
  k_Share : Mk K (He.ga K "Share") (He.ma K (He.ga K "Share") "__init__")
  a_Share_bottom : NoAttr K (He.ga K "Share") "bottom"
  a_Share_top : NoAttr K (He.ga K "Share") "top"
  kt_int_Share : PySem.W.kitOne K (.type "int") (.ref (He.ga K "Share")) = some false
  kb_Share_int : PySem.W.kitOne K (.ref (He.ga K "Share")) (.type "int") = some false
  kt_bool_Share : PySem.W.kitOne K (.type "bool") (.ref (He.ga K "Share")) = some false
  kb_Share_bool : PySem.W.kitOne K (.ref (He.ga K "Share")) (.type "bool") = some false
  kt_str_Share : PySem.W.kitOne K (.type "str") (.ref (He.ga K "Share")) = some false
  kt_NoneType_Share : PySem.W.kitOne K (.type "NoneType") (.ref (He.ga K "Share")) = some false
  kt_list_Share : PySem.W.kitOne K (.type "list") (.ref (He.ga K "Share")) = some false
  kb_Share_list : PySem.W.kitOne K (.ref (He.ga K "Share")) (.type "list") = some false
  kt_tuple_Share : PySem.W.kitOne K (.type "tuple") (.ref (He.ga K "Share")) = some false
  kb_Share_tuple : PySem.W.kitOne K (.ref (He.ga K "Share")) (.type "tuple") = some false
  kt_dict_Share : PySem.W.kitOne K (.type "dict") (.ref (He.ga K "Share")) = some false
  su_Share_bool : PySem.W.subIn K (.ref (He.ga K "Share")) (.type "bool") = some false
  su_Share_str : PySem.W.subIn K (.ref (He.ga K "Share")) (.type "str") = some false
  su_Share_NoneType : PySem.W.subIn K (.ref (He.ga K "Share")) (.type "NoneType") = some false
  su_Share_list : PySem.W.subIn K (.ref (He.ga K "Share")) (.type "list") = some false
  su_Share_tuple : PySem.W.subIn K (.ref (He.ga K "Share")) (.type "tuple") = some false
  su_Share_dict : PySem.W.subIn K (.ref (He.ga K "Share")) (.type "dict") = some false
  su_Share_int : PySem.W.subIn K (.ref (He.ga K "Share")) (.type "int") = some false
  g_is_number : mg "is_number" = some (.ref (He.ga K "is_number"))
  F_is_number : ∃ fd, FunD K "is_number" "is_number" (defArgs s_is_number) (defBody s_is_number) (defScope s_is_number) [] [] (He.ga K "is_number") fd
  g_as_share : mg "as_share" = some (.ref (He.ga K "as_share"))
  F_as_share : ∃ fd, FunD K "as_share" "as_share" (defArgs s_as_share) (defBody s_as_share) (defScope s_as_share) [] [] (He.ga K "as_share") fd
  g_worth_of : mg "worth_of" = some (.ref (He.ga K "worth_of"))
  F_worth_of : ∃ fd, FunD K "worth_of" "worth_of" (defArgs s_worth_of) (defBody s_worth_of) (defScope s_worth_of) [] [] (He.ga K "worth_of") fd
  g_Row : mg "Row" = some (.ref (He.ga K "Row"))
  c_Row : Cls K (He.ga K "Row")
  i_Row : DL.ClI K (He.ga K "Row")
  sf_Row : PySem.W.selfFirst K (He.ga K "Row") = true
  fne_Row : PySem.W.findIn K (.ref (He.ga K "Row")) "__ne__" = some (some (.builtin "object.__ne__"))
  su_Row_object : PySem.W.subIn K (.ref (He.ga K "Row")) (.type "object") = some true
  mro_Row : ∃ cd, PySem.W.clsIn K (He.ga K "Row") = some cd ∧ cd.mro = [.ref (He.ga K "Row"), .type "object"]
  noiadd_Row : PySem.W.findIn K (.ref (He.ga K "Row")) "__iadd__" = some none
  noisub_Row : PySem.W.findIn K (.ref (He.ga K "Row")) "__isub__" = some none
  noimul_Row : PySem.W.findIn K (.ref (He.ga K "Row")) "__imul__" = some none
  F_Row_init : ∃ fd, FunD K "__init__" "Row.__init__" (defArgs s_Row_init) (defBody s_Row_init) (defScope s_Row_init) [] [] (He.ma K (He.ga K "Row") "__init__") fd
  m_Row_init : Meth K (He.ga K "Row") "__init__" (He.ma K (He.ga K "Row") "__init__")
  F_Row_eq : ∃ fd, FunD K "__eq__" "Row.__eq__" (defArgs s_Row_eq) (defBody s_Row_eq) (defScope s_Row_eq) [] [] (He.ma K (He.ga K "Row") "__eq__") fd
  m_Row_eq : Meth K (He.ga K "Row") "__eq__" (He.ma K (He.ga K "Row") "__eq__")
  F_Row_invert : ∃ fd, FunD K "__invert__" "Row.__invert__" (defArgs s_Row_invert) (defBody s_Row_invert) (defScope s_Row_invert) [] [] (He.ma K (He.ga K "Row") "__invert__") fd
  m_Row_invert : Meth K (He.ga K "Row") "__invert__" (He.ma K (He.ga K "Row") "__invert__")
  F_Row_holds : ∃ fd, FunD K "holds" "Row.holds" (defArgs s_Row_holds) (defBody s_Row_holds) (defScope s_Row_holds) [] [] (He.ma K (He.ga K "Row") "holds") fd
  m_Row_holds : Meth K (He.ga K "Row") "holds" (He.ma K (He.ga K "Row") "holds")
  F_Row_put : ∃ fd, FunD K "put" "Row.put" (defArgs s_Row_put) (defBody s_Row_put) (defScope s_Row_put) [] [] (He.ma K (He.ga K "Row") "put") fd
  m_Row_put : Meth K (He.ga K "Row") "put" (He.ma K (He.ga K "Row") "put")
  k_Row : Mk K (He.ga K "Row") (He.ma K (He.ga K "Row") "__init__")
  a_Row_strict : NoAttr K (He.ga K "Row") "strict"
  a_Row_term : NoAttr K (He.ga K "Row") "term"
  kt_int_Row : PySem.W.kitOne K (.type "int") (.ref (He.ga K "Row")) = some false
  kb_Row_int : PySem.W.kitOne K (.ref (He.ga K "Row")) (.type "int") = some false
  kt_bool_Row : PySem.W.kitOne K (.type "bool") (.ref (He.ga K "Row")) = some false
  kb_Row_bool : PySem.W.kitOne K (.ref (He.ga K "Row")) (.type "bool") = some false
  kt_str_Row : PySem.W.kitOne K (.type "str") (.ref (He.ga K "Row")) = some false
  kt_NoneType_Row : PySem.W.kitOne K (.type "NoneType") (.ref (He.ga K "Row")) = some false
  kt_list_Row : PySem.W.kitOne K (.type "list") (.ref (He.ga K "Row")) = some false
  kb_Row_list : PySem.W.kitOne K (.ref (He.ga K "Row")) (.type "list") = some false
  kt_tuple_Row : PySem.W.kitOne K (.type "tuple") (.ref (He.ga K "Row")) = some false
  kb_Row_tuple : PySem.W.kitOne K (.ref (He.ga K "Row")) (.type "tuple") = some false
  kt_dict_Row : PySem.W.kitOne K (.type "dict") (.ref (He.ga K "Row")) = some false
  su_Row_bool : PySem.W.subIn K (.ref (He.ga K "Row")) (.type "bool") = some false
  su_Row_str : PySem.W.subIn K (.ref (He.ga K "Row")) (.type "str") = some false
  su_Row_NoneType : PySem.W.subIn K (.ref (He.ga K "Row")) (.type "NoneType") = some false
  su_Row_list : PySem.W.subIn K (.ref (He.ga K "Row")) (.type "list") = some false
  su_Row_tuple : PySem.W.subIn K (.ref (He.ga K "Row")) (.type "tuple") = some false
  su_Row_dict : PySem.W.subIn K (.ref (He.ga K "Row")) (.type "dict") = some false
  su_Row_int : PySem.W.subIn K (.ref (He.ga K "Row")) (.type "int") = some false
  g_whole_factor : mg "whole_factor" = some (.ref (He.ga K "whole_factor"))
  F_whole_factor : ∃ fd, FunD K "whole_factor" "whole_factor" (defArgs s_whole_factor) (defBody s_whole_factor) (defScope s_whole_factor) [] [] (He.ga K "whole_factor") fd
  v_UNKNOWNS : ∃ t, mg "UNKNOWNS" = some (.int 3 t)
  g_Term : mg "Term" = some (.ref (He.ga K "Term"))
  c_Term : Cls K (He.ga K "Term")
  i_Term : DL.ClI K (He.ga K "Term")
  sf_Term : PySem.W.selfFirst K (He.ga K "Term") = true
  fne_Term : PySem.W.findIn K (.ref (He.ga K "Term")) "__ne__" = some (some (.builtin "object.__ne__"))
  su_Term_object : PySem.W.subIn K (.ref (He.ga K "Term")) (.type "object") = some true
  mro_Term : ∃ cd, PySem.W.clsIn K (He.ga K "Term") = some cd ∧ cd.mro = [.ref (He.ga K "Term"), .type "object"]
  noiadd_Term : PySem.W.findIn K (.ref (He.ga K "Term")) "__iadd__" = some none
  noisub_Term : PySem.W.findIn K (.ref (He.ga K "Term")) "__isub__" = some none
  noimul_Term : PySem.W.findIn K (.ref (He.ga K "Term")) "__imul__" = some none
  F_Term_init : ∃ fd, FunD K "__init__" "Term.__init__" (defArgs s_Term_init) (defBody s_Term_init) (defScope s_Term_init) [] [] (He.ma K (He.ga K "Term") "__init__") fd
  m_Term_init : Meth K (He.ga K "Term") "__init__" (He.ma K (He.ga K "Term") "__init__")
  F_Term_unknown : ∃ fd, FunD K "unknown" "Term.unknown" (defArgs s_Term_unknown) (defBody s_Term_unknown) (defScope s_Term_unknown) [] [] (FX.sAd K "Term" "unknown") fd
  st_Term_unknown : FX.StM K (He.ga K "Term") "unknown" (FX.sPt K "Term" "unknown") (FX.sAd K "Term" "unknown")
  F_Term_constant : ∃ fd, FunD K "constant" "Term.constant" (defArgs s_Term_constant) (defBody s_Term_constant) (defScope s_Term_constant) [] [] (FX.sAd K "Term" "constant") fd
  st_Term_constant : FX.StM K (He.ga K "Term") "constant" (FX.sPt K "Term" "constant") (FX.sAd K "Term" "constant")
  F_Term_add : ∃ fd, FunD K "__add__" "Term.__add__" (defArgs s_Term_add) (defBody s_Term_add) (defScope s_Term_add) [] [] (He.ma K (He.ga K "Term") "__add__") fd
  m_Term_add : Meth K (He.ga K "Term") "__add__" (He.ma K (He.ga K "Term") "__add__")
  F_Term_radd : ∃ fd, FunD K "__radd__" "Term.__radd__" (defArgs s_Term_radd) (defBody s_Term_radd) (defScope s_Term_radd) [] [] (He.ma K (He.ga K "Term") "__radd__") fd
  m_Term_radd : Meth K (He.ga K "Term") "__radd__" (He.ma K (He.ga K "Term") "__radd__")
  F_Term_sub : ∃ fd, FunD K "__sub__" "Term.__sub__" (defArgs s_Term_sub) (defBody s_Term_sub) (defScope s_Term_sub) [] [] (He.ma K (He.ga K "Term") "__sub__") fd
  m_Term_sub : Meth K (He.ga K "Term") "__sub__" (He.ma K (He.ga K "Term") "__sub__")
  F_Term_rsub : ∃ fd, FunD K "__rsub__" "Term.__rsub__" (defArgs s_Term_rsub) (defBody s_Term_rsub) (defScope s_Term_rsub) [] [] (He.ma K (He.ga K "Term") "__rsub__") fd
  m_Term_rsub : Meth K (He.ga K "Term") "__rsub__" (He.ma K (He.ga K "Term") "__rsub__")
  F_Term_mul : ∃ fd, FunD K "__mul__" "Term.__mul__" (defArgs s_Term_mul) (defBody s_Term_mul) (defScope s_Term_mul) [] [] (He.ma K (He.ga K "Term") "__mul__") fd
  m_Term_mul : Meth K (He.ga K "Term") "__mul__" (He.ma K (He.ga K "Term") "__mul__")
  F_Term_rmul : ∃ fd, FunD K "__rmul__" "Term.__rmul__" (defArgs s_Term_rmul) (defBody s_Term_rmul) (defScope s_Term_rmul) [] [] (He.ma K (He.ga K "Term") "__rmul__") fd
  m_Term_rmul : Meth K (He.ga K "Term") "__rmul__" (He.ma K (He.ga K "Term") "__rmul__")
  F_Term_neg : ∃ fd, FunD K "__neg__" "Term.__neg__" (defArgs s_Term_neg) (defBody s_Term_neg) (defScope s_Term_neg) [] [] (He.ma K (He.ga K "Term") "__neg__") fd
  m_Term_neg : Meth K (He.ga K "Term") "__neg__" (He.ma K (He.ga K "Term") "__neg__")
  F_Term_eq : ∃ fd, FunD K "__eq__" "Term.__eq__" (defArgs s_Term_eq) (defBody s_Term_eq) (defScope s_Term_eq) [] [] (He.ma K (He.ga K "Term") "__eq__") fd
  m_Term_eq : Meth K (He.ga K "Term") "__eq__" (He.ma K (He.ga K "Term") "__eq__")
  F_Term_lt : ∃ fd, FunD K "__lt__" "Term.__lt__" (defArgs s_Term_lt) (defBody s_Term_lt) (defScope s_Term_lt) [] [] (He.ma K (He.ga K "Term") "__lt__") fd
  m_Term_lt : Meth K (He.ga K "Term") "__lt__" (He.ma K (He.ga K "Term") "__lt__")
  F_Term_le : ∃ fd, FunD K "__le__" "Term.__le__" (defArgs s_Term_le) (defBody s_Term_le) (defScope s_Term_le) [] [] (He.ma K (He.ga K "Term") "__le__") fd
  m_Term_le : Meth K (He.ga K "Term") "__le__" (He.ma K (He.ga K "Term") "__le__")
  F_Term_gt : ∃ fd, FunD K "__gt__" "Term.__gt__" (defArgs s_Term_gt) (defBody s_Term_gt) (defScope s_Term_gt) [] [] (He.ma K (He.ga K "Term") "__gt__") fd
  m_Term_gt : Meth K (He.ga K "Term") "__gt__" (He.ma K (He.ga K "Term") "__gt__")
  F_Term_ge : ∃ fd, FunD K "__ge__" "Term.__ge__" (defArgs s_Term_ge) (defBody s_Term_ge) (defScope s_Term_ge) [] [] (He.ma K (He.ga K "Term") "__ge__") fd
  m_Term_ge : Meth K (He.ga K "Term") "__ge__" (He.ma K (He.ga K "Term") "__ge__")
  F_Term_scaled : ∃ fd, FunD K "scaled" "Term.scaled" (defArgs s_Term_scaled) (defBody s_Term_scaled) (defScope s_Term_scaled) [] [] (He.ma K (He.ga K "Term") "scaled") fd
  m_Term_scaled : Meth K (He.ga K "Term") "scaled" (He.ma K (He.ga K "Term") "scaled")
  F_Term_over : ∃ fd, FunD K "over" "Term.over" (defArgs s_Term_over) (defBody s_Term_over) (defScope s_Term_over) [] [] (He.ma K (He.ga K "Term") "over") fd
  m_Term_over : Meth K (He.ga K "Term") "over" (He.ma K (He.ga K "Term") "over")
  F_Term_put : ∃ fd, FunD K "put" "Term.put" (defArgs s_Term_put) (defBody s_Term_put) (defScope s_Term_put) [] [] (He.ma K (He.ga K "Term") "put") fd
  m_Term_put : Meth K (He.ga K "Term") "put" (He.ma K (He.ga K "Term") "put")
  F_Term_at : ∃ fd, FunD K "at" "Term.at" (defArgs s_Term_at) (defBody s_Term_at) (defScope s_Term_at) [] [] (He.ma K (He.ga K "Term") "at") fd
  m_Term_at : Meth K (He.ga K "Term") "at" (He.ma K (He.ga K "Term") "at")
  k_Term : Mk K (He.ga K "Term") (He.ma K (He.ga K "Term") "__init__")
  a_Term_number : NoAttr K (He.ga K "Term") "number"
  a_Term_times : NoAttr K (He.ga K "Term") "times"
  kt_int_Term : PySem.W.kitOne K (.type "int") (.ref (He.ga K "Term")) = some false
  kb_Term_int : PySem.W.kitOne K (.ref (He.ga K "Term")) (.type "int") = some false
  kt_bool_Term : PySem.W.kitOne K (.type "bool") (.ref (He.ga K "Term")) = some false
  kb_Term_bool : PySem.W.kitOne K (.ref (He.ga K "Term")) (.type "bool") = some false
  kt_str_Term : PySem.W.kitOne K (.type "str") (.ref (He.ga K "Term")) = some false
  kt_NoneType_Term : PySem.W.kitOne K (.type "NoneType") (.ref (He.ga K "Term")) = some false
  kt_list_Term : PySem.W.kitOne K (.type "list") (.ref (He.ga K "Term")) = some false
  kb_Term_list : PySem.W.kitOne K (.ref (He.ga K "Term")) (.type "list") = some false
  kt_tuple_Term : PySem.W.kitOne K (.type "tuple") (.ref (He.ga K "Term")) = some false
  kb_Term_tuple : PySem.W.kitOne K (.ref (He.ga K "Term")) (.type "tuple") = some false
  kt_dict_Term : PySem.W.kitOne K (.type "dict") (.ref (He.ga K "Term")) = some false
  su_Term_bool : PySem.W.subIn K (.ref (He.ga K "Term")) (.type "bool") = some false
  su_Term_str : PySem.W.subIn K (.ref (He.ga K "Term")) (.type "str") = some false
  su_Term_NoneType : PySem.W.subIn K (.ref (He.ga K "Term")) (.type "NoneType") = some false
  su_Term_list : PySem.W.subIn K (.ref (He.ga K "Term")) (.type "list") = some false
  su_Term_tuple : PySem.W.subIn K (.ref (He.ga K "Term")) (.type "tuple") = some false
  su_Term_dict : PySem.W.subIn K (.ref (He.ga K "Term")) (.type "dict") = some false
  su_Term_int : PySem.W.subIn K (.ref (He.ga K "Term")) (.type "int") = some false
  g_is_worth : mg "is_worth" = some (.ref (He.ga K "is_worth"))
  F_is_worth : ∃ fd, FunD K "is_worth" "is_worth" (defArgs s_is_worth) (defBody s_is_worth) (defScope s_is_worth) [] [] (He.ga K "is_worth") fd
  g_as_term : mg "as_term" = some (.ref (He.ga K "as_term"))
  F_as_term : ∃ fd, FunD K "as_term" "as_term" (defArgs s_as_term) (defBody s_as_term) (defScope s_as_term) [] [] (He.ga K "as_term") fd
  g_leaves : mg "leaves" = some (.ref (He.ga K "leaves"))
  F_leaves : ∃ fd, FunD K "leaves" "leaves" (defArgs s_leaves) (defBody s_leaves) (defScope s_leaves) [] [] (He.ga K "leaves") fd
  g_depth : mg "depth" = some (.ref (He.ga K "depth"))
  F_depth : ∃ fd, FunD K "depth" "depth" (defArgs s_depth) (defBody s_depth) (defScope s_depth) [] [] (He.ga K "depth") fd
  g_walk : mg "walk" = some (.ref (He.ga K "walk"))
  F_walk : ∃ fd, FunD K "walk" "walk" (defArgs s_walk) (defBody s_walk) (defScope s_walk) [] [] (He.ga K "walk") fd
  g_law_source : mg "_law_source" = some (.ref (He.ga K "_law_source"))
  F_law_source : ∃ fd, FunD K "_law_source" "_law_source" (defArgs s_law_source) (defBody s_law_source) (defScope s_law_source) [] [] (He.ga K "_law_source") fd
  g_law_draw : mg "_law_draw" = some (.ref (He.ga K "_law_draw"))
  F_law_draw : ∃ fd, FunD K "_law_draw" "_law_draw" (defArgs s_law_draw) (defBody s_law_draw) (defScope s_law_draw) [] [] (He.ga K "_law_draw") fd
  g_law_pick : mg "_law_pick" = some (.ref (He.ga K "_law_pick"))
  F_law_pick : ∃ fd, FunD K "_law_pick" "_law_pick" (defArgs s_law_pick) (defBody s_law_pick) (defScope s_law_pick) [] [] (He.ga K "_law_pick") fd
  g_law_less : mg "_law_less" = some (.ref (He.ga K "_law_less"))
  F_law_less : ∃ fd, FunD K "_law_less" "_law_less" (defArgs s_law_less) (defBody s_law_less) (defScope s_law_less) [] [] (He.ga K "_law_less") fd
  g_law_middle : mg "_law_middle" = some (.ref (He.ga K "_law_middle"))
  F_law_middle : ∃ fd, FunD K "_law_middle" "_law_middle" (defArgs s_law_middle) (defBody s_law_middle) (defScope s_law_middle) [] [] (He.ga K "_law_middle") fd
  g_law_worths : mg "_law_worths" = some (.ref (He.ga K "_law_worths"))
  F_law_worths : ∃ fd, FunD K "_law_worths" "_law_worths" (defArgs s_law_worths) (defBody s_law_worths) (defScope s_law_worths) [] [] (He.ga K "_law_worths") fd
  g_law_root : mg "_law_root" = some (.ref (He.ga K "_law_root"))
  F_law_root : ∃ fd, FunD K "_law_root" "_law_root" (defArgs s_law_root) (defBody s_law_root) (defScope s_law_root) [] [] (He.ga K "_law_root") fd
  g_law_fixed : mg "_law_fixed" = some (.ref (He.ga K "_law_fixed"))
  F_law_fixed : ∃ fd, FunD K "_law_fixed" "_law_fixed" (defArgs s_law_fixed) (defBody s_law_fixed) (defScope s_law_fixed) [] [] (He.ga K "_law_fixed") fd
  g_law_line : mg "_law_line" = some (.ref (He.ga K "_law_line"))
  F_law_line : ∃ fd, FunD K "_law_line" "_law_line" (defArgs s_law_line) (defBody s_law_line) (defScope s_law_line) [] [] (He.ga K "_law_line") fd
  g_law_meet : mg "_law_meet" = some (.ref (He.ga K "_law_meet"))
  F_law_meet : ∃ fd, FunD K "_law_meet" "_law_meet" (defArgs s_law_meet) (defBody s_law_meet) (defScope s_law_meet) [] [] (He.ga K "_law_meet") fd
  g_law_plane : mg "_law_plane" = some (.ref (He.ga K "_law_plane"))
  F_law_plane : ∃ fd, FunD K "_law_plane" "_law_plane" (defArgs s_law_plane) (defBody s_law_plane) (defScope s_law_plane) [] [] (He.ga K "_law_plane") fd
  g_law_det : mg "_law_det" = some (.ref (He.ga K "_law_det"))
  F_law_det : ∃ fd, FunD K "_law_det" "_law_det" (defArgs s_law_det) (defBody s_law_det) (defScope s_law_det) [] [] (He.ga K "_law_det") fd
  g_law_triple : mg "_law_triple" = some (.ref (He.ga K "_law_triple"))
  F_law_triple : ∃ fd, FunD K "_law_triple" "_law_triple" (defArgs s_law_triple) (defBody s_law_triple) (defScope s_law_triple) [] [] (He.ga K "_law_triple") fd
  g_law_room : mg "_law_room" = some (.ref (He.ga K "_law_room"))
  F_law_room : ∃ fd, FunD K "_law_room" "_law_room" (defArgs s_law_room) (defBody s_law_room) (defScope s_law_room) [] [] (He.ga K "_law_room") fd
  g_law_faces : mg "_law_faces" = some (.ref (He.ga K "_law_faces"))
  F_law_faces : ∃ fd, FunD K "_law_faces" "_law_faces" (defArgs s_law_faces) (defBody s_law_faces) (defScope s_law_faces) [] [] (He.ga K "_law_faces") fd
  g_law_number : mg "_law_number" = some (.ref (He.ga K "_law_number"))
  F_law_number : ∃ fd, FunD K "_law_number" "_law_number" (defArgs s_law_number) (defBody s_law_number) (defScope s_law_number) [] [] (He.ga K "_law_number") fd
  g_law_holds : mg "_law_holds" = some (.ref (He.ga K "_law_holds"))
  F_law_holds : ∃ fd, FunD K "_law_holds" "_law_holds" (defArgs s_law_holds) (defBody s_law_holds) (defScope s_law_holds) [] [] (He.ga K "_law_holds") fd
  g_law_ints : mg "_law_ints" = some (.ref (He.ga K "_law_ints"))
  F_law_ints : ∃ fd, FunD K "_law_ints" "_law_ints" (defArgs s_law_ints) (defBody s_law_ints) (defScope s_law_ints) [] [] (He.ga K "_law_ints") fd
  g_law_row : mg "_law_row" = some (.ref (He.ga K "_law_row"))
  F_law_row : ∃ fd, FunD K "_law_row" "_law_row" (defArgs s_law_row) (defBody s_law_row) (defScope s_law_row) [] [] (He.ga K "_law_row") fd
  g_law_said : mg "_law_said" = some (.ref (He.ga K "_law_said"))
  F_law_said : ∃ fd, FunD K "_law_said" "_law_said" (defArgs s_law_said) (defBody s_law_said) (defScope s_law_said) [] [] (He.ga K "_law_said") fd
  g_law_terms : mg "_law_terms" = some (.ref (He.ga K "_law_terms"))
  F_law_terms : ∃ fd, FunD K "_law_terms" "_law_terms" (defArgs s_law_terms) (defBody s_law_terms) (defScope s_law_terms) [] [] (He.ga K "_law_terms") fd
  g_law_same : mg "_law_same" = some (.ref (He.ga K "_law_same"))
  F_law_same : ∃ fd, FunD K "_law_same" "_law_same" (defArgs s_law_same) (defBody s_law_same) (defScope s_law_same) [] [] (He.ga K "_law_same") fd
  g_law_passed : mg "_law_passed" = some (.ref (He.ga K "_law_passed"))
  F_law_passed : ∃ fd, FunD K "_law_passed" "_law_passed" (defArgs s_law_passed) (defBody s_law_passed) (defScope s_law_passed) [] [] (He.ga K "_law_passed") fd
  g_law_grown : mg "_law_grown" = some (.ref (He.ga K "_law_grown"))
  F_law_grown : ∃ fd, FunD K "_law_grown" "_law_grown" (defArgs s_law_grown) (defBody s_law_grown) (defScope s_law_grown) [] [] (He.ga K "_law_grown") fd
  g_law_of_terms : mg "_law_of_terms" = some (.ref (He.ga K "_law_of_terms"))
  F_law_of_terms : ∃ fd, FunD K "_law_of_terms" "_law_of_terms" (defArgs s_law_of_terms) (defBody s_law_of_terms) (defScope s_law_of_terms) [] [] (He.ga K "_law_of_terms") fd
  g_law_listed : mg "_law_listed" = some (.ref (He.ga K "_law_listed"))
  F_law_listed : ∃ fd, FunD K "_law_listed" "_law_listed" (defArgs s_law_listed) (defBody s_law_listed) (defScope s_law_listed) [] [] (He.ga K "_law_listed") fd
  g_law_rows_of : mg "_law_rows_of" = some (.ref (He.ga K "_law_rows_of"))
  F_law_rows_of : ∃ fd, FunD K "_law_rows_of" "_law_rows_of" (defArgs s_law_rows_of) (defBody s_law_rows_of) (defScope s_law_rows_of) [] [] (He.ga K "_law_rows_of") fd
  g_law_led : mg "_law_led" = some (.ref (He.ga K "_law_led"))
  F_law_led : ∃ fd, FunD K "_law_led" "_law_led" (defArgs s_law_led) (defBody s_law_led) (defScope s_law_led) [] [] (He.ga K "_law_led") fd
  g_law_chain_right : mg "_law_chain_right" = some (.ref (He.ga K "_law_chain_right"))
  F_law_chain_right : ∃ fd, FunD K "_law_chain_right" "_law_chain_right" (defArgs s_law_chain_right) (defBody s_law_chain_right) (defScope s_law_chain_right) [] [] (He.ga K "_law_chain_right") fd
  g_law : mg "law" = some (.ref (He.ga K "law"))
  F_law : ∃ fd, FunD K "law" "law" (defArgs s_law) (defBody s_law) (defScope s_law) [] [] (He.ga K "law") fd
  kk_Share_Share : PySem.W.kitOne K (.ref (He.ga K "Share")) (.ref (He.ga K "Share")) = some true
  kk_Share_Row : PySem.W.kitOne K (.ref (He.ga K "Share")) (.ref (He.ga K "Row")) = some false
  su_Share_Row : PySem.W.subIn K (.ref (He.ga K "Share")) (.ref (He.ga K "Row")) = some false
  ne_Share_Row : He.ga K "Share" ≠ He.ga K "Row"
  kk_Share_Term : PySem.W.kitOne K (.ref (He.ga K "Share")) (.ref (He.ga K "Term")) = some false
  su_Share_Term : PySem.W.subIn K (.ref (He.ga K "Share")) (.ref (He.ga K "Term")) = some false
  ne_Share_Term : He.ga K "Share" ≠ He.ga K "Term"
  kk_Row_Share : PySem.W.kitOne K (.ref (He.ga K "Row")) (.ref (He.ga K "Share")) = some false
  su_Row_Share : PySem.W.subIn K (.ref (He.ga K "Row")) (.ref (He.ga K "Share")) = some false
  ne_Row_Share : He.ga K "Row" ≠ He.ga K "Share"
  kk_Row_Row : PySem.W.kitOne K (.ref (He.ga K "Row")) (.ref (He.ga K "Row")) = some true
  kk_Row_Term : PySem.W.kitOne K (.ref (He.ga K "Row")) (.ref (He.ga K "Term")) = some false
  su_Row_Term : PySem.W.subIn K (.ref (He.ga K "Row")) (.ref (He.ga K "Term")) = some false
  ne_Row_Term : He.ga K "Row" ≠ He.ga K "Term"
  kk_Term_Share : PySem.W.kitOne K (.ref (He.ga K "Term")) (.ref (He.ga K "Share")) = some false
  su_Term_Share : PySem.W.subIn K (.ref (He.ga K "Term")) (.ref (He.ga K "Share")) = some false
  ne_Term_Share : He.ga K "Term" ≠ He.ga K "Share"
  kk_Term_Row : PySem.W.kitOne K (.ref (He.ga K "Term")) (.ref (He.ga K "Row")) = some false
  su_Term_Row : PySem.W.subIn K (.ref (He.ga K "Term")) (.ref (He.ga K "Row")) = some false
  ne_Term_Row : He.ga K "Term" ≠ He.ga K "Row"
  kk_Term_Term : PySem.W.kitOne K (.ref (He.ga K "Term")) (.ref (He.ga K "Term")) = some true
  n_NotImplemented : mg "NotImplemented" = none
  n_ValueError : mg "ValueError" = none
  n_abs : mg "abs" = none
  n_all : mg "all" = none
  n_bool : mg "bool" = none
  n_enumerate : mg "enumerate" = none
  n_int : mg "int" = none
  n_isinstance : mg "isinstance" = none
  n_len : mg "len" = none
  n_list : mg "list" = none
  n_max : mg "max" = none
  n_min : mg "min" = none
  n_range : mg "range" = none
  n_staticmethod : mg "staticmethod" = none
  n_str : mg "str" = none
  n_super : mg "super" = none
  n_tuple : mg "tuple" = none
  n_zip : mg "zip" = none
theorem txt_of {K : PySem.W.Frag} {h : Heap} {mg : Str → Option Value} (X : K.In h) (G : h.Ns mainGlobals mg) (c : FX.SaysE fa fn fx fs K) : Txt K mg where
  g_wall := He.glo_ok X G (c.fact (List.mem_of_getElem? (i := 0) rfl))
  F_wall := c.defn (d := d_wall) (List.mem_of_getElem? (i := 0) rfl)
  g_LessError := He.glo_ok X G (c.fact (List.mem_of_getElem? (i := 1) rfl))
  g_NoShare := He.glo_ok X G (c.fact (List.mem_of_getElem? (i := 2) rfl))
  g_NoUnknown := He.glo_ok X G (c.fact (List.mem_of_getElem? (i := 3) rfl))
  g_NotStraight := He.glo_ok X G (c.fact (List.mem_of_getElem? (i := 4) rfl))
  g_is_integer := He.glo_ok X G (c.fact (List.mem_of_getElem? (i := 5) rfl))
  F_is_integer := c.defn (d := d_is_integer) (List.mem_of_getElem? (i := 1) rfl)
  g_common_divisor := He.glo_ok X G (c.fact (List.mem_of_getElem? (i := 6) rfl))
  F_common_divisor := c.defn (d := d_common_divisor) (List.mem_of_getElem? (i := 2) rfl)
  g_Share := He.glo_ok X G (c.fact (List.mem_of_getElem? (i := 7) rfl))
  c_Share := He.cls_ok (c.fact (List.mem_of_getElem? (i := 8) rfl))
  i_Share := ⟨He.cls_ok (c.fact (List.mem_of_getElem? (i := 8) rfl)), (FX.cl_ok (c.x _ (List.mem_of_getElem? (i := 0) rfl))).1, (FX.cl_ok (c.x _ (List.mem_of_getElem? (i := 0) rfl))).2⟩
  sf_Share := FX.sf_ok (c.x _ (List.mem_of_getElem? (i := 1) rfl))
  fne_Share := FX.fnd_ok (c.x _ (List.mem_of_getElem? (i := 2) rfl))
  su_Share_object := FX.subT_ok (c.x _ (List.mem_of_getElem? (i := 3) rfl))
  mro_Share := FX.mro2_ok (c.x _ (List.mem_of_getElem? (i := 4) rfl))
  noiadd_Share := FX.rno_ok (c.x _ (List.mem_of_getElem? (i := 5) rfl))
  noisub_Share := FX.rno_ok (c.x _ (List.mem_of_getElem? (i := 6) rfl))
  noimul_Share := FX.rno_ok (c.x _ (List.mem_of_getElem? (i := 7) rfl))
  F_Share_init := c.defn (d := d_Share_init) (List.mem_of_getElem? (i := 3) rfl)
  m_Share_init := He.meth_ok (c.fact (List.mem_of_getElem? (i := 9) rfl))
  F_Share_add := c.defn (d := d_Share_add) (List.mem_of_getElem? (i := 4) rfl)
  m_Share_add := He.meth_ok (c.fact (List.mem_of_getElem? (i := 10) rfl))
  F_Share_radd := c.defn (d := d_Share_radd) (List.mem_of_getElem? (i := 5) rfl)
  m_Share_radd := He.meth_ok (c.fact (List.mem_of_getElem? (i := 11) rfl))
  F_Share_sub := c.defn (d := d_Share_sub) (List.mem_of_getElem? (i := 6) rfl)
  m_Share_sub := He.meth_ok (c.fact (List.mem_of_getElem? (i := 12) rfl))
  F_Share_rsub := c.defn (d := d_Share_rsub) (List.mem_of_getElem? (i := 7) rfl)
  m_Share_rsub := He.meth_ok (c.fact (List.mem_of_getElem? (i := 13) rfl))
  F_Share_mul := c.defn (d := d_Share_mul) (List.mem_of_getElem? (i := 8) rfl)
  m_Share_mul := He.meth_ok (c.fact (List.mem_of_getElem? (i := 14) rfl))
  F_Share_rmul := c.defn (d := d_Share_rmul) (List.mem_of_getElem? (i := 9) rfl)
  m_Share_rmul := He.meth_ok (c.fact (List.mem_of_getElem? (i := 15) rfl))
  F_Share_neg := c.defn (d := d_Share_neg) (List.mem_of_getElem? (i := 10) rfl)
  m_Share_neg := He.meth_ok (c.fact (List.mem_of_getElem? (i := 16) rfl))
  F_Share_abs := c.defn (d := d_Share_abs) (List.mem_of_getElem? (i := 11) rfl)
  m_Share_abs := He.meth_ok (c.fact (List.mem_of_getElem? (i := 17) rfl))
  F_Share_eq := c.defn (d := d_Share_eq) (List.mem_of_getElem? (i := 12) rfl)
  m_Share_eq := He.meth_ok (c.fact (List.mem_of_getElem? (i := 18) rfl))
  F_Share_lt := c.defn (d := d_Share_lt) (List.mem_of_getElem? (i := 13) rfl)
  m_Share_lt := He.meth_ok (c.fact (List.mem_of_getElem? (i := 19) rfl))
  F_Share_le := c.defn (d := d_Share_le) (List.mem_of_getElem? (i := 14) rfl)
  m_Share_le := He.meth_ok (c.fact (List.mem_of_getElem? (i := 20) rfl))
  F_Share_gt := c.defn (d := d_Share_gt) (List.mem_of_getElem? (i := 15) rfl)
  m_Share_gt := He.meth_ok (c.fact (List.mem_of_getElem? (i := 21) rfl))
  F_Share_ge := c.defn (d := d_Share_ge) (List.mem_of_getElem? (i := 16) rfl)
  m_Share_ge := He.meth_ok (c.fact (List.mem_of_getElem? (i := 22) rfl))
  F_Share_str := c.defn (d := d_Share_str) (List.mem_of_getElem? (i := 17) rfl)
  m_Share_str := He.meth_ok (c.fact (List.mem_of_getElem? (i := 23) rfl))
  F_Share_over := c.defn (d := d_Share_over) (List.mem_of_getElem? (i := 18) rfl)
  m_Share_over := He.meth_ok (c.fact (List.mem_of_getElem? (i := 24) rfl))
  k_Share := He.mkr_ok (c.fact (List.mem_of_getElem? (i := 25) rfl))
  a_Share_bottom := He.noat_ok (c.fact (List.mem_of_getElem? (i := 26) rfl))
  a_Share_top := He.noat_ok (c.fact (List.mem_of_getElem? (i := 27) rfl))
  kt_int_Share := FX.kitT_ok (c.x _ (List.mem_of_getElem? (i := 8) rfl))
  kb_Share_int := FX.kitB_ok (c.x _ (List.mem_of_getElem? (i := 9) rfl))
  kt_bool_Share := FX.kitT_ok (c.x _ (List.mem_of_getElem? (i := 10) rfl))
  kb_Share_bool := FX.kitB_ok (c.x _ (List.mem_of_getElem? (i := 11) rfl))
  kt_str_Share := FX.kitT_ok (c.x _ (List.mem_of_getElem? (i := 12) rfl))
  kt_NoneType_Share := FX.kitT_ok (c.x _ (List.mem_of_getElem? (i := 14) rfl))
  kt_list_Share := FX.kitT_ok (c.x _ (List.mem_of_getElem? (i := 16) rfl))
  kb_Share_list := FX.kitB_ok (c.x _ (List.mem_of_getElem? (i := 17) rfl))
  kt_tuple_Share := FX.kitT_ok (c.x _ (List.mem_of_getElem? (i := 18) rfl))
  kb_Share_tuple := FX.kitB_ok (c.x _ (List.mem_of_getElem? (i := 19) rfl))
  kt_dict_Share := FX.kitT_ok (c.x _ (List.mem_of_getElem? (i := 20) rfl))
  su_Share_bool := FX.subT_ok (c.x _ (List.mem_of_getElem? (i := 22) rfl))
  su_Share_str := FX.subT_ok (c.x _ (List.mem_of_getElem? (i := 23) rfl))
  su_Share_NoneType := FX.subT_ok (c.x _ (List.mem_of_getElem? (i := 24) rfl))
  su_Share_list := FX.subT_ok (c.x _ (List.mem_of_getElem? (i := 25) rfl))
  su_Share_tuple := FX.subT_ok (c.x _ (List.mem_of_getElem? (i := 26) rfl))
  su_Share_dict := FX.subT_ok (c.x _ (List.mem_of_getElem? (i := 27) rfl))
  su_Share_int := FX.subT_ok (c.x _ (List.mem_of_getElem? (i := 28) rfl))
  g_is_number := He.glo_ok X G (c.fact (List.mem_of_getElem? (i := 28) rfl))
  F_is_number := c.defn (d := d_is_number) (List.mem_of_getElem? (i := 19) rfl)
  g_as_share := He.glo_ok X G (c.fact (List.mem_of_getElem? (i := 29) rfl))
  F_as_share := c.defn (d := d_as_share) (List.mem_of_getElem? (i := 20) rfl)
  g_worth_of := He.glo_ok X G (c.fact (List.mem_of_getElem? (i := 30) rfl))
  F_worth_of := c.defn (d := d_worth_of) (List.mem_of_getElem? (i := 21) rfl)
  g_Row := He.glo_ok X G (c.fact (List.mem_of_getElem? (i := 31) rfl))
  c_Row := He.cls_ok (c.fact (List.mem_of_getElem? (i := 32) rfl))
  i_Row := ⟨He.cls_ok (c.fact (List.mem_of_getElem? (i := 32) rfl)), (FX.cl_ok (c.x _ (List.mem_of_getElem? (i := 29) rfl))).1, (FX.cl_ok (c.x _ (List.mem_of_getElem? (i := 29) rfl))).2⟩
  sf_Row := FX.sf_ok (c.x _ (List.mem_of_getElem? (i := 30) rfl))
  fne_Row := FX.fnd_ok (c.x _ (List.mem_of_getElem? (i := 31) rfl))
  su_Row_object := FX.subT_ok (c.x _ (List.mem_of_getElem? (i := 32) rfl))
  mro_Row := FX.mro2_ok (c.x _ (List.mem_of_getElem? (i := 33) rfl))
  noiadd_Row := FX.rno_ok (c.x _ (List.mem_of_getElem? (i := 34) rfl))
  noisub_Row := FX.rno_ok (c.x _ (List.mem_of_getElem? (i := 35) rfl))
  noimul_Row := FX.rno_ok (c.x _ (List.mem_of_getElem? (i := 36) rfl))
  F_Row_init := c.defn (d := d_Row_init) (List.mem_of_getElem? (i := 22) rfl)
  m_Row_init := He.meth_ok (c.fact (List.mem_of_getElem? (i := 33) rfl))
  F_Row_eq := c.defn (d := d_Row_eq) (List.mem_of_getElem? (i := 23) rfl)
  m_Row_eq := He.meth_ok (c.fact (List.mem_of_getElem? (i := 34) rfl))
  F_Row_invert := c.defn (d := d_Row_invert) (List.mem_of_getElem? (i := 24) rfl)
  m_Row_invert := He.meth_ok (c.fact (List.mem_of_getElem? (i := 35) rfl))
  F_Row_holds := c.defn (d := d_Row_holds) (List.mem_of_getElem? (i := 25) rfl)
  m_Row_holds := He.meth_ok (c.fact (List.mem_of_getElem? (i := 36) rfl))
  F_Row_put := c.defn (d := d_Row_put) (List.mem_of_getElem? (i := 26) rfl)
  m_Row_put := He.meth_ok (c.fact (List.mem_of_getElem? (i := 37) rfl))
  k_Row := He.mkr_ok (c.fact (List.mem_of_getElem? (i := 38) rfl))
  a_Row_strict := He.noat_ok (c.fact (List.mem_of_getElem? (i := 39) rfl))
  a_Row_term := He.noat_ok (c.fact (List.mem_of_getElem? (i := 40) rfl))
  kt_int_Row := FX.kitT_ok (c.x _ (List.mem_of_getElem? (i := 37) rfl))
  kb_Row_int := FX.kitB_ok (c.x _ (List.mem_of_getElem? (i := 38) rfl))
  kt_bool_Row := FX.kitT_ok (c.x _ (List.mem_of_getElem? (i := 39) rfl))
  kb_Row_bool := FX.kitB_ok (c.x _ (List.mem_of_getElem? (i := 40) rfl))
  kt_str_Row := FX.kitT_ok (c.x _ (List.mem_of_getElem? (i := 41) rfl))
  kt_NoneType_Row := FX.kitT_ok (c.x _ (List.mem_of_getElem? (i := 43) rfl))
  kt_list_Row := FX.kitT_ok (c.x _ (List.mem_of_getElem? (i := 45) rfl))
  kb_Row_list := FX.kitB_ok (c.x _ (List.mem_of_getElem? (i := 46) rfl))
  kt_tuple_Row := FX.kitT_ok (c.x _ (List.mem_of_getElem? (i := 47) rfl))
  kb_Row_tuple := FX.kitB_ok (c.x _ (List.mem_of_getElem? (i := 48) rfl))
  kt_dict_Row := FX.kitT_ok (c.x _ (List.mem_of_getElem? (i := 49) rfl))
  su_Row_bool := FX.subT_ok (c.x _ (List.mem_of_getElem? (i := 51) rfl))
  su_Row_str := FX.subT_ok (c.x _ (List.mem_of_getElem? (i := 52) rfl))
  su_Row_NoneType := FX.subT_ok (c.x _ (List.mem_of_getElem? (i := 53) rfl))
  su_Row_list := FX.subT_ok (c.x _ (List.mem_of_getElem? (i := 54) rfl))
  su_Row_tuple := FX.subT_ok (c.x _ (List.mem_of_getElem? (i := 55) rfl))
  su_Row_dict := FX.subT_ok (c.x _ (List.mem_of_getElem? (i := 56) rfl))
  su_Row_int := FX.subT_ok (c.x _ (List.mem_of_getElem? (i := 57) rfl))
  g_whole_factor := He.glo_ok X G (c.fact (List.mem_of_getElem? (i := 41) rfl))
  F_whole_factor := c.defn (d := d_whole_factor) (List.mem_of_getElem? (i := 27) rfl)
  v_UNKNOWNS := He.int_ok X G (c.fact (List.mem_of_getElem? (i := 42) rfl))
  g_Term := He.glo_ok X G (c.fact (List.mem_of_getElem? (i := 43) rfl))
  c_Term := He.cls_ok (c.fact (List.mem_of_getElem? (i := 44) rfl))
  i_Term := ⟨He.cls_ok (c.fact (List.mem_of_getElem? (i := 44) rfl)), (FX.cl_ok (c.x _ (List.mem_of_getElem? (i := 58) rfl))).1, (FX.cl_ok (c.x _ (List.mem_of_getElem? (i := 58) rfl))).2⟩
  sf_Term := FX.sf_ok (c.x _ (List.mem_of_getElem? (i := 59) rfl))
  fne_Term := FX.fnd_ok (c.x _ (List.mem_of_getElem? (i := 60) rfl))
  su_Term_object := FX.subT_ok (c.x _ (List.mem_of_getElem? (i := 61) rfl))
  mro_Term := FX.mro2_ok (c.x _ (List.mem_of_getElem? (i := 62) rfl))
  noiadd_Term := FX.rno_ok (c.x _ (List.mem_of_getElem? (i := 63) rfl))
  noisub_Term := FX.rno_ok (c.x _ (List.mem_of_getElem? (i := 64) rfl))
  noimul_Term := FX.rno_ok (c.x _ (List.mem_of_getElem? (i := 65) rfl))
  F_Term_init := c.defn (d := d_Term_init) (List.mem_of_getElem? (i := 28) rfl)
  m_Term_init := He.meth_ok (c.fact (List.mem_of_getElem? (i := 45) rfl))
  F_Term_unknown := c.s t_Term_unknown (List.mem_of_getElem? (i := 0) rfl)
  st_Term_unknown := FX.stat_ok (c.x _ (List.mem_of_getElem? (i := 66) rfl))
  F_Term_constant := c.s t_Term_constant (List.mem_of_getElem? (i := 1) rfl)
  st_Term_constant := FX.stat_ok (c.x _ (List.mem_of_getElem? (i := 67) rfl))
  F_Term_add := c.defn (d := d_Term_add) (List.mem_of_getElem? (i := 29) rfl)
  m_Term_add := He.meth_ok (c.fact (List.mem_of_getElem? (i := 46) rfl))
  F_Term_radd := c.defn (d := d_Term_radd) (List.mem_of_getElem? (i := 30) rfl)
  m_Term_radd := He.meth_ok (c.fact (List.mem_of_getElem? (i := 47) rfl))
  F_Term_sub := c.defn (d := d_Term_sub) (List.mem_of_getElem? (i := 31) rfl)
  m_Term_sub := He.meth_ok (c.fact (List.mem_of_getElem? (i := 48) rfl))
  F_Term_rsub := c.defn (d := d_Term_rsub) (List.mem_of_getElem? (i := 32) rfl)
  m_Term_rsub := He.meth_ok (c.fact (List.mem_of_getElem? (i := 49) rfl))
  F_Term_mul := c.defn (d := d_Term_mul) (List.mem_of_getElem? (i := 33) rfl)
  m_Term_mul := He.meth_ok (c.fact (List.mem_of_getElem? (i := 50) rfl))
  F_Term_rmul := c.defn (d := d_Term_rmul) (List.mem_of_getElem? (i := 34) rfl)
  m_Term_rmul := He.meth_ok (c.fact (List.mem_of_getElem? (i := 51) rfl))
  F_Term_neg := c.defn (d := d_Term_neg) (List.mem_of_getElem? (i := 35) rfl)
  m_Term_neg := He.meth_ok (c.fact (List.mem_of_getElem? (i := 52) rfl))
  F_Term_eq := c.defn (d := d_Term_eq) (List.mem_of_getElem? (i := 36) rfl)
  m_Term_eq := He.meth_ok (c.fact (List.mem_of_getElem? (i := 53) rfl))
  F_Term_lt := c.defn (d := d_Term_lt) (List.mem_of_getElem? (i := 37) rfl)
  m_Term_lt := He.meth_ok (c.fact (List.mem_of_getElem? (i := 54) rfl))
  F_Term_le := c.defn (d := d_Term_le) (List.mem_of_getElem? (i := 38) rfl)
  m_Term_le := He.meth_ok (c.fact (List.mem_of_getElem? (i := 55) rfl))
  F_Term_gt := c.defn (d := d_Term_gt) (List.mem_of_getElem? (i := 39) rfl)
  m_Term_gt := He.meth_ok (c.fact (List.mem_of_getElem? (i := 56) rfl))
  F_Term_ge := c.defn (d := d_Term_ge) (List.mem_of_getElem? (i := 40) rfl)
  m_Term_ge := He.meth_ok (c.fact (List.mem_of_getElem? (i := 57) rfl))
  F_Term_scaled := c.defn (d := d_Term_scaled) (List.mem_of_getElem? (i := 41) rfl)
  m_Term_scaled := He.meth_ok (c.fact (List.mem_of_getElem? (i := 58) rfl))
  F_Term_over := c.defn (d := d_Term_over) (List.mem_of_getElem? (i := 42) rfl)
  m_Term_over := He.meth_ok (c.fact (List.mem_of_getElem? (i := 59) rfl))
  F_Term_put := c.defn (d := d_Term_put) (List.mem_of_getElem? (i := 43) rfl)
  m_Term_put := He.meth_ok (c.fact (List.mem_of_getElem? (i := 60) rfl))
  F_Term_at := c.defn (d := d_Term_at) (List.mem_of_getElem? (i := 44) rfl)
  m_Term_at := He.meth_ok (c.fact (List.mem_of_getElem? (i := 61) rfl))
  k_Term := He.mkr_ok (c.fact (List.mem_of_getElem? (i := 62) rfl))
  a_Term_number := He.noat_ok (c.fact (List.mem_of_getElem? (i := 63) rfl))
  a_Term_times := He.noat_ok (c.fact (List.mem_of_getElem? (i := 64) rfl))
  kt_int_Term := FX.kitT_ok (c.x _ (List.mem_of_getElem? (i := 68) rfl))
  kb_Term_int := FX.kitB_ok (c.x _ (List.mem_of_getElem? (i := 69) rfl))
  kt_bool_Term := FX.kitT_ok (c.x _ (List.mem_of_getElem? (i := 70) rfl))
  kb_Term_bool := FX.kitB_ok (c.x _ (List.mem_of_getElem? (i := 71) rfl))
  kt_str_Term := FX.kitT_ok (c.x _ (List.mem_of_getElem? (i := 72) rfl))
  kt_NoneType_Term := FX.kitT_ok (c.x _ (List.mem_of_getElem? (i := 74) rfl))
  kt_list_Term := FX.kitT_ok (c.x _ (List.mem_of_getElem? (i := 76) rfl))
  kb_Term_list := FX.kitB_ok (c.x _ (List.mem_of_getElem? (i := 77) rfl))
  kt_tuple_Term := FX.kitT_ok (c.x _ (List.mem_of_getElem? (i := 78) rfl))
  kb_Term_tuple := FX.kitB_ok (c.x _ (List.mem_of_getElem? (i := 79) rfl))
  kt_dict_Term := FX.kitT_ok (c.x _ (List.mem_of_getElem? (i := 80) rfl))
  su_Term_bool := FX.subT_ok (c.x _ (List.mem_of_getElem? (i := 82) rfl))
  su_Term_str := FX.subT_ok (c.x _ (List.mem_of_getElem? (i := 83) rfl))
  su_Term_NoneType := FX.subT_ok (c.x _ (List.mem_of_getElem? (i := 84) rfl))
  su_Term_list := FX.subT_ok (c.x _ (List.mem_of_getElem? (i := 85) rfl))
  su_Term_tuple := FX.subT_ok (c.x _ (List.mem_of_getElem? (i := 86) rfl))
  su_Term_dict := FX.subT_ok (c.x _ (List.mem_of_getElem? (i := 87) rfl))
  su_Term_int := FX.subT_ok (c.x _ (List.mem_of_getElem? (i := 88) rfl))
  g_is_worth := He.glo_ok X G (c.fact (List.mem_of_getElem? (i := 65) rfl))
  F_is_worth := c.defn (d := d_is_worth) (List.mem_of_getElem? (i := 45) rfl)
  g_as_term := He.glo_ok X G (c.fact (List.mem_of_getElem? (i := 66) rfl))
  F_as_term := c.defn (d := d_as_term) (List.mem_of_getElem? (i := 46) rfl)
  g_leaves := He.glo_ok X G (c.fact (List.mem_of_getElem? (i := 67) rfl))
  F_leaves := c.defn (d := d_leaves) (List.mem_of_getElem? (i := 47) rfl)
  g_depth := He.glo_ok X G (c.fact (List.mem_of_getElem? (i := 68) rfl))
  F_depth := c.defn (d := d_depth) (List.mem_of_getElem? (i := 48) rfl)
  g_walk := He.glo_ok X G (c.fact (List.mem_of_getElem? (i := 69) rfl))
  F_walk := c.defn (d := d_walk) (List.mem_of_getElem? (i := 49) rfl)
  g_law_source := He.glo_ok X G (c.fact (List.mem_of_getElem? (i := 70) rfl))
  F_law_source := c.defn (d := d_law_source) (List.mem_of_getElem? (i := 50) rfl)
  g_law_draw := He.glo_ok X G (c.fact (List.mem_of_getElem? (i := 71) rfl))
  F_law_draw := c.defn (d := d_law_draw) (List.mem_of_getElem? (i := 51) rfl)
  g_law_pick := He.glo_ok X G (c.fact (List.mem_of_getElem? (i := 72) rfl))
  F_law_pick := c.defn (d := d_law_pick) (List.mem_of_getElem? (i := 52) rfl)
  g_law_less := He.glo_ok X G (c.fact (List.mem_of_getElem? (i := 73) rfl))
  F_law_less := c.defn (d := d_law_less) (List.mem_of_getElem? (i := 53) rfl)
  g_law_middle := He.glo_ok X G (c.fact (List.mem_of_getElem? (i := 74) rfl))
  F_law_middle := c.defn (d := d_law_middle) (List.mem_of_getElem? (i := 54) rfl)
  g_law_worths := He.glo_ok X G (c.fact (List.mem_of_getElem? (i := 75) rfl))
  F_law_worths := c.defn (d := d_law_worths) (List.mem_of_getElem? (i := 55) rfl)
  g_law_root := He.glo_ok X G (c.fact (List.mem_of_getElem? (i := 76) rfl))
  F_law_root := c.defn (d := d_law_root) (List.mem_of_getElem? (i := 56) rfl)
  g_law_fixed := He.glo_ok X G (c.fact (List.mem_of_getElem? (i := 77) rfl))
  F_law_fixed := c.defn (d := d_law_fixed) (List.mem_of_getElem? (i := 57) rfl)
  g_law_line := He.glo_ok X G (c.fact (List.mem_of_getElem? (i := 78) rfl))
  F_law_line := c.defn (d := d_law_line) (List.mem_of_getElem? (i := 58) rfl)
  g_law_meet := He.glo_ok X G (c.fact (List.mem_of_getElem? (i := 79) rfl))
  F_law_meet := c.defn (d := d_law_meet) (List.mem_of_getElem? (i := 59) rfl)
  g_law_plane := He.glo_ok X G (c.fact (List.mem_of_getElem? (i := 80) rfl))
  F_law_plane := c.defn (d := d_law_plane) (List.mem_of_getElem? (i := 60) rfl)
  g_law_det := He.glo_ok X G (c.fact (List.mem_of_getElem? (i := 81) rfl))
  F_law_det := c.defn (d := d_law_det) (List.mem_of_getElem? (i := 61) rfl)
  g_law_triple := He.glo_ok X G (c.fact (List.mem_of_getElem? (i := 82) rfl))
  F_law_triple := c.defn (d := d_law_triple) (List.mem_of_getElem? (i := 62) rfl)
  g_law_room := He.glo_ok X G (c.fact (List.mem_of_getElem? (i := 83) rfl))
  F_law_room := c.defn (d := d_law_room) (List.mem_of_getElem? (i := 63) rfl)
  g_law_faces := He.glo_ok X G (c.fact (List.mem_of_getElem? (i := 84) rfl))
  F_law_faces := c.defn (d := d_law_faces) (List.mem_of_getElem? (i := 64) rfl)
  g_law_number := He.glo_ok X G (c.fact (List.mem_of_getElem? (i := 85) rfl))
  F_law_number := c.defn (d := d_law_number) (List.mem_of_getElem? (i := 65) rfl)
  g_law_holds := He.glo_ok X G (c.fact (List.mem_of_getElem? (i := 86) rfl))
  F_law_holds := c.defn (d := d_law_holds) (List.mem_of_getElem? (i := 66) rfl)
  g_law_ints := He.glo_ok X G (c.fact (List.mem_of_getElem? (i := 87) rfl))
  F_law_ints := c.defn (d := d_law_ints) (List.mem_of_getElem? (i := 67) rfl)
  g_law_row := He.glo_ok X G (c.fact (List.mem_of_getElem? (i := 88) rfl))
  F_law_row := c.defn (d := d_law_row) (List.mem_of_getElem? (i := 68) rfl)
  g_law_said := He.glo_ok X G (c.fact (List.mem_of_getElem? (i := 89) rfl))
  F_law_said := c.defn (d := d_law_said) (List.mem_of_getElem? (i := 69) rfl)
  g_law_terms := He.glo_ok X G (c.fact (List.mem_of_getElem? (i := 90) rfl))
  F_law_terms := c.defn (d := d_law_terms) (List.mem_of_getElem? (i := 70) rfl)
  g_law_same := He.glo_ok X G (c.fact (List.mem_of_getElem? (i := 91) rfl))
  F_law_same := c.defn (d := d_law_same) (List.mem_of_getElem? (i := 71) rfl)
  g_law_passed := He.glo_ok X G (c.fact (List.mem_of_getElem? (i := 92) rfl))
  F_law_passed := c.defn (d := d_law_passed) (List.mem_of_getElem? (i := 72) rfl)
  g_law_grown := He.glo_ok X G (c.fact (List.mem_of_getElem? (i := 93) rfl))
  F_law_grown := c.defn (d := d_law_grown) (List.mem_of_getElem? (i := 73) rfl)
  g_law_of_terms := He.glo_ok X G (c.fact (List.mem_of_getElem? (i := 94) rfl))
  F_law_of_terms := c.defn (d := d_law_of_terms) (List.mem_of_getElem? (i := 74) rfl)
  g_law_listed := He.glo_ok X G (c.fact (List.mem_of_getElem? (i := 95) rfl))
  F_law_listed := c.defn (d := d_law_listed) (List.mem_of_getElem? (i := 75) rfl)
  g_law_rows_of := He.glo_ok X G (c.fact (List.mem_of_getElem? (i := 96) rfl))
  F_law_rows_of := c.defn (d := d_law_rows_of) (List.mem_of_getElem? (i := 76) rfl)
  g_law_led := He.glo_ok X G (c.fact (List.mem_of_getElem? (i := 97) rfl))
  F_law_led := c.defn (d := d_law_led) (List.mem_of_getElem? (i := 77) rfl)
  g_law_chain_right := He.glo_ok X G (c.fact (List.mem_of_getElem? (i := 98) rfl))
  F_law_chain_right := c.defn (d := d_law_chain_right) (List.mem_of_getElem? (i := 78) rfl)
  g_law := He.glo_ok X G (c.fact (List.mem_of_getElem? (i := 99) rfl))
  F_law := c.defn (d := d_law) (List.mem_of_getElem? (i := 79) rfl)
  kk_Share_Share := FX.kit_ok (c.x _ (List.mem_of_getElem? (i := 89) rfl))
  kk_Share_Row := FX.kit_ok (c.x _ (List.mem_of_getElem? (i := 90) rfl))
  su_Share_Row := FX.sub_ok (c.x _ (List.mem_of_getElem? (i := 91) rfl))
  ne_Share_Row := FX.ne_ok (c.x _ (List.mem_of_getElem? (i := 92) rfl))
  kk_Share_Term := FX.kit_ok (c.x _ (List.mem_of_getElem? (i := 93) rfl))
  su_Share_Term := FX.sub_ok (c.x _ (List.mem_of_getElem? (i := 94) rfl))
  ne_Share_Term := FX.ne_ok (c.x _ (List.mem_of_getElem? (i := 95) rfl))
  kk_Row_Share := FX.kit_ok (c.x _ (List.mem_of_getElem? (i := 96) rfl))
  su_Row_Share := FX.sub_ok (c.x _ (List.mem_of_getElem? (i := 97) rfl))
  ne_Row_Share := FX.ne_ok (c.x _ (List.mem_of_getElem? (i := 98) rfl))
  kk_Row_Row := FX.kit_ok (c.x _ (List.mem_of_getElem? (i := 99) rfl))
  kk_Row_Term := FX.kit_ok (c.x _ (List.mem_of_getElem? (i := 100) rfl))
  su_Row_Term := FX.sub_ok (c.x _ (List.mem_of_getElem? (i := 101) rfl))
  ne_Row_Term := FX.ne_ok (c.x _ (List.mem_of_getElem? (i := 102) rfl))
  kk_Term_Share := FX.kit_ok (c.x _ (List.mem_of_getElem? (i := 103) rfl))
  su_Term_Share := FX.sub_ok (c.x _ (List.mem_of_getElem? (i := 104) rfl))
  ne_Term_Share := FX.ne_ok (c.x _ (List.mem_of_getElem? (i := 105) rfl))
  kk_Term_Row := FX.kit_ok (c.x _ (List.mem_of_getElem? (i := 106) rfl))
  su_Term_Row := FX.sub_ok (c.x _ (List.mem_of_getElem? (i := 107) rfl))
  ne_Term_Row := FX.ne_ok (c.x _ (List.mem_of_getElem? (i := 108) rfl))
  kk_Term_Term := FX.kit_ok (c.x _ (List.mem_of_getElem? (i := 109) rfl))
  n_NotImplemented := He.free_ok X G (c.fact (List.mem_of_getElem? (i := 100) rfl))
  n_ValueError := He.free_ok X G (c.fact (List.mem_of_getElem? (i := 101) rfl))
  n_abs := He.free_ok X G (c.fact (List.mem_of_getElem? (i := 102) rfl))
  n_all := He.free_ok X G (c.fact (List.mem_of_getElem? (i := 103) rfl))
  n_bool := He.free_ok X G (c.fact (List.mem_of_getElem? (i := 104) rfl))
  n_enumerate := He.free_ok X G (c.fact (List.mem_of_getElem? (i := 105) rfl))
  n_int := He.free_ok X G (c.fact (List.mem_of_getElem? (i := 106) rfl))
  n_isinstance := He.free_ok X G (c.fact (List.mem_of_getElem? (i := 107) rfl))
  n_len := He.free_ok X G (c.fact (List.mem_of_getElem? (i := 108) rfl))
  n_list := He.free_ok X G (c.fact (List.mem_of_getElem? (i := 109) rfl))
  n_max := He.free_ok X G (c.fact (List.mem_of_getElem? (i := 110) rfl))
  n_min := He.free_ok X G (c.fact (List.mem_of_getElem? (i := 111) rfl))
  n_range := He.free_ok X G (c.fact (List.mem_of_getElem? (i := 112) rfl))
  n_staticmethod := He.free_ok X G (c.fact (List.mem_of_getElem? (i := 113) rfl))
  n_str := He.free_ok X G (c.fact (List.mem_of_getElem? (i := 114) rfl))
  n_super := He.free_ok X G (c.fact (List.mem_of_getElem? (i := 115) rfl))
  n_tuple := He.free_ok X G (c.fact (List.mem_of_getElem? (i := 116) rfl))
  n_zip := He.free_ok X G (c.fact (List.mem_of_getElem? (i := 117) rfl))
end LW
end

section
set_option Elab.async false
set_option linter.all false
set_option maxRecDepth 100000
set_option maxHeartbeats 0
namespace LW
open PySem PySem.Spec PyProof.Rows L2
abbrev R : PySem.W.OpenRow := PySem.W.OpenLaw.row PySem.Challenge.rw_lessways_k10_leaves_depth_walk
abbrev hk : PySem.W.Hook := FX.hookE 6 fa fn fx fs
def ob (s : PySem.W.SharedT) : FX.AlE := FX.obsEG 6 fa fn fx fs (HandSHeadRun.getT s)
theorem ob_eq (s : PySem.W.SharedT) : ob s = hk.obs s.abs := FX.obsEG_eq (HandSHeadRun.getT_eq s)
noncomputable abbrev Rn (w : World) (os : OsState) : Option PySem.W.SharedT := HandSHeadRun.endF (HandSHeadRun.stepQ (HandSHeadRun.denQ HandSHeadRun.tabQ) R.prog w) 4600 R.prog w os
open PySem.W PySem.Calls in
theorem run1 (w : World) (os : OsState) : (Rn w os).map (fun s => (HandSHeadRun.looksF R.prog (boot_heap w.params) s.abs, HandSHeadRun.seenQ (PySem.W.view R.prog [55]) loose (importedModules R.prog.main.body) (fun s => PySem.W.xlAt (PySem.W.view R.prog [55]) [] s && PySem.W.recOk R.toRowW.records s) s.abs)) = some (true, PySem.W.openGood (PySem.W.view R.prog [55]) loose) := by
  kernel_rfl
theorem run2 (w : World) (os : OsState) : (Rn w os).map (fun s => FX.obsEG 6 fa [] [] [] (HandSHeadRun.getT s)) = some (FX.valE [] []) := by
  kernel_rfl
theorem run3 (w : World) (os : OsState) : (Rn w os).map (fun s => FX.obsEG 6 [] fn [] [] (HandSHeadRun.getT s)) = some (FX.valE fn []) := by
  kernel_rfl
theorem run4 (w : World) (os : OsState) : (Rn w os).map (fun s => FX.obsEG 6 [] [] fx fs (HandSHeadRun.getT s)) = some (FX.valE [] fs) := by
  kernel_rfl
theorem map2 {α β γ : Type} {o : Option α} {f : α → β} {g : α → γ} {b : β} {c : γ} (h : o.map f = some b) (q : o.map g = some c) : ∃ a, o = some a ∧ f a = b ∧ g a = c := by
  cases o with
  | none => cases h
  | some a => exact ⟨a, rfl, Option.some.inj h, Option.some.inj q⟩
theorem ob_all {K : PySem.W.Frag} (h2 : FX.obsE fa [] [] [] K = FX.valE [] []) (h3 : FX.obsE [] fn [] [] K = FX.valE fn []) (h4 : FX.obsE [] [] fx fs K = FX.valE [] fs) : FX.obsE fa fn fx fs K = FX.valE fn fs := by
  have a1 : ((fa.all fun f => f.ok K) && true) = true := congrArg (fun z : FX.AlE => z.1.1) h2
  have a2 : (true && fn.all fun d => d.ok K) = true := congrArg (fun z : FX.AlE => z.1.1) h3
  have a3 : (fn.map fun d => He.fnW K d.at_) = fn.map He.DefD.val := congrArg (fun z : FX.AlE => z.1.2) h3
  have a4 : ((fx.all fun f => f.ok K) && fs.all fun d => d.ok K) = true := congrArg (fun z : FX.AlE => z.2.1) h4
  have a5 : fs.map (FX.fnS K) = fs.map FX.StD.val := congrArg (fun z : FX.AlE => z.2.2) h4
  rw [Bool.and_true] at a1
  rw [Bool.true_and] at a2
  show ((((fa.all fun f => f.ok K) && fn.all fun d => d.ok K), fn.map fun d => He.fnW K d.at_), ((fx.all fun f => f.ok K) && fs.all fun d => d.ok K), fs.map (FX.fnS K)) = ((true, fn.map He.DefD.val), true, fs.map FX.StD.val)
  rw [a1, a2, a3, a4, a5]; rfl
theorem run (w : World) : HandSHeadRun.RunEq R (PySem.W.view R.prog [55]) hk ob 4600 loose w := by
  intro os
  obtain ⟨s, e, h1, h2⟩ := map2 (run1 w os) (run2 w os)
  obtain ⟨s3, e3, h3, h4⟩ := map2 (run3 w os) (run4 w os)
  rw [e] at e3
  cases e3
  have h5 : ob s = hk.val w := ob_all h2 h3 h4
  have e' : HandSHeadRun.endF (HandSHeadRun.stepQ (HandSHeadRun.denQ HandSHeadRun.tabQ) R.prog w) 4600 R.prog w os = some s := e
  rw [e']
  show some (_, _, _) = some (_, _, _)
  have h6 := congrArg Prod.fst h1
  have h7 := congrArg Prod.snd h1
  exact congrArg some (Prod.ext h6 (Prod.ext h7 h5))
end LW
end

section
set_option Elab.async false
set_option linter.all false
set_option maxRecDepth 100000
set_option maxHeartbeats 2000000
namespace OW
open PySem PySem.Spec PyProof.Rows L2
section
variable {X : Cx} {CX : CXT} {k : Nat} {f C : Addr} {fd : FuncData} {ps : List Str} {sp : Sp} {E : XK}
/-- a class without an operator in place of its own -/
theorem fillsI_no {K : PySem.W.Frag} {M : Model} {h : Heap} {cd : ClassData} {nm : String} {add : Bool} (KX : K.In h) (hcd : PySem.W.clsIn K C = some cd) (hm : cd.mro = [.ref C, .type "object"]) (hn : PySem.W.findIn K (.ref C) (dunderI nm) = some none) (ho : typeLookup (.type "object") (dunderI nm) = pure none) :
    PySem.W.Looks M h (fillsInplaceSlot (.ref C) nm add) false := by
  intro A Q E s kp q
  have mr : PySem.W.Looks M h (mroOf (.ref C)) cd.mro := (PySem.W.looks_clsIn KX hcd).andThen (f := fun z => pure z.mro) .now
  have mr' := mr.keeps kp
  have t1 : PySem.W.Looks M s.heap (typeLookup (.ref C) (dunderI nm)) none := PySem.W.looks_findIn (KX.keeps kp) hn
  unfold fillsInplaceSlot
  refine wpAny_bind (mr'.here ?_)
  rw [hm, List.anyM_cons]
  refine wpAny_bind (wpAny_bind (t1.here (wpAny_pure ?_)))
  simp only [Bool.false_eq_true, if_false]
  rw [List.anyM_cons]
  refine wpAny_bind (wpAny_bind (wpAny_of_eq ho (wpAny_pure ?_)))
  simp only [Bool.false_eq_true, if_false]
  rw [List.anyM_nil]
  exact wpAny_pure q
def B1 (X : Cx) (nm : String) (R : R2) : Prop := ∀ (pins : List (Addr × Obj)) (s : Shared) (σ : L2.St) (H : Hp) (x y : V) (u v : Value) (Q : VK), Inv X pins σ H s → L2.RelV x u → L2.RelV y v → R x y H Q →
  wpAny (model X.prog X.w) X.A (binaryOp1 nm u v) (fun r s' => ∃ z, r = some z ∧ EP X pins σ Q z s') X.xe s
theorem b1_or {nm : String} {R R' : R2} (h : B1 X nm R) (h' : B1 X nm R') : B1 X nm (fun x y H Q => R x y H Q ∨ R' x y H Q) := by
  intro pins s σ H x y u v Q I rx ry d
  rcases d with d | d
  · exact h pins s σ H x y u v Q I rx ry d
  · exact h' pins s σ H x y u v Q I rx ry d
theorem b1_same {nm : String} {rc : Option Value} (O : OpC X.K C nm f rc) (F : FnOk X.prog X.w X.K X.mg X.base CX k f fd ps sp) (hr : Room k X.A) (hb : Binds X.K fd ps []) (hx : Passes CX X E) :
    B1 X nm (fun x y H Q => ∃ a dx fs b dy gs, x = .ref a ∧ y = .ref b ∧ H a = some (.ins C dx fs) ∧ H b = some (.ins C dy gs) ∧ sp [x, y] H Q E) := by
  intro pins s σ H x y u v Q I rx ry h
  obtain ⟨a, dx, fs, b, dy, gs, rfl, rfl, ha, hb2, h⟩ := h
  obtain rfl : u = .ref a := rx
  obtain rfl : v = .ref b := ry
  obtain ⟨od, J⟩ := inst_at I ha
  obtain ⟨od2, J2⟩ := inst_at I hb2
  have KX := I.kIn
  obtain ⟨cd, rest, hcd, hm⟩ := PySem.W.ksp_first O.sf
  unfold binaryOp1
  refine wpAny_bind (J.type.here (wpAny_bind (J2.type.here (wpAny_bind ((PySem.W.fills_K KX hcd hm O.at_).here ?_)))))
  simp only [beq_self_eq_true, if_true, pure_bind, Bool.and_false, Bool.false_and, Bool.false_eq_true, if_false]
  refine wpAny_bind ?_
  unfold tryMethod
  refine wpAny_bind (PySem.W.special_fn KX J O.at_ (beq_iff_eq.mp O.fn) (wpAny_mono (run_fn (ds := []) (dvs := []) F hr hb .nil hx I (vals2 (x := .ref a) (y := .ref b) rfl rfl) h) (fun v s' hv => ?_) fun _ _ e => e))
  obtain ⟨z, H', I', r', q'⟩ := hv
  have hz := notNI r'
  cases v <;> first | exact absurd rfl hz | exact wpAny_pure (wpAny_pure ⟨_, rfl, z, H', I', r', q'⟩)
theorem b1_two {nm : String} {rc rc2 : Option Value} {C2 f2 : Addr} (O : OpC X.K C nm f rc) (O2 : OpC X.K C2 nm f2 rc2) (hne : C ≠ C2) (hsub : PySem.W.subIn X.K (.ref C2) (.ref C) = some false)
    (F : FnOk X.prog X.w X.K X.mg X.base CX k f fd ps sp) (hr : Room k X.A) (hb : Binds X.K fd ps []) (hx : Passes CX X E) :
    B1 X nm (fun x y H Q => ∃ a dx fs b dy gs, x = .ref a ∧ y = .ref b ∧ H a = some (.ins C dx fs) ∧ H b = some (.ins C2 dy gs) ∧ sp [x, y] H Q E) := by
  intro pins s σ H x y u v Q I rx ry h
  obtain ⟨a, dx, fs, b, dy, gs, rfl, rfl, ha, hb2, h⟩ := h
  obtain rfl : u = .ref a := rx
  obtain rfl : v = .ref b := ry
  obtain ⟨od, J⟩ := inst_at I ha
  obtain ⟨od2, J2⟩ := inst_at I hb2
  have KX := I.kIn
  obtain ⟨cd, rest, hcd, hm⟩ := PySem.W.ksp_first O.sf
  obtain ⟨cd2, rest2, hcd2, hm2⟩ := PySem.W.ksp_first O2.sf
  have hne' : (Value.ref C == Value.ref C2) = false := Bool.eq_false_iff.mpr fun q => by cases beq_iff_eq.mp q; exact hne rfl
  unfold binaryOp1
  refine wpAny_bind (J.type.here (wpAny_bind (J2.type.here (wpAny_bind ((PySem.W.fills_K KX hcd hm O.at_).here ?_)))))
  simp only [hne', Bool.false_eq_true, if_false]
  refine wpAny_bind ((PySem.W.fills_K KX hcd2 hm2 O2.at_).here ?_)
  simp only [Bool.and_self, if_true]
  refine wpAny_bind ((PySem.W.looks_subIn KX hsub).here ?_)
  simp only [Bool.false_eq_true, if_false, pure_bind, Bool.not_false, Bool.and_self, if_true]
  refine wpAny_bind ((PySem.W.ksp_inPy KX O.at_ O.rat O.rp).here ?_)
  simp only [if_true]
  refine wpAny_bind ((PySem.W.ksp_inPy KX O2.at_ O2.rat O2.rp).here ?_)
  simp only [Bool.not_true, Bool.false_eq_true, if_false, pure_bind]
  refine wpAny_bind ?_
  unfold tryMethod
  refine wpAny_bind (PySem.W.special_fn KX J O.at_ (beq_iff_eq.mp O.fn) (wpAny_mono (run_fn (ds := []) (dvs := []) F hr hb .nil hx I (vals2 (x := .ref a) (y := .ref b) rfl rfl) h) (fun v s' hv => ?_) fun _ _ e => e))
  obtain ⟨z, H', I', r', q'⟩ := hv
  have hz := notNI r'
  cases v <;> first | exact absurd rfl hz | exact wpAny_pure (wpAny_pure ⟨_, rfl, z, H', I', r', q'⟩)
theorem b1_int {nm : String} {rc ro : Option Value} (O : OpC X.K C nm f rc) (hfi : fillsNumberSlot (.type "int") nm = pure true) (hpy : numberSlotInPython (.type "int") nm = pure false) (hro : typeLookup (.type "int") (dunderR nm) = pure ro)
    (F : FnOk X.prog X.w X.K X.mg X.base CX k f fd ps sp) (hr : Room k X.A) (hb : Binds X.K fd ps []) (hx : Passes CX X E) :
    B1 X nm (fun x y H Q => ∃ a dx fs i, x = .ref a ∧ y = .int i ∧ H a = some (.ins C dx fs) ∧ sp [x, y] H Q E) := by
  intro pins s σ H x y u v Q I rx ry h
  obtain ⟨a, dx, fs, i, rfl, rfl, ha, h⟩ := h
  obtain rfl : u = .ref a := rx
  obtain ⟨t, rfl⟩ := ry
  obtain ⟨od, J⟩ := inst_at I ha
  have KX := I.kIn
  obtain ⟨cd, rest, hcd, hm⟩ := PySem.W.ksp_first O.sf
  have hne : (Value.ref C == Value.type "int") = false := Bool.eq_false_iff.mpr fun q => by cases beq_iff_eq.mp q
  have hsub : PySem.W.subIn X.K (.type "int") (.ref C) = some false := rfl
  unfold binaryOp1
  refine wpAny_bind (J.type.here (wpAny_bind (wpAny_typeOf (typeIs_int s i t) (wpAny_bind ((PySem.W.fills_K KX hcd hm O.at_).here ?_)))))
  simp only [hne, Bool.false_eq_true, if_false]
  refine wpAny_bind (wpAny_of_eq hfi ?_)
  simp only [Bool.and_self, if_true]
  refine wpAny_bind ((PySem.W.looks_subIn KX hsub).here ?_)
  simp only [Bool.false_eq_true, if_false, pure_bind, Bool.not_false, Bool.and_self, if_true]
  refine wpAny_bind ((PySem.W.ksp_inPy KX O.at_ O.rat O.rp).here ?_)
  simp only [if_true]
  rw [hpy, pure_bind]
  simp only [Bool.not_false, if_true]
  rw [hro, pure_bind]
  refine wpAny_bind ?_
  unfold tryMethod
  refine wpAny_bind (PySem.W.special_fn KX J O.at_ (beq_iff_eq.mp O.fn) (wpAny_mono (run_fn (ds := []) (dvs := []) F hr hb .nil hx I (vals2 (x := .ref a) (y := .int i) rfl ⟨t, rfl⟩) h) (fun v s' hv => ?_) fun _ _ e => e))
  obtain ⟨z, H', I', r', q'⟩ := hv
  have hz := notNI r'
  cases v <;> first | exact absurd rfl hz | exact wpAny_pure (wpAny_pure ⟨_, rfl, z, H', I', r', q'⟩)
/-- x op= y, x an instance of a class without such an operator -/
theorem ip_own {op : Operator} {R : R2} {cd : ClassData} (hcd : PySem.W.clsIn X.K C = some cd) (hm : cd.mro = [.ref C, .type "object"]) (hn : PySem.W.findIn X.K (.ref C) (dunderI op.info.2) = some none) (ho : typeLookup (.type "object") (dunderI op.info.2) = pure none)
    (hB : B1 X op.info.2 R) (hR : ∀ x y H Q, R x y H Q → ∃ a dx fs, x = .ref a ∧ H a = some (.ins C dx fs)) : PIp X op R := by
  intro pins s σ H x y u v Q I rx ry h
  obtain ⟨a, dx, fs, rfl, ha⟩ := hR _ _ _ _ h
  obtain rfl : u = .ref a := rx
  obtain ⟨od, J⟩ := inst_at I ha
  unfold inplaceOp
  refine wpAny_holding (wpAny_bind (J.type.here (wpAny_bind ((fillsI_no I.kIn hcd hm hn ho).here ?_))))
  simp only [Bool.false_eq_true, if_false]
  refine wpAny_bind (wpAny_mono (hB pins s σ H (.ref a) y (.ref a) v Q I rfl ry h) (fun r s' hr => ?_) fun _ _ e => e)
  obtain ⟨z, rfl, q⟩ := hr
  exact wpAny_pure q
end
end OW
namespace DL
open PySem PySem.Spec PyProof.Rows L2
section
variable {K : PySem.W.Frag} {r : En} {m : Mu} {k : KS}
/-- name op= e by a reading of data -/
theorem s_augR {i : Nat} {te : TE} {R : R2} {d0 : D} (hr : r[i]? = some (some d0)) (h : wE K te r m fun d m1 => wR K R d0 d m1 fun z m2 => k.nx (r.set i (some z)) m2) : wS K (tAug i te R) r m k := fun E σ F H w e p => by
  obtain ⟨v, hv, hv2⟩ := e.2 i _ hr
  refine ⟨v, hv, ?_⟩
  refine h σ F H _ w e fun d m1 u F1 H1 h1 w1 s1 i1 => ?_
  refine h1 v u F1 H1 _ w1 (Is.mono s1.same _ _ hv2) i1 fun z m2 y F2 H2 h2 w2 s2 i2 => ?_
  exact p.nx _ m2 _ F2 H2 h2 w2 (s1.trans s2) ((e.mono (s1.trans s2).same).set i i2)
end
end DL
end

section
set_option Elab.async false
set_option linter.all false
set_option maxRecDepth 100000
set_option maxHeartbeats 4000000
namespace EN
open PySem PySem.Spec PyProof.Rows L2
open AutoSeq1 (wpAny_loadPart')
/-! ### enumerate(tuple) -/
theorem meets_newT (l : Addr) (items : Array Value) (n : Nat) (dct : Option Addr) (sl : Array (Option Value)) :
    Meets (Builtin.«enumerate.__new__» ⟨[.type "enumerate", .ref l], []⟩) (fun _ R s => s.heap.get? l = some { cls := .type "tuple", dict := dct, data := .seq items n, slots := sl } ∧
      R (.ok (.ret (.ref (s.heap.push { cls := .type "tuple_iterator", data := .fields #[.ref l, .int 0 0] }).objs.size)))
        { s with heap := (s.heap.push { cls := .type "tuple_iterator", data := .fields #[.ref l, .int 0 0] }).push { cls := .type "enumerate", data := .fields #[.none, .bool false, .ref s.heap.objs.size, rawInt 0, .none, .none] } }) :=
  .of_wp fun prog w A R s h => by
    obtain ⟨hp, g, d, tk, os⟩ := s; obtain ⟨hl, h⟩ := h
    have hsub := sub_enumerate
    have hL : Heap.IsTuple (Shared.heap ⟨hp, g, d, tk, os⟩) l items := ⟨_, hl, rfl, n, rfl⟩
    wp_walk using wpAny_loadPart' hl
    refine wpAny_stack_any fun st => wpAny_pure ?_
    split
    · rename_i c _ _ _ _ _
      cases (c == Value.type "enumerate")
      · wp_walk using wpAny_loadPart' hl, wpAny_pyIter_tuple hL
        exact ⟨_, rfl, h⟩
      · wp_walk using wpAny_loadPart' hl, wpAny_pyIter_tuple hL
        exact ⟨_, rfl, h⟩
    · wp_walk using wpAny_loadPart' hl, wpAny_pyIter_tuple hL
      exact ⟨_, rfl, h⟩
section
variable {prog : Program} {w : World} {A : Around} {E : Value → Shared → Prop} {s : Shared}
theorem call_enum_tuple {l : Addr} {items : Array Value} {Q : Value → Shared → Prop} (hL : s.heap.IsTuple l items)
    (h : ∀ h', IsEnum h' (s.heap.objs.size + 1) s.heap.objs.size 0 .none → h'.IsTupleIter s.heap.objs.size l 0 → h'.objs.size = s.heap.objs.size + 2 →
      (∀ b o, s.heap.get? b = some o → h'.get? b = some o) → Q (.ref (s.heap.objs.size + 1)) { s with heap := h' }) :
    wpAny (model prog w) A (call (.type "enumerate") [.ref l]) Q E s := by
  obtain ⟨⟨c, dct, dt, sl⟩, hl, hc, n, hd⟩ := hL
  replace hc : c = .type "tuple" := hc
  replace hd : dt = .seq items n := hd
  subst hc hd
  refine callType_new PySem.F.called_enumerate (by decide) (PySem.F.typeCall_enumerate_1 _) (PySem.F.newCall_enumerate_1 _) (fun obj => PySem.F.args_object_init_2 obj _) PySem.F.entry_enumerate_new
    (meets_newT l items n dct sl) ⟨hl, ?_⟩
  have hz : (s.heap.push { cls := .type "tuple_iterator", data := .fields #[.ref l, .int 0 0] }).objs.size = s.heap.objs.size + 1 := Heap.size_push ..
  show _ ∧ _
  rw [hz]
  have he : IsEnum ((s.heap.push { cls := .type "tuple_iterator", data := .fields #[.ref l, .int 0 0] }).push
      { cls := .type "enumerate", data := .fields #[.none, .bool false, .ref s.heap.objs.size, rawInt 0, .none, .none] }) (s.heap.objs.size + 1) s.heap.objs.size 0 .none := by
    have := Heap.get?_push_size (s.heap.push { cls := .type "tuple_iterator", data := .fields #[.ref l, .int 0 0] })
      (o := { cls := .type "enumerate", data := .fields #[.none, .bool false, .ref s.heap.objs.size, rawInt 0, .none, .none] }) rfl
    rw [hz] at this; exact this
  refine ⟨⟨_, he, rfl⟩, h _ he ⟨_, Heap.get?_push_of_some _ (Heap.get?_push_size _ rfl), rfl, rfl⟩ (by rw [Heap.size_push, hz]) fun b o x => Heap.get?_push_of_some _ (Heap.get?_push_of_some _ x)⟩
end
def IteT (K : PySem.W.Frag) (a : Addr) : It :=
  ⟨fun i H => ∃ (xs : List V) (x : V), SqT K H a xs ∧ xs[i]? = some x, fun i H v H' => ∃ T x, v = .ref T ∧ H T = none ∧ H' = upd H T (.tup [.int (i : Nat), x]) ∧ ∀ xs, SqT K H a xs → xs[i]? = some x, fun i H => ∃ xs : List V, SqT K H a xs ∧ xs.length ≤ i⟩
theorem turn_enumT {P : Program} {w : World} {K : PySem.W.Frag} {elts : List Expr} {kk : Nat} {tpos : Pos} (a e it : Addr) (hea : a ≠ e) (hia : a ≠ it) :
    Turn P w K (.Tuple elts kk tpos) (IteT K a) [e, it] e (fun i h => (∃ old, IsEnum h e it ((i : Nat) : Int) old) ∧ h.IsTupleIter it a i ∧ e ≠ it) where
  mem := by simp
  obj := fun i h st b hb => by
    obtain ⟨⟨old, he⟩, ⟨o, ho, hc, hd⟩, _⟩ := st
    have e' : b = e ∨ b = it := by simpa using hb
    rcases e' with z | z
    · rw [z]; exact ⟨_, he, fun v q => nomatch q⟩
    · rw [z]; exact ⟨o, ho, fun v q => by rw [hd] at q; cases q⟩
  keep := fun i h h' st k => let ⟨⟨old, he⟩, hi, hne⟩ := st; ⟨⟨old, k e (by simp) _ he⟩, hi.at fun o q => k it (by simp) o q, hne⟩
  item := by
    intro X hP hw hK hc i pins s σ H E I hf st hg
    subst hP hw hK
    obtain ⟨⟨old, he⟩, hit, hne⟩ := st
    obtain ⟨xs, x, hq, hx⟩ := hg
    obtain ⟨its, rv, p, hz⟩ := I.tuple hq
    have hel : e < s.heap.objs.size := Heap.lt_size he
    have hil : it < s.heap.objs.size := by obtain ⟨_, q, _⟩ := hit; exact Heap.lt_size q
    have hlt : i < its.toArray.size := by
      have h1 := (List.getElem?_eq_some_iff.mp hx).1
      have h2 := rv.length
      simp; omega
    refine wpAny_pyNext_enum_itemD (Draws.tuple (A := X.A.in1) (I.ok.hd hc) it a hia its.toArray) he ⟨hit, p⟩ hlt hne (by simp [hne, Ne.symm hea]) fun v h' tk hP ho hit' hT hsz hk => ?_
    have hv : its[i]? = some v := by simpa using hP
    obtain ⟨u0, hu, ru0⟩ := rv.get hx
    have ru : L2.RelV x v := by rw [← Option.some.inj (hu.symm.trans hv)]; exact ru0
    refine ⟨_, rfl, wpAny_letOwnedTupleGo_enum (s := { s with heap := h', toks := tk + 1 }) ho fun h'' he' sb => ?_⟩
    have hT2 : h''.get? s.heap.objs.size = some { cls := .type "tuple", data := .seq #[.int i tk, v] } := (sb.2 _ (Nat.ne_of_gt hel)).trans hT
    have new : ObjOk X.prog X.w (upd H s.heap.objs.size (.tup [.int (i : Nat), x])) h'' s.heap.objs.size (.tup [.int (i : Nat), x]) :=
      ⟨by show 2 ≤ sizeLine; decide, [.int i tk, v], .cons ⟨_, rfl⟩ (.cons ru .nil), ⟨_, hT2, rfl, _, rfl⟩⟩
    have I1 : Inv X pins σ (upd H s.heap.objs.size (.tup [.int (i : Nat), x])) { s with heap := h'', toks := tk + 1 } :=
      I.turnedNew (ch := [e, it]) (fun b ob hb q => (sb.2 b (fun z => hb (by simp [z]))).trans (hk b ob (fun z => hb (by simp [z])) (fun z => hb (by simp [z])) q)) hf (Nat.le_refl _) new
    refine ⟨.ref s.heap.objs.size, _, I1, rfl, ⟨_, x, rfl, I.hok.fresh (Nat.le_refl _), rfl, fun ys hy => by rw [I.tuple_inj hy hq]; exact hx⟩, ⟨⟨v, ?_⟩, hit'.1.at fun o q => (sb.2 it (Ne.symm hne)).trans q, hne⟩, fun b hb => ?_⟩
    · have e1 : ((i + 1 : Nat) : Int) = (i : Int) + 1 := by omega
      rw [e1]; exact he'
    · have hb' : b < s.heap.objs.size := by
        have e' : b = e ∨ b = it := by simpa using hb
        rcases e' with z | z
        · rw [z]; exact hel
        · rw [z]; exact hil
      rw [upd_ne (Nat.ne_of_lt hb')]
      exact (hf b hb).1
  done := by
    intro X hP hw hK hc i pins s σ H E I hf st hg
    subst hP hw hK
    obtain ⟨⟨old, he⟩, hit, hne⟩ := st
    obtain ⟨xs, hq, hx⟩ := hg
    obtain ⟨its, rv, p, hz⟩ := I.tuple hq
    obtain ⟨f0, f1, f2, f3, f4, f5⟩ := hf it (by simp)
    have hl := rv.length
    have hh := I.ok.hd hc
    have hT : s.TypeIs (.ref e) "enumerate" := ⟨_, he, rfl⟩
    unfold pyNext
    refine wpAny_bind (wpAny_attempt (wpAny_callSpecial?_slot (name := Str.ofString "__next__") hT PySem.F.slot_enumerate_next
      (wpAny_call_entry PySem.F.slot_enumerate_next hT PySem.F.entry_enumerate_next ?_ (PySem.F.args_enumerate_next_1 _))))
    show wpAny _ _ (field (.ref e) 2 >>= _) _ _ _
    refine wpAny_bind (wpAny_field he rfl (x := .ref it) rfl ?_)
    refine wpAny_bind (wpAny_nextOf_tuple_end hh hit p (by simp; omega) fun h' x he' hx' => ?_)
    obtain ⟨o, ho, hc2⟩ := hx'
    refine wpAny_bind (wpAny_isInstance (T := "StopIteration") (b := true) ⟨o, ho, hc2⟩ isSubtype_stop ?_)
    exact wpAny_pure ⟨rfl, I.turned (t' := s.toks) (fun b o hb q => he' b o hb q) f0 f1 f3 f4 f5⟩
  self := fun A i s Q E st h => let ⟨⟨_, he⟩, _⟩ := st; wpAny_pyIter_enum he h
def iEnumT (K : PySem.W.Frag) (ta : TA) : TI := fun σ H R => ta σ H fun vs H1 => ∃ a xs, vs = [.ref a] ∧ SqT K H1 a xs ∧ R (IteT K a) H1
theorem pi_enumT {X : Cx} {e : Expr} {ta : TA} {p pos tpos : Pos} {elts : List Expr} {kk : Nat} (hg : Gl X "enumerate") (hm : X.mg "enumerate" = none) (ha : PA X [e] ta) (hs : starEach [e] X.env = [(false, eval e X.env)] := by rfl) :
    PI X (.Tuple elts kk tpos) (.Call (.Name "enumerate" p) [e] [] pos) (iEnumT X.K ta) := by
  refine ⟨fun pins s σ H R I h => ?_⟩
  refine Call_ (ld_blt I hg hm boot_enumerate (PyProof.Rows.callWith_type1 (thn (ha.run pos pins s σ H _ I h) fun us s1 ⟨vs, H1, I1, r1, q1⟩ => ?_) hs rfl))
  obtain ⟨a, xs, ex, hq, q⟩ := q1
  subst ex
  cases r1 with
  | cons r rr =>
    cases rr
    cases r
    obtain ⟨its, rv, p', hz⟩ := I1.tuple hq
    have hal : a < s1.heap.objs.size := by obtain ⟨o, ho, _⟩ := id p'; exact Heap.lt_size ho
    refine call_enum_tuple (show s1.heap.IsTuple a its.toArray from p') fun h' he hit hsz hk => wpAny_pyIter_enum he ?_
    have I2 : Inv X pins σ H1 { s1 with heap := h' } := I1.kept (t' := s1.toks) hk
    refine ⟨s1.heap.objs.size + 1, [s1.heap.objs.size + 1, s1.heap.objs.size], _, _, H1, rfl, I2, turn_enumT a (s1.heap.objs.size + 1) s1.heap.objs.size (Nat.ne_of_lt (Nat.lt_succ_of_lt hal)) (Nat.ne_of_lt hal), ⟨⟨.none, he⟩, hit, Nat.succ_ne_self _⟩, fun b hb => ?_, q⟩
    have e' : b = s1.heap.objs.size + 1 ∨ b = s1.heap.objs.size := by simpa using hb
    have hle : s1.heap.objs.size ≤ b := by
      rcases e' with z | z
      · rw [z]; exact Nat.le_add_right _ _
      · rw [z]; exact Nat.le_refl _
    exact I1.fpOk hle (I1.hok.fresh hle)
open DL
def enumD (xs : List D) : List D := (List.range xs.length).map fun (i : Nat) => D.tup [.int (i : Int), xs.getD i .non]
theorem enumD_get {xs : List D} {i : Nat} {d : D} (h : (enumD xs)[i]? = some d) : ∃ x, xs[i]? = some x ∧ d = .tup [.int (i : Int), x] := by
  unfold enumD at h
  rw [List.getElem?_map] at h
  cases e : (List.range xs.length)[i]? with
  | none => rw [e] at h; cases h
  | some j =>
    rw [e] at h
    obtain ⟨h1, h2⟩ := List.getElem?_eq_some_iff.mp e
    rw [List.length_range] at h1
    rw [List.getElem_range] at h2
    subst h2
    refine ⟨xs[i], List.getElem?_eq_getElem h1, ?_⟩
    rw [← Option.some.inj h]
    show D.tup [D.int (i : Int), xs.getD i .non] = _
    rw [List.getD_eq_getElem?_getD, List.getElem?_eq_getElem h1]
    rfl
theorem enumD_len {xs : List D} : (enumD xs).length = xs.length := by unfold enumD; rw [List.length_map, List.length_range]
section
variable {K : PySem.W.Frag} {r : En} {m : Mu} {F0 : Hp}
theorem walks_enumT {a : Addr} {vs : List V} {xs : List D} (h : SqT K F0 a vs) (hi : IsL K F0 xs vs) : Walks K (IteT K a) (enumD xs) F0 := fun i F H m s w => by
  have hq : SqT K H a vs := Same.tq (s.trans w.same) h
  have hl := hi.len
  rw [enumD_len]
  refine ⟨fun hlt => ⟨⟨vs, vs[i]'(by omega), hq, List.getElem?_eq_getElem (by omega)⟩, fun v H' y => ?_⟩, fun hle => ⟨vs, hq, by omega⟩⟩
  obtain ⟨T, x, rfl, hT, rfl, f1⟩ := y
  refine ⟨upd F T (.tup [.int (i : Nat), x]), w.newF hT, Stp.newF w hT, fun d hd => ?_⟩
  obtain ⟨dx, e1, rfl⟩ := enumD_get hd
  obtain ⟨d1, g1, g2⟩ := hi.get (f1 vs hq)
  rw [e1] at g1; cases g1
  have sm := (Stp.newF (u := .tup [.int (i : Nat), x]) w hT).same
  exact ⟨T, _, rfl, SqT.of upd_same, _, _, rfl, rfl, x, [], rfl, Is.mono (s.trans sm) _ _ g2, rfl⟩
theorem i_enumT {ki : List D → Mu → Prop} {ta : TA} (h : wA K ta r m fun ds m1 => ∃ xs, ds = [.tup xs] ∧ ki (enumD xs) m1) : wI K (iEnumT K ta) r m ki := fun σ F H R w e p => by
  refine h σ F H _ w e fun ds m1 vs F1 H1 h1 w1 s1 i1 => ?_
  obtain ⟨xs, rfl, h1⟩ := h1
  obtain ⟨v, t, rfl, ⟨a, us, rfl, h2, h3⟩, rfl⟩ := i1
  exact ⟨a, us, rfl, Same.tq w1.same h2, p _ m1 F1 H1 _ h1 w1 s1 (walks_enumT h2 h3)⟩
end
end EN
end

section
set_option Elab.async false
set_option linter.all false
set_option maxRecDepth 100000
set_option maxHeartbeats 4000000
namespace DL
open PySem PySem.Spec PyProof.Rows L2
section
variable {K : PySem.W.Frag} {r : En} {m : Mu}
theorem a_star {k : List D → Mu → Prop} {te : TE} {t : TA} (h : wE K te r m fun x m1 => ∃ xs, (x = .tup xs ∨ x = .lst xs) ∧ wA K t r m1 fun ys m2 => k (xs ++ ys) m2) : wA K (StX.tStar K te t) r m k := fun σ F H Q w e p => by
  refine h σ F H _ w e fun x m1 v F1 H1 h1 w1 s1 i1 => ?_
  obtain ⟨xs, hx, h1⟩ := h1
  have key : ∃ a us, v = .ref a ∧ (SqT K H1 a us ∨ SqL K H1 a us) ∧ IsL K F1 xs us := by
    rcases hx with rfl | rfl
    · obtain ⟨a, us, rfl, h2, h3⟩ := i1
      exact ⟨a, us, rfl, .inl (Same.tq w1.same h2), h3⟩
    · obtain ⟨a, us, rfl, h2, h3⟩ := i1
      exact ⟨a, us, rfl, .inr (w1.same.seq h2), h3⟩
  obtain ⟨a, us, rfl, h2, h3⟩ := key
  refine ⟨a, us, rfl, h2, ?_⟩
  refine h1 σ F1 H1 _ w1 (e.mono s1.same) fun ys m2 vs F2 H2 h4 w2 s2 i2 => ?_
  exact p (xs ++ ys) m2 (us ++ vs) F2 H2 h4 w2 (s1.trans s2) ((IsL.mono s2.same _ _ h3).app i2)
theorem t_yes {kt : Bool → Mu → Prop} (h : kt true m) : wT K tYes r m kt := fun σ F H Q w e p => p true m F H h w Stp.refl
/-- a loop over things that are known one by one -/
def Unr (K : PySem.W.Frag) (g : TG) (tb : TS) (k : KS) : List D → En → Mu → Prop
  | [], r, m => k.nx r m
  | x :: xs, r, m => wG K g x r m fun r2 m2 => wS K tb r2 m2 { nx := fun r3 m3 => Unr K g tb k xs r3 m3, rt := k.rt, bk := k.nx, ct := fun r3 m3 => Unr K g tb k xs r3 m3 }
theorem s_forU {wi : TI} {g : TG} {tb : TS} {k : KS} (h : wI K wi r m fun xs m1 => Unr K g tb k xs r m1) : wS K (tFor wi g tb) r m k := by
  refine s_for fun σ F H R w e p => h σ F H R w e fun xs m' F' H' J hk w' s' hw => p xs m' F' H' J ⟨fun i r2 m2 => Unr K g tb k (xs.drop i) r2 m2, hk, fun i x r2 m2 hx hI => ?_, fun r2 m2 hI => ?_⟩ w' s' hw
  · have hd : xs.drop i = x :: xs.drop (i + 1) := by
      obtain ⟨h1, h2⟩ := List.getElem?_eq_some_iff.mp hx
      rw [← h2]
      exact List.drop_eq_getElem_cons h1
    dsimp only at hI
    rw [hd] at hI
    exact hI
  · dsimp only at hI
    rw [List.drop_length] at hI
    exact hI
/-- a comprehension over things that are known one by one -/
def UnrC (K : PySem.W.Frag) (g : TG) (tt : TT) (te : TE) (r0 : En) (k : D → Mu → Prop) : List D → List D → Mu → Prop
  | [], acc, m => k (.lst acc) m
  | x :: xs, acc, m => wG K g x r0 m fun r2 m2 => wT K tt r2 m2 fun b m3 => if b = true then wE K te r2 m3 fun d m4 => UnrC K g tt te r0 k xs (acc ++ [d]) m4 else UnrC K g tt te r0 k xs acc m3
theorem e_lcU {wi : TI} {g : TG} {tt : TT} {te : TE} {vs : List Nat} {k : D → Mu → Prop} (hg : GIn g vs) (h : wI K wi r m fun xs m1 => xs.length < 100000 ∧ UnrC K g tt te (wipeD r vs) k xs [] m1) : wE K (tLc wi g tt te vs) r m k := by
  refine e_lc hg fun σ F H R w e p => h σ F H R w e fun xs m' F' H' J hk w' s' hw => p xs m' F' H' J ⟨hk.1, fun i acc m2 => UnrC K g tt te (wipeD r vs) k (xs.drop i) acc m2, hk.2, fun i x acc m2 hx hI => ?_, fun acc m2 hI => .inl ?_⟩ w' s' hw
  · have hd : xs.drop i = x :: xs.drop (i + 1) := by
      obtain ⟨h1, h2⟩ := List.getElem?_eq_some_iff.mp hx
      rw [← h2]
      exact List.drop_eq_getElem_cons h1
    dsimp only at hI
    rw [hd] at hI
    exact hI
  · dsimp only at hI
    rw [List.drop_length] at hI
    exact hI
/-- a comprehension by a function of what is walked -/
theorem e_lcF {wi : TI} {g : TG} {te : TE} {vs : List Nat} {k : D → Mu → Prop} (hg : GIn g vs)
    (h : wI K wi r m fun xs m1 => xs.length < 100000 ∧ ∃ f : D → D, (∀ x ∈ xs, wG K g x (wipeD r vs) m1 fun r2 m2 => m2 = m1 ∧ wE K te r2 m1 fun d m3 => d = f x ∧ m3 = m1) ∧ k (.lst (xs.map f)) m1) : wE K (tLc wi g tYes te vs) r m k := by
  refine e_lc hg fun σ F H R w e p => h σ F H R w e fun xs m' F' H' J hk w' s' hw => ?_
  obtain ⟨hz, f, hf, hk⟩ := hk
  refine p xs m' F' H' J ⟨hz, fun i acc m2 => m2 = m' ∧ acc = (xs.take i).map f, ⟨rfl, by simp⟩, ?_, ?_⟩ w' s' hw
  · rintro i x acc m2 hx ⟨rfl, rfl⟩
    intro v σ2 F2 H2 Q w2 iv e2 p2
    refine hf x (List.mem_of_getElem? hx) v σ2 F2 H2 Q w2 iv e2 fun r3 m3 σ3 F3 H3 h3 w3 s3 e3 => ?_
    obtain ⟨rfl, h3⟩ := h3
    refine p2 r3 m3 σ3 F3 H3 (t_yes ?_) w3 s3 e3
    rw [if_pos rfl]
    refine h3.mono fun d m4 ⟨h5, h6⟩ => ⟨h6, ?_⟩
    rw [h5, List.take_add_one, hx, List.map_append]
    rfl
  · rintro acc m2 ⟨rfl, rfl⟩
    rw [List.take_length]
    exact .inl hk
theorem ite_d1 {c : Bool} {A B : Prop} (hc : c = true) (h : A) : if c = true then A else B := by rw [if_pos hc]; exact h
theorem ite_d0 {c : Bool} {A B : Prop} (hc : c = false) (h : B) : if c = true then A else B := by rw [hc, if_neg Bool.false_ne_true]; exact h
theorem e_chain {o o' : R2} {ta tb tc : TE} {k : D → Mu → Prop} (h : wE K ta r m fun x m1 => wE K tb r m1 fun y m2 => wR K o x y m2 fun z m3 => ∃ b, z = .bl b ∧ if b = true then wE K tc r m3 fun u m4 => wR K o' y u m4 k else k (.bl false) m3) : wE K (tChain o o' ta tb tc) r m k := fun σ F H Q w e p => by
  refine h σ F H _ w e fun x m1 vx F1 H1 h1 w1 s1 i1 => ?_
  refine h1 σ F1 H1 _ w1 (e.mono s1.same) fun y m2 vy F2 H2 h2 w2 s2 i2 => ?_
  have s12 := s1.trans s2
  refine h2 vx vy F2 H2 _ w2 (Is.mono s2.same x vx i1) i2 fun z m3 vz F3 H3 h3 w3 s3 i3 => ?_
  obtain ⟨b, rfl, h3⟩ := h3
  have s13 := s12.trans s3
  refine ⟨b, i3, ?_⟩
  cases b with
  | true =>
    refine h3 σ F3 H3 _ w3 (e.mono s13.same) fun u m4 vu F4 H4 h4 w4 s4 i4 => ?_
    exact h4 vy vu F4 H4 Q w4 (Is.mono (s3.trans s4).same y vy i2) i4 (p.step (s13.trans s4))
  | false => exact p (.bl false) m3 _ F3 H3 h3 w3 s13 rfl
section
variable {g : TG} {tt : TT} {te : TE} {r0 : En} {k : D → Mu → Prop} {x : D} {xs acc : List D} {tb : TS} {ks : KS}
theorem unrc_cons (h : wG K g x r0 m fun r2 m2 => wT K tt r2 m2 fun b m3 => if b = true then wE K te r2 m3 fun d m4 => UnrC K g tt te r0 k xs (acc ++ [d]) m4 else UnrC K g tt te r0 k xs acc m3) : UnrC K g tt te r0 k (x :: xs) acc m := h
theorem unrc_nil (h : k (.lst acc) m) : UnrC K g tt te r0 k [] acc m := h
theorem unr_cons (h : wG K g x r m fun r2 m2 => wS K tb r2 m2 { nx := fun r3 m3 => Unr K g tb ks xs r3 m3, rt := ks.rt, bk := ks.nx, ct := fun r3 m3 => Unr K g tb ks xs r3 m3 }) : Unr K g tb ks (x :: xs) r m := h
theorem unr_nil (h : ks.nx r m) : Unr K g tb ks [] r m := h
theorem unrc_r3 (h : UnrC K g tt te r0 k [.int 0, .int 1, .int 2] acc m) : UnrC K g tt te r0 k (rangeD 0 (Int.toNat 3)) acc m := h
theorem unrc_r4 (h : UnrC K g tt te r0 k [.int 0, .int 1, .int 2, .int 3] acc m) : UnrC K g tt te r0 k (rangeD 0 (Int.toNat 4)) acc m := h
theorem unr_r3 (h : Unr K g tb ks [.int 0, .int 1, .int 2] r m) : Unr K g tb ks (rangeD 0 (Int.toNat 3)) r m := h
theorem unr_r4 (h : Unr K g tb ks [.int 0, .int 1, .int 2, .int 3] r m) : Unr K g tb ks (rangeD 0 (Int.toNat 4)) r m := h
theorem unrc_z3 {a b c a' b' c' : D} (h : UnrC K g tt te r0 k [.tup [a, a'], .tup [b, b'], .tup [c, c']] acc m) : UnrC K g tt te r0 k (zipD [a, b, c] [a', b', c']) acc m := h
theorem unr_e3 {a b c : D} (h : Unr K g tb ks [.tup [.int 0, a], .tup [.int 1, b], .tup [.int 2, c]] r m) : Unr K g tb ks (EN.enumD [a, b, c]) r m := h
theorem i_zipT {ta : TA} {ki : List D → Mu → Prop} (h : wA K ta r m fun ds m1 => ∃ xs ys, ds = [.tup xs, .tup ys] ∧ ki (zipD xs ys) m1) : wI K (RZ.iZipA K ta) r m ki := i_zipA (h.mono fun ds m1 z => .inr z)
theorem i_zipL {ta : TA} {ki : List D → Mu → Prop} (h : wA K ta r m fun ds m1 => ∃ xs ys, ds = [.lst xs, .lst ys] ∧ ki (zipD xs ys) m1) : wI K (RZ.iZipA K ta) r m ki := i_zipA (h.mono fun ds m1 z => .inl z)
theorem unr_r2 (h : Unr K g tb ks [.int 0, .int 1] r m) : Unr K g tb ks (rangeD 0 (Int.toNat 2)) r m := h
end
end
end DL
namespace DL
open PySem PySem.Spec PyProof.Rows L2
/-! ### rules whose reading names K itself (within a comprehension's block) -/
section
variable {X : Cx} {K : PySem.W.Frag}
theorem ix_seqK (hK : X.K = K) : IxR X (rIx K) := by subst hK; exact ix_seq
theorem sl_listK (hK : X.K = K) : SlR X (rSlL K) := by subst hK; exact sl_list
theorem call_len_seqK (hK : X.K = K) : CallR X (.builtin "len") (fun xs H Q => ∃ p ys, xs = [.ref p] ∧ (SqL K H p ys ∨ SqT K H p ys) ∧ Q (.int ys.length) H) := by subst hK; exact call_len_seq
theorem call_isiK0 (hK : X.K = K) : CallR X (.builtin "isinstance") (rIsi K) := by subst hK; exact call_isi
theorem call_isiTK (hK : X.K = K) : CallR X (.builtin "isinstance") (rIsiT K) := by subst hK; exact call_isiT
theorem cr_allK (hK : X.K = K) (hc : X.calm = true) : CallR X (.builtin "all") (rAll K) := by subst hK; exact cr_all hc
theorem cr_sumK (hK : X.K = K) (hc : X.calm = true) : CallR X (.builtin "sum") (rSum K) := by subst hK; exact cr_sum hc
theorem call_tuple_ofK (hK : X.K = K) : CallR X (.type "tuple") (fun xs H Q => ∃ p ys, xs = [.ref p] ∧ ((SqL K H p ys ∧ ∀ l, H l = none → Q (.ref l) (upd H l (.tup ys))) ∨ (SqT K H p ys ∧ Q (.ref p) H))) := by subst hK; exact call_tuple_of
theorem call_list_ofK (hK : X.K = K) : CallR X (.type "list") (fun xs H Q => ∃ p ys, xs = [.ref p] ∧ (SqL K H p ys ∨ SqT K H p ys) ∧ ∀ l, H l = none → Q (.ref l) (upd H l (.lst ys))) := by subst hK; exact call_list_of
theorem pe_fldK {e : Expr} {f : Str} {pos : Pos} {ta : TE} (hK : X.K = K) (he : PE X e ta) (hb : attributeBase e f X.env (eval e X.env) = eval e X.env) : PE X (.Attribute e f pos) (tFld K ta f) := by subst hK; exact pe_fld he hb
theorem pi_listK {tg l : Expr} {tl : TE} (hK : X.K = K) (hl : PE X l tl) : PI X tg l (iList K tl) := by subst hK; exact pi_list hl
theorem pi_tupK {tg l : Expr} {tl : TE} (hK : X.K = K) (hl : PE X l tl) : PI X tg l (iTup K tl) := by subst hK; exact pi_tup hl
theorem pg_tupK2 {es : List Expr} {k : Nat} {t : TGs} {pos : Pos} (hK : X.K = K) (hp : PG X (.Tuple es k pos) (gTup X.K es.length t)) : PG X (.Tuple es k pos) (gTup K es.length t) := by subst hK; exact hp
end
end DL
end

section
set_option Elab.async false
set_option linter.all false
set_option maxRecDepth 100000
set_option maxHeartbeats 4000000
namespace DL
open PySem PySem.Spec PyProof.Rows L2
section
variable {K : PySem.W.Frag} {r : En} {m : Mu} {k : D → Mu → Prop}
theorem kit2 {t a c : Value} {b1 b2 : Bool} (h1 : PySem.W.kitOne K t a = some b1) (h2 : PySem.W.kitOne K t c = some b2) : PySem.W.kitAny K t [a, c] = some (b1 || b2) := by
  refine kitAny_cons h1 (fun hb => ?_) (fun hb => by rw [hb]; rfl)
  rw [hb]
  exact kitAny_cons h2 (fun hb2 => by rw [hb2]; rfl) (fun hb2 => by rw [hb2]; rfl)
/-- plain data -/
def Pl (K : PySem.W.Frag) (m : Mu) (x : D) (d : PyData) : Prop := ∀ F H v, Wd K F H m → Is K F x v → Dp K H v d
def PlA (K : PySem.W.Frag) (m : Mu) (xs : List D) (ds : List PyData) : Prop := ∀ F H vs, Wd K F H m → IsL K F xs vs → DpAll K H vs ds
theorem pl_bl (b : Bool) : Pl K m (.bl b) (.bool b) := fun F H v w i => by obtain rfl : v = .bl b := i; exact .bl b
theorem pl_int (b : Int) : Pl K m (.int b) (.int b) := fun F H v w i => by obtain rfl : v = .int b := i; exact .int b
theorem pla_nil : PlA K m [] [] := fun F H vs w i => by obtain rfl : vs = [] := i; exact .nil
theorem pla_cons {x : D} {xs : List D} {d : PyData} {ds : List PyData} (h : Pl K m x d) (t : PlA K m xs ds) : PlA K m (x :: xs) (d :: ds) := fun F H vs w i => by
  obtain ⟨v, us, rfl, i1, i2⟩ := i
  exact .cons (h F H v w i1) (t F H us w i2)
theorem pl_lst {xs : List D} {ds : List PyData} (h : PlA K m xs ds) : Pl K m (.lst xs) (.list ds) := fun F H v w i => by
  obtain ⟨a, us, rfl, h1, h2⟩ := i
  exact .lst (w.same.seq h1) (h F H us w h2)
theorem pl_tup {xs : List D} {ds : List PyData} (h : PlA K m xs ds) : Pl K m (.tup xs) (.tuple ds) := fun F H v w i => by
  obtain ⟨a, us, rfl, h1, h2⟩ := i
  exact .tup (Same.tq w.same h1) (h F H us w h2)
theorem r_neD {x y : D} {d e : PyData} (hx : Pl K m x d) (hy : Pl K m y e) (sd : SeqAt.shaped d = true) (se : SeqAt.shaped e = true) (q : k (.bl (!PyData.eqv d e)) m) : wR K (rNeD K) x y m k := fun vx vy F H Q w ix iy p =>
  ⟨d, e, hx F H vx w ix, hy F H vy w iy, sd, se, p.now w q rfl⟩
theorem r_eqD {x y : D} {d e : PyData} (hx : Pl K m x d) (hy : Pl K m y e) (sd : SeqAt.shaped d = true) (se : SeqAt.shaped e = true) (q : k (.bl (PyData.eqv d e)) m) : wR K (rEqD K) x y m k := fun vx vy F H Q w ix iy p =>
  ⟨d, e, hx F H vx w ix, hy F H vy w iy, sd, se, p.now w q rfl⟩
theorem r_ne_bb {a b c e : Bool} (q : k (.bl (!(a == c && b == e))) m) : wR K (rNeD K) (.lst [.bl a, .bl b]) (.lst [.bl c, .bl e]) m k := by
  refine r_neD (pl_lst (pla_cons (pl_bl a) (pla_cons (pl_bl b) pla_nil))) (pl_lst (pla_cons (pl_bl c) (pla_cons (pl_bl e) pla_nil))) (by cases a <;> cases b <;> decide +kernel) (by cases c <;> cases e <;> decide +kernel) ?_
  have : PyData.eqv (.list [.bool a, .bool b]) (.list [.bool c, .bool e]) = (a == c && b == e) := by cases a <;> cases b <;> cases c <;> cases e <;> decide +kernel
  rw [this]; exact q
theorem r_eq_bb {a b c e : Bool} (q : k (.bl (a == c && b == e)) m) : wR K (rEqD K) (.lst [.bl a, .bl b]) (.lst [.bl c, .bl e]) m k := by
  refine r_eqD (pl_lst (pla_cons (pl_bl a) (pla_cons (pl_bl b) pla_nil))) (pl_lst (pla_cons (pl_bl c) (pla_cons (pl_bl e) pla_nil))) (by cases a <;> cases b <;> decide +kernel) (by cases c <;> cases e <;> decide +kernel) ?_
  have : PyData.eqv (.list [.bool a, .bool b]) (.list [.bool c, .bool e]) = (a == c && b == e) := by cases a <;> cases b <;> cases c <;> cases e <;> decide +kernel
  rw [this]; exact q
/-- a comprehension whose list may change later -/
theorem e_lcUM {wi : TI} {g : TG} {tt : TT} {te : TE} {vs : List Nat} (hg : GIn g vs) (h : wI K wi r m fun xs m1 => xs.length < 100000 ∧ UnrC K g tt te (wipeD r vs) (fun d m2 => ∃ acc, d = .lst acc ∧ ∀ a, m2 a = none → k (.ref a) (updM m2 a (.lst acc))) xs [] m1) : wE K (tLc wi g tt te vs) r m k := by
  refine e_lc hg fun σ F H R w e p => h σ F H R w e fun xs m' F' H' J hk w' s' hw => p xs m' F' H' J ⟨hk.1, fun i acc m2 => UnrC K g tt te (wipeD r vs) (fun d m2 => ∃ acc, d = .lst acc ∧ ∀ a, m2 a = none → k (.ref a) (updM m2 a (.lst acc))) (xs.drop i) acc m2, hk.2, fun i x acc m2 hx hI => ?_, fun acc m2 hI => .inr ?_⟩ w' s' hw
  · have hd : xs.drop i = x :: xs.drop (i + 1) := by
      obtain ⟨h1, h2⟩ := List.getElem?_eq_some_iff.mp hx
      rw [← h2]
      exact List.drop_eq_getElem_cons h1
    dsimp only at hI
    rw [hd] at hI
    exact hI
  · dsimp only at hI
    rw [List.drop_length] at hI
    obtain ⟨acc', e, q⟩ := hI
    cases e
    exact q
end
end DL
end

section
set_option Elab.async false
set_option linter.all false
set_option maxRecDepth 100000
set_option maxHeartbeats 4000000
namespace DL
open PySem PySem.Spec PyProof.Rows L2
section
variable {K : PySem.W.Frag} {r : En} {m : Mu} {k : D → Mu → Prop}
theorem IsL.drop' {F : Hp} : ∀ (i : Nat) {xs : List D} {vs : List V}, IsL K F xs vs → IsL K F (xs.drop i) (vs.drop i)
  | 0, xs, vs, h => by simpa using h
  | i + 1, [], vs, h => by obtain rfl : vs = [] := h; exact rfl
  | i + 1, x :: xs, vs, h => by
    obtain ⟨v, us, rfl, _, h2⟩ := h
    simpa using IsL.drop' i h2
theorem cut_drop (vs : List V) (i : Nat) : cutV vs (some (i : Int)) none = vs.drop i := by
  unfold cutV
  rw [HT.sIx_nat, HT.sIx_none]
  rcases Nat.le_total i vs.length with h | h
  · rw [Nat.min_eq_left h]
    exact List.take_of_length_le (by rw [List.length_drop]; omega)
  · rw [Nat.min_eq_right h, List.drop_of_length_le h, List.drop_of_length_le (Nat.le_refl _)]
    exact List.take_nil
theorem e_sl1 {te tl : TE} (h : wE K te r m fun x m1 => ∃ xs, x = .lst xs ∧ wE K tl r m1 fun l m2 => ∃ i : Nat, l = .int (i : Int) ∧ k (.lst (xs.drop i)) m2) : wE K (tSl (rSlL K) te (tPart tl) tNoPart) r m k := fun σ F H Q w e p => by
  refine h σ F H _ w e fun x m1 vx F1 H1 h1 w1 s1 i1 => ?_
  obtain ⟨xs, rfl, h1⟩ := h1
  refine h1 σ F1 H1 _ w1 (e.mono s1.same) fun l m2 vl F2 H2 h2 w2 s2 i2 => ?_
  obtain ⟨i, rfl, q⟩ := h2
  refine ⟨(i : Int), i2, ?_⟩
  obtain ⟨a, us, rfl, g1, g2⟩ := Is.mono s2.same _ _ i1
  refine ⟨a, us, rfl, w2.same.seq g1, fun b hb => ?_⟩
  rw [cut_drop]
  have s3 := Stp.newF (u := .lst (us.drop i)) w2 hb
  exact p (.lst (xs.drop i)) m2 _ _ _ q (w2.newF hb) ((s1.trans s2).trans s3) ⟨b, _, rfl, SqL.of upd_same, IsL.mono s3.same _ _ (IsL.drop' i g2)⟩
end
end DL
end

section
set_option Elab.async false
set_option linter.all false
set_option maxRecDepth 100000
set_option maxHeartbeats 4000000
namespace DL
open PySem PySem.Spec PyProof.Rows L2
section
variable {K : PySem.W.Frag} {r r0 : En} {m : Mu} {g : TG} {tt : TT} {te : TE} {tb : TS} {ks : KS} {k : D → Mu → Prop}
/-- a comprehension by a function of what is walked -/
theorem unrc_map (f : D → D) : ∀ {xs acc : List D} {m : Mu}, (∀ x ∈ xs, wG K g x r0 m fun r2 m2 => m2 = m ∧ wE K te r2 m fun d m3 => d = f x ∧ m3 = m) → k (.lst (acc ++ xs.map f)) m → UnrC K g tYes te r0 k xs acc m
  | [], acc, m, h, hk => by simpa [UnrC] using hk
  | x :: xs, acc, m, h, hk => by
    refine unrc_cons fun v σ F H Q w iv e p => h x (by simp) v σ F H Q w iv e fun r2 m2 σ2 F2 H2 h2 w2 s2 e2 => p r2 m2 σ2 F2 H2 ?_ w2 s2 e2
    obtain ⟨rfl, h2⟩ := h2
    refine t_yes ?_
    rw [if_pos rfl]
    refine h2.mono fun d m3 ⟨h3, h4⟩ => ?_
    subst h3 h4
    refine unrc_map f (fun y hy => h y (by simp [hy])) ?_
    simpa using hk
/-- a comprehension with an invariant -/
theorem unrc_inv (I : List D → Mu → Prop) : ∀ {xs acc : List D} {m : Mu}, I acc m → (∀ x ∈ xs, ∀ acc m', I acc m' → wG K g x r0 m' fun r2 m2 => wT K tt r2 m2 fun b m3 => if b = true then wE K te r2 m3 fun d m4 => I (acc ++ [d]) m4 else I acc m3) → (∀ acc m', I acc m' → k (.lst acc) m') → UnrC K g tt te r0 k xs acc m
  | [], acc, m, h, hs, hk => hk acc m h
  | x :: xs, acc, m, h, hs, hk => by
    refine unrc_cons fun v σ F H Q w iv e p => hs x (by simp) acc m h v σ F H Q w iv e fun r2 m2 σ2 F2 H2 h2 w2 s2 e2 => p r2 m2 σ2 F2 H2 ?_ w2 s2 e2
    refine h2.mono fun b m3 h3 => ?_
    cases b with
    | true => exact wE.mono h3 fun d m4 h4 => unrc_inv I h4 (fun y hy => hs y (by simp [hy])) hk
    | false => exact unrc_inv I h3 (fun y hy => hs y (by simp [hy])) hk
/-- a loop with an invariant that knows how far it is -/
theorem unr_idx (I : Nat → En → Mu → Prop) : ∀ {xs : List D} {i : Nat} {r : En} {m : Mu}, I i r m → (∀ (j : Nat) x r' m', xs[j]? = some x → I (i + j) r' m' → wG K g x r' m' fun r2 m2 => wS K tb r2 m2 { nx := I (i + j + 1), rt := ks.rt, bk := ks.nx, ct := I (i + j + 1) }) → (∀ r' m', I (i + xs.length) r' m' → ks.nx r' m') → Unr K g tb ks xs r m
  | [], i, r, m, h, hs, he => unr_nil (he r m h)
  | x :: xs, i, r, m, h, hs, he => by
    refine unr_cons fun v σ F H Q w iv e p => hs 0 x r m rfl h v σ F H Q w iv e fun r2 m2 σ2 F2 H2 h2 w2 s2 e2 => p r2 m2 σ2 F2 H2 ?_ w2 s2 e2
    have go : ∀ r3 m3, I (i + 0 + 1) r3 m3 → Unr K g tb ks xs r3 m3 := fun r3 m3 h3 => by
      refine unr_idx I (i := i + 1) h3 (fun j y r' m' hy hI => ?_) (fun r' m' hI => he r' m' ?_)
      · have := hs (j + 1) y r' m' (by simpa using hy) (by rw [show i + (j + 1) = i + 1 + j by omega]; exact hI)
        rw [show i + (j + 1) + 1 = i + 1 + j + 1 by omega] at this
        exact this
      · rw [show i + (x :: xs).length = i + 1 + xs.length by simp; omega]; exact hI
    exact wS.mono h2 go (fun _ _ z => z) (fun _ _ z => z) go
/-- a loop whose turns keep J -/
theorem unr_inv (J : En → Mu → Prop) : ∀ {xs : List D} {r : En} {m : Mu}, J r m → (∀ x ∈ xs, ∀ r' m', J r' m' → wG K g x r' m' fun r2 m2 => wS K tb r2 m2 { nx := J, rt := ks.rt, bk := ks.nx, ct := J }) → (∀ r' m', J r' m' → ks.nx r' m') → Unr K g tb ks xs r m
  | [], r, m, h, hs, he => unr_nil (he r m h)
  | x :: xs, r, m, h, hs, he => by
    refine unr_cons fun v σ F H Q w iv e p => hs x (by simp) r m h v σ F H Q w iv e fun r2 m2 σ2 F2 H2 h2 w2 s2 e2 => p r2 m2 σ2 F2 H2 ?_ w2 s2 e2
    have go : ∀ r3 m3, J r3 m3 → Unr K g tb ks xs r3 m3 := fun r3 m3 h3 => unr_inv J h3 (fun y hy => hs y (by simp [hy])) he
    exact wS.mono h2 go (fun _ _ z => z) (fun _ _ z => z) go
end
theorem ints_get {ns : List Int} {i : Nat} {x : D} (hx : (ns.map D.int)[i]? = some x) : ∃ n, ns[i]? = some n ∧ x = .int n := by
  rw [List.getElem?_map] at hx
  cases e : ns[i]? with
  | none => rw [e] at hx; cases hx
  | some n => rw [e] at hx; exact ⟨n, rfl, (Option.some.inj hx).symm⟩
section
variable {K : PySem.W.Frag} {m : Mu} {k : D → Mu → Prop}
/-- one of some data -/
theorem ix_memL {xs : List D} {j : Int} (h0 : 0 ≤ j) (h1 : j < xs.length) (h : ∀ d, d ∈ xs → k d m) : wR K (rIx K) (.lst xs) (.int j) m k := by
  obtain ⟨i, rfl⟩ := Int.eq_ofNat_of_zero_le h0
  have hi : i < xs.length := by omega
  refine r_ix1 (r_ixL (d := xs[i]) ?_ (h _ (List.getElem_mem hi)))
  have e : ixN xs.length (i : Int) = some i := by
    unfold ixN
    simp [hi]
  unfold atI
  rw [e]
  exact List.getElem?_eq_getElem hi
end
end DL
end

section
set_option Elab.async false
set_option linter.all false
set_option maxRecDepth 100000
set_option maxHeartbeats 4000000
namespace DL
open PySem PySem.Spec PyProof.Rows L2
/-- a list and a list -/
def rCatS (K : PySem.W.Frag) : R2 := fun x y H Q => ∃ a b xs ys, x = .ref a ∧ y = .ref b ∧ SqL K H a xs ∧ SqL K H b ys ∧ xs.length + ys.length ≤ sizeLine ∧ ∀ p, H p = none → Q (.ref p) (upd H p (.lst (xs ++ ys)))
theorem op_catS {X : Cx} {K : PySem.W.Frag} (hK : X.K = K := by rfl) : OpR X (binaryOp .Add) (rCatS K) := by
  subst hK
  intro pins s σ H x y v u Q I rx ry h
  obtain ⟨a, b, xs, ys, rfl, rfl, ha, hb, hz, q⟩ := h
  cases rx
  cases ry
  obtain ⟨us, r1, p1, _⟩ := I.list ha
  obtain ⟨ws, r2, p2, _⟩ := I.list hb
  have l1 := r1.length
  have l2 := r2.length
  obtain ⟨⟨ca, da, ea, sa⟩, ha1, ha2, n1, ha3⟩ := p1.isList
  obtain ⟨⟨cb, db, eb, sb⟩, hb1, hb2, n2, hb3⟩ := p2.isList
  simp only at ha2 ha3 hb2 hb3
  subst ha2 ha3 hb2 hb3
  refine concat_meets ⟨_, ha1, rfl⟩ ⟨_, hb1, rfl⟩ noFill_list_add seq_list_add PySem.F.slot_list_add PySem.F.entry_list_add (PySem.F.args_list_add_2 _ _) (list_addW a b us.toArray ws.toArray n1 n2 da db sa sb (by rw [List.size_toArray, List.size_toArray]; omega)) ⟨ha1, hb1, ?_⟩
  rw [show us.toArray ++ ws.toArray = (us ++ ws).toArray by simp]
  exact ⟨.ref _, _, I.lnew (t' := s.toks) (r1.append r2) (by rw [List.length_append]; omega), rfl, q _ I.fresh⟩
theorem r_catS {K : PySem.W.Frag} {m : Mu} {k : D → Mu → Prop} {xs ys : List D} (hl : xs.length + ys.length ≤ 100000) (q : k (.lst (xs ++ ys)) m) : wR K (rCatS K) (.lst xs) (.lst ys) m k := fun vx vy F H Q w ix iy p => by
  obtain ⟨a, us, rfl, h1, h2⟩ := ix
  obtain ⟨b, ws, rfl, h3, h4⟩ := iy
  refine ⟨a, b, us, ws, rfl, rfl, w.same.seq h1, w.same.seq h3, by rw [← h2.len, ← h4.len, sizeLine_eq]; omega, fun l hl' => ?_⟩
  have s2 := Stp.newF (u := .lst (us ++ ws)) w hl'
  exact p (.lst (xs ++ ys)) m _ _ _ q (w.newF hl') s2 ⟨l, _, rfl, SqL.of upd_same, IsL.mono s2.same _ _ (h2.app h4)⟩
/-- an item of a list that may change -/
theorem ix_memM {K : PySem.W.Frag} {m : Mu} {k : D → Mu → Prop} {b : Addr} {xs : List D} {j : Int} (hm : m b = some (.lst xs)) (h0 : 0 ≤ j) (h1 : j < xs.length) (h : ∀ d, d ∈ xs → k d m) : wR K (rIx K) (.ref b) (.int j) m k := by
  obtain ⟨i, rfl⟩ := Int.eq_ofNat_of_zero_le h0
  have hi : i < xs.length := by omega
  refine r_ix1 (r_ixM (d := xs[i]) hm ?_ (h _ (List.getElem_mem hi)))
  have e : ixN xs.length (i : Int) = some i := by
    unfold ixN
    simp [hi]
  unfold atI
  rw [e]
  exact List.getElem?_eq_getElem hi
end DL
end

section
set_option Elab.async false
set_option linter.all false
set_option maxRecDepth 100000
set_option maxHeartbeats 4000000
namespace EQ
open PySem PySem.SeqAt
open AutoSeq1 (wpAny_loadPart')
open MeetsSeq MeetsSeq2 MeetsSeq3 SeqRoads2
section
variable {prog : Program} {w : World} {A : Around} {R : Result → Shared → Prop}
/-- two lists, read anew at each step, whose ua are equal one by one -/
def LI (prog : Program) (w : World) (A : Around) (E : Value → Shared → Prop) (l b : Addr) (N : Nat) (I : Nat → Shared → Prop) : Prop :=
  ∀ i s, I i s → ∃ (ua ub : Array Value) (n n2 : Nat) (dd dd2 : Option Addr) (sl sl2 : Array (Option Value)), s.heap.get? l = some { cls := .type "list", dict := dd, data := .seq ua n, slots := sl } ∧ s.heap.get? b = some { cls := .type "list", dict := dd2, data := .seq ub n2, slots := sl2 } ∧ ua.size = N ∧ ub.size = N ∧
    ∀ (h1 : i < ua.size) (h2 : i < ub.size), wpAny (model prog w) A.in1 (eqBool ua[i] ub[i]) (fun r s' => r = true ∧ I (i + 1) s') E s
theorem ne_loop (l b : Addr) (N : Nat) (I : Nat → Shared → Prop) (hl : LI prog w A (fun e s' => R (.error e) s') l b N I)
    (fin : ∀ s, I N s → R (.ok (.ret (.bool false))) s) (k : Nat) :
    ∀ i : Nat, N - i = k → i ≤ N → ∀ s, I i s →
      wpAny (model prog w) A.in1 (Builtin.«list.__eq__.loop» ⟨[.ref l, .ref b, rawInt i, rawInt 3], []⟩) (GQ.FinOf prog w A R) (fun e s' => R (.error e) s') s := by
  induction k with
  | zero =>
    intro i hk hi s h
    obtain ⟨ua, ub, n, n2, dd, dd2, sl, sl2, ga, gb, za, zb, _⟩ := hl _ _ h
    have atN : i = N := by omega
    have goalR : R (.ok (.ret (.bool false))) s := fin s (atN ▸ h)
    obtain ⟨hq0, g, d, tz0, oz0⟩ := s
    wp_walk using wpAny_loadPart' ga, wpAny_loadPart' gb
    have ja : ua[((i : Nat) : Int).toNat]? = none := by simp; omega
    have jb : ub[((i : Nat) : Int).toNat]? = none := by simp; omega
    rw [ja, jb]
    wp_walk using wpAny_loadPart' ga, wpAny_loadPart' gb
    show R (.ok (.ret (.bool (ua.size != ub.size)))) _
    rw [za, zb]
    simpa using goalR
  | succ k ih =>
    intro i hk hi s h
    obtain ⟨ua, ub, n, n2, dd, dd2, sl, sl2, ga, gb, za, zb, step⟩ := hl _ _ h
    have la : i < ua.size := by omega
    have lb : i < ub.size := by omega
    have ht := step la lb
    obtain ⟨hq0, g, d, tz0, oz0⟩ := s
    wp_walk using wpAny_loadPart' ga, wpAny_loadPart' gb
    have ja : ua[((i : Nat) : Int).toNat]? = some ua[i] := by simp [la]
    have jb : ub[((i : Nat) : Int).toNat]? = some ub[i] := by simp [lb]
    have cast1 : ((i : Int) + 1) = ((i + 1 : Nat) : Int) := by omega
    rw [ja, jb]
    refine wpAny_bind (wpAny_mono ht (fun r s2 h2 => ?_) fun _ _ x => x)
    obtain ⟨hr, h2⟩ := h2
    subst hr
    have recur := ih (i + 1) (by omega) (by omega) s2 h2
    obtain ⟨hq2, gz2, dz2, tz2, oz2⟩ := s2
    wp_walk
    rw [cast1]
    exact ⟨plainId_quiet plain_eq_loop _, codeAny_builtin entry_eq_loop (by
      rw [Around.under_plainId plain_eq_loop _]
      exact recur)⟩
theorem list_ne (l b : Addr) (N : Nat) (I : Nat → Shared → Prop) (hl : LI prog w A (fun e s' => R (.error e) s') l b N I)
    (fin : ∀ s, I N s → R (.ok (.ret (.bool false))) s) {s : Shared} (h : I 0 s) :
    wpAny (model prog w) A.in1 (Builtin.«list.__ne__» ⟨[.ref l, .ref b], []⟩) (GQ.FinOf prog w A R) (fun e s' => R (.error e) s') s := by
  obtain ⟨ua, ub, n, n2, dd, dd2, sl, sl2, ga, gb, za, zb, _⟩ := hl _ _ h
  have recur := ne_loop (A := A) (R := R) l b N I hl fin _ 0 rfl (Nat.zero_le _) s h
  obtain ⟨hq0, g, d, tz0, oz0⟩ := s
  have subl := AutoSeq1.sub_list_list
  have nne : ¬ (ua.size != ub.size) = true := by simp [za, zb]
  wp_walk using wpAny_loadPart' ga, wpAny_loadPart' gb
  exact ⟨plainId_quiet plain_eq_loop _, codeAny_builtin entry_eq_loop (by
    rw [Around.under_plainId plain_eq_loop _]
    exact recur)⟩
end
section
variable {prog : Program} {w : World} {A : Around} {E : Value → Shared → Prop} {s : Shared}
theorem rc_ne {l b : Addr} {N : Nat} {Q : Value → Shared → Prop} (hu : A.units < cLine) (I : Nat → Shared → Prop) (hl : LI prog w A E l b N I)
    (fin : ∀ s, I N s → Q (.bool false) s) (h : I 0 s) : wpAny (model prog w) A (richCompare .NotEq (.ref l) (.ref b)) Q E s := by
  obtain ⟨ua, ub, n, n2, dd, dd2, sl, sl2, ga, gb, _, _, _⟩ := hl _ _ h
  refine wpAny_richCompare_same_room (op := .NotEq) ⟨_, ga, rfl⟩ ⟨_, gb, rfl⟩ F.slot_list_ne (GQ.call_here F.slot_list_ne ⟨_, ga, rfl⟩ F.entry_list_ne (F.args_list_ne_2 _ _) ?_) hu
  exact list_ne (R := wants (fun v s' => v ≠ .notImplemented ∧ Q v s') E) l b N I hl (fun s' q => ⟨(fun x => nomatch x), fin s' q⟩) h
end
end EQ
namespace DL
open PySem PySem.Spec PyProof.Rows L2
/-- two lists of items that are equal one by one: they are not unlike -/
def rNeG (K : PySem.W.Frag) (D : Eqv) : R2 := fun x y H Q => ∃ a b xs ys, x = .ref a ∧ y = .ref b ∧ SqL K H a xs ∧ SqL K H b ys ∧ Prs D xs ys H ∧ ∀ H', Ext H H' → Q (.bl false) H'
theorem op_neG {X : Cx} {n : Nat} {D : Eqv} (hD : Mon D) (h : EqG X n D) (hr : Room (n + 1) X.A) : OpR X (compareOp .NotEq) (rNeG X.K D) := by
  intro pins s σ H x y v u Q I rx ry hq
  obtain ⟨a, b, xs, ys, rfl, rfl, ha, hb, p, q⟩ := hq
  cases rx
  cases ry
  show wpAny (model X.prog X.w) X.A (richCompare .NotEq (.ref a) (.ref b)) (EP X pins σ Q) X.xe s
  have sb : L2.Sub X (n + 1) X.A := ⟨hr, rfl⟩
  refine EQ.rc_ne (N := xs.length) hr.units0 (fun _ s' => LoopI X pins σ H s') (fun i s' z => ?_) (fun s' z => ?_) ⟨H, I, Ext.rfl'⟩
  · obtain ⟨H1, I1, e1⟩ := id z
    obtain ⟨us, r1, p1, _⟩ := I1.list (SqL.ext ha e1)
    obtain ⟨ws, r2, p2, _⟩ := I1.list (SqL.ext hb e1)
    obtain ⟨⟨cls, dd, data, sl⟩, ho, hc, k1, hd⟩ := p1.isList
    obtain ⟨⟨cls2, dd2, data2, sl2⟩, ho2, hc2, k2, hd2⟩ := p2.isList
    simp only at hc hd hc2 hd2
    subst hc hd hc2 hd2
    refine ⟨us.toArray, ws.toArray, k1, k2, dd, dd2, sl, sl2, ho, ho2, by rw [List.size_toArray, ← r1.length], by rw [List.size_toArray, ← r2.length, ← p.1], fun h1 h2 => ?_⟩
    exact turnG hD h sb p r1 r2 i h1 h2 s' z
  · obtain ⟨H1, I1, e1⟩ := z
    exact ⟨.bl false, H1, I1, rfl, q H1 e1⟩
section
variable {K : PySem.W.Frag} {m : Mu} {k : D → Mu → Prop}
theorem mis_ext {F H H' : Hp} {a : Addr} {o : MO} (h : MIs K F H a o) (e : Ext H H') : MIs K F H' a o := by
  cases o with
  | lst xs =>
    obtain ⟨vs, h1, h2⟩ := h
    exact ⟨vs, e _ _ h1, h2⟩
  | ins C fs =>
    obtain ⟨dx, gs, h1, h2⟩ := h
    exact ⟨dx, gs, e _ _ h1, h2⟩
theorem wd_ext {F H H' : Hp} (w : Wd K F H m) (e : Ext H H') : Wd K F H' m := ⟨fun a o h => e _ _ (w.same a o h), fun a o h => ⟨(w.st a o h).1, mis_ext (w.st a o h).2 e⟩⟩
theorem stp_ext {F H H' : Hp} (e : Ext H H') : Stp m F H m F H' := ⟨fun a o h => h, fun a o _ h => e _ _ h, fun a h h' => absurd h h', fun a h h' => absurd h h'⟩
theorem r_neG {Dq : Eqv} {xs : List D} (hd : ∀ F H us vs, Wd K F H m → IsL K F xs us → IsL K F xs vs → Prs Dq us vs H) (q : k (.bl false) m) : wR K (rNeG K Dq) (.lst xs) (.lst xs) m k := fun vx vy F H Q w ix iy p => by
  obtain ⟨a, us, rfl, h1, h2⟩ := ix
  obtain ⟨b, vs, rfl, h3, h4⟩ := iy
  refine ⟨a, b, us, vs, rfl, rfl, w.same.seq h1, w.same.seq h3, hd F H us vs w h2 h4, fun H' e => ?_⟩
  exact p (.bl false) m _ F H' q (wd_ext w e) (stp_ext e) rfl
end
end DL
end

section
set_option Elab.async false
set_option linter.all false
set_option maxRecDepth 100000
set_option maxHeartbeats 4000000
namespace EQ
open PySem PySem.SeqAt
open AutoSeq1 (wpAny_loadPart')
open MeetsSeq MeetsSeq2 MeetsSeq3 SeqRoads2
/-- all of e from i on, k of them -/
def al (e : Nat → Bool) (i : Nat) : Nat → Bool
  | 0 => true
  | k + 1 => e i && al e (i + 1) k
section
variable {prog : Program} {w : World} {A : Around} {R : Result → Shared → Prop}
/-- two lists, read anew at each step; e tells which pairs are equal -/
def LB (prog : Program) (w : World) (A : Around) (E : Value → Shared → Prop) (l b : Addr) (N N2 : Nat) (e : Nat → Bool) (I : Shared → Prop) : Prop :=
  ∀ s, I s → ∃ (ua ub : Array Value) (n n2 : Nat) (dd dd2 : Option Addr) (sl sl2 : Array (Option Value)), s.heap.get? l = some { cls := .type "list", dict := dd, data := .seq ua n, slots := sl } ∧ s.heap.get? b = some { cls := .type "list", dict := dd2, data := .seq ub n2, slots := sl2 } ∧ ua.size = N ∧ ub.size = N2 ∧
    ∀ i (h1 : i < ua.size) (h2 : i < ub.size), wpAny (model prog w) A.in1 (eqBool ua[i] ub[i]) (fun r s' => r = e i ∧ I s') E s
theorem loopE (l b : Addr) (N : Nat) (e : Nat → Bool) (I : Shared → Prop) (hl : LB prog w A (fun e s' => R (.error e) s') l b N N e I) (k : Nat) :
    ∀ i : Nat, N - i = k → i ≤ N → (∀ s, I s → R (.ok (.ret (.bool (al e i k)))) s) → ∀ s, I s →
      wpAny (model prog w) A.in1 (Builtin.«list.__eq__.loop» ⟨[.ref l, .ref b, rawInt i, rawInt 2], []⟩) (GQ.FinOf prog w A R) (fun e s' => R (.error e) s') s := by
  induction k with
  | zero =>
    intro i hk hi fin s h
    obtain ⟨ua, ub, n, n2, dd, dd2, sl, sl2, ga, gb, za, zb, _⟩ := hl _ h
    have goalR : R (.ok (.ret (.bool true))) s := fin s h
    obtain ⟨hq0, g, d, tz0, oz0⟩ := s
    wp_walk using wpAny_loadPart' ga, wpAny_loadPart' gb
    have ja : ua[((i : Nat) : Int).toNat]? = none := by simp; omega
    have jb : ub[((i : Nat) : Int).toNat]? = none := by simp; omega
    rw [ja, jb]
    wp_walk using wpAny_loadPart' ga, wpAny_loadPart' gb
    show R (.ok (.ret (.bool (ua.size == ub.size)))) _
    rw [za, zb]
    simpa using goalR
  | succ k ih =>
    intro i hk hi fin s h
    obtain ⟨ua, ub, n, n2, dd, dd2, sl, sl2, ga, gb, za, zb, step⟩ := hl _ h
    have la : i < ua.size := by omega
    have lb : i < ub.size := by omega
    have ht := step i la lb
    obtain ⟨hq0, g, d, tz0, oz0⟩ := s
    wp_walk using wpAny_loadPart' ga, wpAny_loadPart' gb
    have ja : ua[((i : Nat) : Int).toNat]? = some ua[i] := by simp [la]
    have jb : ub[((i : Nat) : Int).toNat]? = some ub[i] := by simp [lb]
    have cast1 : ((i : Int) + 1) = ((i + 1 : Nat) : Int) := by omega
    rw [ja, jb]
    refine wpAny_bind (wpAny_mono ht (fun r s2 h2 => ?_) fun _ _ x => x)
    obtain ⟨hr, h2⟩ := h2
    cases he : e i with
    | true =>
      rw [he] at hr
      subst hr
      have recur := ih (i + 1) (by omega) (by omega) (fun s3 h3 => by
        have := fin s3 h3
        simp only [al, he, Bool.true_and] at this
        exact this) s2 h2
      obtain ⟨hq2, gz2, dz2, tz2, oz2⟩ := s2
      wp_walk
      rw [cast1]
      exact ⟨plainId_quiet plain_eq_loop _, codeAny_builtin entry_eq_loop (by
        rw [Around.under_plainId plain_eq_loop _]
        exact recur)⟩
    | false =>
      rw [he] at hr
      subst hr
      have goalR := fin s2 h2
      simp only [al, he, Bool.false_and] at goalR
      obtain ⟨ua, ub, n, n2, dd, dd2, sl, sl2, ga, gb, za, zb, _⟩ := hl _ h2
      obtain ⟨hq2, gz2, dz2, tz2, oz2⟩ := s2
      have la : i < ua.size := by omega
      have lb : i < ub.size := by omega
      have ja : ua[((i : Nat) : Int).toNat]? = some ua[i] := by simp [la]
      have jb : ub[((i : Nat) : Int).toNat]? = some ub[i] := by simp [lb]
      wp_walk using wpAny_loadPart' ga, wpAny_loadPart' gb
      rw [ja, jb]
      wp_walk
      exact goalR
theorem loopN (l b : Addr) (N : Nat) (e : Nat → Bool) (I : Shared → Prop) (hl : LB prog w A (fun e s' => R (.error e) s') l b N N e I) (k : Nat) :
    ∀ i : Nat, N - i = k → i ≤ N → (∀ s, I s → R (.ok (.ret (.bool (!al e i k)))) s) → ∀ s, I s →
      wpAny (model prog w) A.in1 (Builtin.«list.__eq__.loop» ⟨[.ref l, .ref b, rawInt i, rawInt 3], []⟩) (GQ.FinOf prog w A R) (fun e s' => R (.error e) s') s := by
  induction k with
  | zero =>
    intro i hk hi fin s h
    obtain ⟨ua, ub, n, n2, dd, dd2, sl, sl2, ga, gb, za, zb, _⟩ := hl _ h
    have goalR : R (.ok (.ret (.bool false))) s := fin s h
    obtain ⟨hq0, g, d, tz0, oz0⟩ := s
    wp_walk using wpAny_loadPart' ga, wpAny_loadPart' gb
    have ja : ua[((i : Nat) : Int).toNat]? = none := by simp; omega
    have jb : ub[((i : Nat) : Int).toNat]? = none := by simp; omega
    rw [ja, jb]
    wp_walk using wpAny_loadPart' ga, wpAny_loadPart' gb
    show R (.ok (.ret (.bool (ua.size != ub.size)))) _
    rw [za, zb]
    simpa using goalR
  | succ k ih =>
    intro i hk hi fin s h
    obtain ⟨ua, ub, n, n2, dd, dd2, sl, sl2, ga, gb, za, zb, step⟩ := hl _ h
    have la : i < ua.size := by omega
    have lb : i < ub.size := by omega
    have ht := step i la lb
    obtain ⟨hq0, g, d, tz0, oz0⟩ := s
    wp_walk using wpAny_loadPart' ga, wpAny_loadPart' gb
    have ja : ua[((i : Nat) : Int).toNat]? = some ua[i] := by simp [la]
    have jb : ub[((i : Nat) : Int).toNat]? = some ub[i] := by simp [lb]
    have cast1 : ((i : Int) + 1) = ((i + 1 : Nat) : Int) := by omega
    rw [ja, jb]
    refine wpAny_bind (wpAny_mono ht (fun r s2 h2 => ?_) fun _ _ x => x)
    obtain ⟨hr, h2⟩ := h2
    cases he : e i with
    | true =>
      rw [he] at hr
      subst hr
      have recur := ih (i + 1) (by omega) (by omega) (fun s3 h3 => by
        have := fin s3 h3
        simp only [al, he, Bool.true_and] at this
        exact this) s2 h2
      obtain ⟨hq2, gz2, dz2, tz2, oz2⟩ := s2
      wp_walk
      rw [cast1]
      exact ⟨plainId_quiet plain_eq_loop _, codeAny_builtin entry_eq_loop (by
        rw [Around.under_plainId plain_eq_loop _]
        exact recur)⟩
    | false =>
      rw [he] at hr
      subst hr
      have goalR := fin s2 h2
      simp only [al, he, Bool.false_and, Bool.not_false] at goalR
      obtain ⟨ua, ub, n, n2, dd, dd2, sl, sl2, ga, gb, za, zb, _⟩ := hl _ h2
      obtain ⟨hq2, gz2, dz2, tz2, oz2⟩ := s2
      have la : i < ua.size := by omega
      have lb : i < ub.size := by omega
      have ja : ua[((i : Nat) : Int).toNat]? = some ua[i] := by simp [la]
      have jb : ub[((i : Nat) : Int).toNat]? = some ub[i] := by simp [lb]
      wp_walk using wpAny_loadPart' ga, wpAny_loadPart' gb
      rw [ja, jb]
      wp_walk
      exact goalR
theorem listE (l b : Addr) (N N2 : Nat) (e : Nat → Bool) (I : Shared → Prop) (hl : LB prog w A (fun e s' => R (.error e) s') l b N N2 e I)
    (fin : ∀ s, I s → R (.ok (.ret (.bool (decide (N = N2) && al e 0 N)))) s) {s : Shared} (h : I s) :
    wpAny (model prog w) A.in1 (Builtin.«list.__eq__» ⟨[.ref l, .ref b], []⟩) (GQ.FinOf prog w A R) (fun e s' => R (.error e) s') s := by
  obtain ⟨ua, ub, n, n2, dd, dd2, sl, sl2, ga, gb, za, zb, _⟩ := hl _ h
  by_cases hn : N = N2
  · subst hn
    have recur := loopE (A := A) (R := R) l b N e I hl _ 0 rfl (Nat.zero_le _) (fun s h => by have := fin s h; simp only [decide_true, Bool.true_and] at this; rw [Nat.sub_zero]; exact this) s h
    obtain ⟨hq0, g, d, tz0, oz0⟩ := s
    have subl := AutoSeq1.sub_list_list
    have nne : ¬ (ua.size != ub.size) = true := by simp [za, zb]
    wp_walk using wpAny_loadPart' ga, wpAny_loadPart' gb
    exact ⟨plainId_quiet plain_eq_loop _, codeAny_builtin entry_eq_loop (by
      rw [Around.under_plainId plain_eq_loop _]
      exact recur)⟩
  · have goalR := fin s h
    simp only [hn, decide_false, Bool.false_and] at goalR
    obtain ⟨hq0, g, d, tz0, oz0⟩ := s
    have subl := AutoSeq1.sub_list_list
    have nne : (ua.size != ub.size) = true := by simp [za, zb, hn]
    wp_walk using wpAny_loadPart' ga, wpAny_loadPart' gb
    exact goalR
theorem listN (l b : Addr) (N N2 : Nat) (e : Nat → Bool) (I : Shared → Prop) (hl : LB prog w A (fun e s' => R (.error e) s') l b N N2 e I)
    (fin : ∀ s, I s → R (.ok (.ret (.bool (!(decide (N = N2) && al e 0 N))))) s) {s : Shared} (h : I s) :
    wpAny (model prog w) A.in1 (Builtin.«list.__ne__» ⟨[.ref l, .ref b], []⟩) (GQ.FinOf prog w A R) (fun e s' => R (.error e) s') s := by
  obtain ⟨ua, ub, n, n2, dd, dd2, sl, sl2, ga, gb, za, zb, _⟩ := hl _ h
  by_cases hn : N = N2
  · subst hn
    have recur := loopN (A := A) (R := R) l b N e I hl _ 0 rfl (Nat.zero_le _) (fun s h => by have := fin s h; simp only [decide_true, Bool.true_and] at this; rw [Nat.sub_zero]; exact this) s h
    obtain ⟨hq0, g, d, tz0, oz0⟩ := s
    have subl := AutoSeq1.sub_list_list
    have nne : ¬ (ua.size != ub.size) = true := by simp [za, zb]
    wp_walk using wpAny_loadPart' ga, wpAny_loadPart' gb
    exact ⟨plainId_quiet plain_eq_loop _, codeAny_builtin entry_eq_loop (by
      rw [Around.under_plainId plain_eq_loop _]
      exact recur)⟩
  · have goalR := fin s h
    simp only [hn, decide_false, Bool.false_and, Bool.not_false] at goalR
    obtain ⟨hq0, g, d, tz0, oz0⟩ := s
    have subl := AutoSeq1.sub_list_list
    have nne : (ua.size != ub.size) = true := by simp [za, zb, hn]
    wp_walk using wpAny_loadPart' ga, wpAny_loadPart' gb
    exact goalR
theorem al_split (e : Nat → Bool) : ∀ (i j : Nat), (∀ t, t < j → e (i + t) = true) → ∀ k, al e i (j + k) = al e (i + j) k
  | i, 0, h, k => by rw [Nat.zero_add, Nat.add_zero]
  | i, j + 1, h, k => by
    have h0 := h 0 (by omega)
    rw [Nat.add_zero] at h0
    rw [show j + 1 + k = (j + k) + 1 by omega]
    simp only [al, h0, Bool.true_and]
    rw [al_split e (i + 1) j (fun t ht => by have := h (t + 1) (by omega); rw [show i + (t + 1) = i + 1 + t by omega] at this; exact this) k]
    rw [show i + 1 + j = i + (j + 1) by omega]
theorem tupE (l b : Addr) (items items2 : Array Value) (n n2 : Nat) (dd dd2 : Option Addr) (sl sl2 : Array (Option Value)) (e : Nat → Bool) (I : Shared → Prop)
    (turn : ∀ i (h1 : i < items.size) (h2 : i < items2.size) s, I s → wpAny (model prog w) A.in1 (eqBool items[i] items2[i]) (fun r s' => r = e i ∧ I s') (fun e s' => R (.error e) s') s)
    (fin : ∀ s, I s → R (.ok (.ret (.bool (al e 0 (min items.size items2.size) && decide (items.size = items2.size))))) s) {s : Shared} (hl1 : s.heap.get? l = some { cls := .type "tuple", dict := dd, data := .seq items n, slots := sl }) (hb1 : s.heap.get? b = some { cls := .type "tuple", dict := dd2, data := .seq items2 n2, slots := sl2 }) (h : I s) :
    wpAny (model prog w) A.in1 (Builtin.«tuple.__eq__» ⟨[.ref l, .ref b], []⟩) (GQ.FinOf prog w A R) (fun e s' => R (.error e) s') s := by
  have f2 := AutoSeq1.sub_tuple_tuple
  have hZ : (items.toList.zip items2.toList).length = min items.size items2.size := by simp
  have h0 := h
  obtain ⟨hp, g, d, tk, os⟩ := s
  wp_walk using wpAny_loadPart' hl1, wpAny_loadPart' hb1, wpAny_forIn_list _ (fun rest b s' => b.1 = none ∧ ∃ i, rest = (items.toList.zip items2.toList).drop i ∧ i ≤ min items.size items2.size ∧ (∀ j, j < i → e j = true) ∧ I s') _
  case turn =>
    rintro ⟨y, x⟩ rest b s' ⟨hb', i, hz, hi, hal, hI⟩
    have hlt : i < (items.toList.zip items2.toList).length := by
      rcases Nat.lt_or_ge i (items.toList.zip items2.toList).length with h' | h'
      · exact h'
      · rw [List.drop_of_length_le h'] at hz; cases hz
    rw [hZ] at hlt
    have h1 : i < items.size := by omega
    have h2 : i < items2.size := by omega
    rw [List.drop_eq_getElem_cons (by rw [hZ]; exact hlt)] at hz
    injection hz with hyx hrest
    have hy : y = items[i] := by have := congrArg Prod.fst hyx; simpa using this
    have hx : x = items2[i] := by have := congrArg Prod.snd hyx; simpa using this
    subst hy hx
    refine wpAny_bind (wpAny_mono (turn i h1 h2 s' hI) (fun r s2 q2 => ?_) fun _ _ x => x)
    obtain ⟨hr, q2⟩ := q2
    cases he : e i with
    | true =>
      rw [he] at hr
      subst hr
      wp_walk
      refine ⟨rfl, i + 1, hrest, by omega, fun j hj => ?_, q2⟩
      by_cases hji : j = i
      · rw [hji]; exact he
      · exact hal j (by omega)
    | false =>
      rw [he] at hr
      subst hr
      have hR := fin s2 q2
      have hae : al e 0 (min items.size items2.size) = false := by
        have := al_split e 0 i (fun t ht => by rw [Nat.zero_add]; exact hal t ht) (min items.size items2.size - i)
        rw [show i + (min items.size items2.size - i) = min items.size items2.size by omega] at this
        rw [this, show min items.size items2.size - i = (min items.size items2.size - i - 1) + 1 by omega]
        simp [al, he]
      rw [hae, Bool.false_and] at hR
      wp_walk
      exact hR
  case fin =>
    rintro ⟨b1, b2⟩ s' ⟨hb', i, hz, hi, hal, hI⟩
    simp only at hb'
    subst hb'
    have hge : min items.size items2.size ≤ i := by
      rcases Nat.lt_or_ge i (items.toList.zip items2.toList).length with h' | h'
      · rw [List.drop_eq_getElem_cons h'] at hz; cases hz
      · exact hZ ▸ h'
    have hR := fin s' hI
    have hae : al e 0 (min items.size items2.size) = true := by
      have := al_split e 0 i (fun t ht => by rw [Nat.zero_add]; exact hal t ht) 0
      rw [show i + 0 = min items.size items2.size by omega] at this
      rw [this]; rfl
    rw [hae, Bool.true_and] at hR
    wp_walk
    have e2 : (items.size == items2.size) = decide (items.size = items2.size) := by
      by_cases hq : items.size = items2.size <;> simp [hq]
    simpa [Builtin.Tuple.tupleCompareSizes, e2] using hR
  case h =>
    exact ⟨rfl, 0, rfl, Nat.zero_le _, fun j hj => absurd hj (by omega), h0⟩
end
end EQ
end

section
set_option Elab.async false
set_option linter.all false
set_option maxRecDepth 100000
set_option maxHeartbeats 4000000
namespace EQ
open PySem PySem.Spec PyProof.Rows L2
section
variable {prog : Program} {w : World} {A : Around} {E : Value → Shared → Prop} {s : Shared}
theorem rc_list {l b : Addr} {N N2 : Nat} {e : Nat → Bool} {Q : Value → Shared → Prop} (hu : A.units < cLine) (I : Shared → Prop) (hl : LB prog w A E l b N N2 e I)
    (fin : ∀ s, I s → Q (.bool (decide (N = N2) && al e 0 N)) s) (h : I s) : wpAny (model prog w) A (richCompare .Eq (.ref l) (.ref b)) Q E s := by
  obtain ⟨ua, ub, n, n2, dd, dd2, sl, sl2, ga, gb, _, _, _⟩ := hl _ h
  refine wpAny_richCompare_same_room (op := .Eq) ⟨_, ga, rfl⟩ ⟨_, gb, rfl⟩ F.slot_list_eq (GQ.call_here F.slot_list_eq ⟨_, ga, rfl⟩ F.entry_list_eq (F.args_list_eq_2 _ _) ?_) hu
  exact listE (R := wants (fun v s' => v ≠ .notImplemented ∧ Q v s') E) l b N N2 e I hl (fun s' q => ⟨(fun x => nomatch x), fin s' q⟩) h
theorem rc_listN {l b : Addr} {N N2 : Nat} {e : Nat → Bool} {Q : Value → Shared → Prop} (hu : A.units < cLine) (I : Shared → Prop) (hl : LB prog w A E l b N N2 e I)
    (fin : ∀ s, I s → Q (.bool (!(decide (N = N2) && al e 0 N))) s) (h : I s) : wpAny (model prog w) A (richCompare .NotEq (.ref l) (.ref b)) Q E s := by
  obtain ⟨ua, ub, n, n2, dd, dd2, sl, sl2, ga, gb, _, _, _⟩ := hl _ h
  refine wpAny_richCompare_same_room (op := .NotEq) ⟨_, ga, rfl⟩ ⟨_, gb, rfl⟩ F.slot_list_ne (GQ.call_here F.slot_list_ne ⟨_, ga, rfl⟩ F.entry_list_ne (F.args_list_ne_2 _ _) ?_) hu
  exact listN (R := wants (fun v s' => v ≠ .notImplemented ∧ Q v s') E) l b N N2 e I hl (fun s' q => ⟨(fun x => nomatch x), fin s' q⟩) h
theorem rc_tup {l b : Addr} {items items2 : Array Value} {e : Nat → Bool} {Q : Value → Shared → Prop} (hu : A.units < cLine) (I : Shared → Prop)
    (hl : s.heap.IsTuple l items) (hb : s.heap.IsTuple b items2)
    (turn : ∀ i (h1 : i < items.size) (h2 : i < items2.size) s, I s → wpAny (model prog w) A.in1 (eqBool items[i] items2[i]) (fun r s' => r = e i ∧ I s') E s)
    (fin : ∀ s, I s → Q (.bool (al e 0 (min items.size items2.size) && decide (items.size = items2.size))) s) (h : I s) : wpAny (model prog w) A (richCompare .Eq (.ref l) (.ref b)) Q E s := by
  obtain ⟨⟨cls, dd, data, sl⟩, ho, hc, n, hd⟩ := id hl
  obtain ⟨⟨cls2, dd2, data2, sl2⟩, ho2, hc2, n2, hd2⟩ := id hb
  simp only at hc hd hc2 hd2
  subst hc hd hc2 hd2
  refine wpAny_richCompare_same_room (op := .Eq) ⟨_, ho, rfl⟩ ⟨_, ho2, rfl⟩ F.slot_tuple_eq (GQ.call_here F.slot_tuple_eq ⟨_, ho, rfl⟩ F.entry_tuple_eq (F.args_tuple_eq_2 _ _) ?_) hu
  exact tupE (R := wants (fun v s' => v ≠ .notImplemented ∧ Q v s') E) l b items items2 n n2 dd dd2 sl sl2 e I turn (fun s' q => ⟨(fun x => nomatch x), fin s' q⟩) ho ho2 h
/-! ### the built-in != of objects -/
variable {K : PySem.W.Frag} {x C f : Addr} {ox : Obj} {od : Option Obj} {M : Model}
theorem ifBound_bi {name : Str} {id : String} {args : List Value} {Q : Option Value → Shared → Prop} (X : K.In s.heap) (I : PySem.W.InstAt s.heap x ox C od) (hs : PySem.W.findIn K (.ref C) name = some (some (.builtin id)))
    (hb : ∀ self, bindSpecial (.builtin id) self = pure (.builtin id, [self])) (h : wpAny M A (call (.builtin id) (.ref x :: args)) (fun v => Q (some v)) E s) : wpAny M A (callSpecialIfBound? (.ref x) name args) Q E s := by
  simp only [callSpecialIfBound?, bindSpecialIfBound?]
  refine wpAny_holding (wpAny_bind (wpAny_bind (wpAny_bind (I.type.here ((PySem.W.looks_findIn X hs).here ?_)))))
  refine wpAny_bind (wpAny_askSetting (wpAny_ite ?_))
  have fin : wpAny M A (call (.builtin id) ([.ref x] ++ args) >>= fun v => pure (some v)) Q E s := wpAny_bind (wpAny_mono h (fun v s' h' => wpAny_pure h') fun _ _ h' => h')
  split
  · exact wpAny_bind ((PySem.W.Looks.of_pure (hb _)).here (wpAny_pure (by exact fin)))
  · exact wpAny_tryCatch (wpAny_bind ((PySem.W.Looks.of_pure (hb _)).here (wpAny_pure (by exact fin))))
theorem call_ne {b : Value} {Q : Value → Shared → Prop} (hu : A.in1.units < cLine) (X : K.In s.heap) (I : PySem.W.InstAt s.heap x ox C od) (hm : PySem.W.mroIn K C (.type "object") = some true) (he : PySem.W.findIn K (.ref C) "__eq__" = some (some (.ref f))) (hf : PySem.W.isFn K (.ref f) = true)
    (h : wpAny (model prog w) A.in1 (call (.ref f) [.ref x, b]) (fun v s' => ∃ r, v = .bool r ∧ Q (.bool (!r)) s') E s) : wpAny (model prog w) A (call (.builtin "object.__ne__") [.ref x, b]) Q E s := by
  refine wpAny_call (codeAny_call_builtin PySem.F.slot_object_ne.plain PySem.F.cmpEntry_ne (PySem.W.check_slot (i := "object.__ne__") (owner := "object") (n := "__ne__") PySem.F.cmpKind_ne PySem.F.cmpSplit_ne (I.type.andThen (PySem.W.looks_mroIn X hm)) (PySem.F.cmpArgs_ne _ _) ?_))
  unfold Builtin.«object.__ne__»
  refine wpAny_bind (m := slotArgs "__ne__" 1 _) (wpAny_pure ?_)
  refine wpAny_bind (m := cRoomFor _ _) (wpAny_cRoomFor hu ?_)
  refine wpAny_bind (m := callSpecialIfBound? (.ref x) (Str.ofString "__eq__") _) (PySem.W.ifBound_K X I he hf (wpAny_mono h (fun r s' hq => ?_) fun _ _ y => y))
  obtain ⟨b, rfl, hq⟩ := hq
  exact wpAny_bind (wpAny_truthy_bool (wpAny_pure hq))
theorem ne_K {tb : Value} {b : Value} {Q : Value → Shared → Prop} {L : Addr} {h₀ : Heap} {m : Str → Option Value} (hu : A.units + 1 < cLine) (Fm : Fr h₀ L s.heap m) (X₀ : K.In h₀) (I : PySem.W.InstAt s.heap x ox C od) (hb : PySem.W.Looks (model prog w) s.heap (typeOf b) tb) (hn : PySem.W.notFirst K C tb = true)
    (hne : PySem.W.findIn K (.ref C) "__ne__" = some (some (.builtin "object.__ne__"))) (hm : PySem.W.mroIn K C (.type "object") = some true) (he : PySem.W.findIn K (.ref C) "__eq__" = some (some (.ref f))) (hf : PySem.W.isFn K (.ref f) = true)
    (h : wpAny (model prog w) A.in1 (call (.ref f) [.ref x, b]) (fun v s' => ∃ r, v = .bool r ∧ Q (.bool (!r)) s') E s) : wpAny (model prog w) A (richCompare .NotEq (.ref x) b) Q E s := by
  have X := X₀.keeps Fm.keep
  have hu1 : A.in1.units < cLine := hu
  have one : wpAny (model prog w) A (tryCompare (.ref x) "__ne__" b) (fun r s' => ∃ v, r = some v ∧ Q v s') E s := by
    unfold tryCompare
    refine wpAny_bind (ifBound_bi X I hne PySem.F.slot_object_ne.bind (call_ne hu1 X I hm he hf (wpAny_mono h (fun v s' hv => ?_) fun _ _ e => e)))
    obtain ⟨r, rfl, hq⟩ := hv
    exact ⟨r, rfl, wpAny_pure ⟨_, rfl, hq⟩⟩
  unfold richCompare
  simp only [oneThing_ref]
  refine wpAny_holding (wpAny_bind (wpAny_cRoomFor (by omega) ?_))
  rw [cmpInfo_NotEq]
  dsimp only
  refine wpAny_bind (I.type.here (wpAny_bind (hb.here ?_)))
  split
  · rename_i q
    have e : PySem.W.subIn K tb (.ref C) = some false := by
      rcases Bool.or_eq_true_iff.mp hn with e | e
      · rw [beq_iff_eq.mp e] at q; simp at q
      · exact beq_iff_eq.mp e
    refine wpAny_bind ((PySem.W.looks_subIn X e).here ?_)
    simp only [Bool.false_eq_true, if_false]
    refine wpAny_bind (wpAny_mono one (fun r s' z => ?_) fun _ _ e => e)
    obtain ⟨v, rfl, hq⟩ := z
    exact wpAny_pure hq
  · refine wpAny_bind (wpAny_pure ?_)
    simp only [Bool.false_eq_true, if_false]
    refine wpAny_bind (wpAny_mono one (fun r s' z => ?_) fun _ _ e => e)
    obtain ⟨v, rfl, hq⟩ := z
    exact wpAny_pure hq
end
end EQ
namespace OW
open PySem PySem.Spec PyProof.Rows L2
/-- the type of a value, lists and tuples of any standing among them -/
inductive TyA (K : PySem.W.Frag) (H : Hp) : V → Value → Prop where
  | base {v : V} {t : Value} (h : RTy H v t) : TyA K H v t
  | lst {a : Addr} {xs : List V} (h : SqL K H a xs) : TyA K H (.ref a) (.type "list")
  | tup {a : Addr} {xs : List V} (h : SqT K H a xs) : TyA K H (.ref a) (.type "tuple")
  | dic {a : Addr} {kvs : List (Key × V)} (h : H a = some (.dK kvs)) : TyA K H (.ref a) (.type "dict")
section
variable {X : Cx} {CX : CXT} {k : Nat} {f C : Addr} {fd : FuncData} {ps : List Str} {sp : Sp} {E : XK}
theorem tya_looks {pins : List (Addr × Obj)} {σ : L2.St} {H : Hp} {s : Shared} {y : V} {v t : Value} (I : Inv X pins σ H s) (r : L2.RelV y v) (h : TyA X.K H y t) : PySem.W.Looks (model X.prog X.w) s.heap (typeOf v) t := by
  cases h with
  | base h => exact rty_looks I r h
  | @lst a xs h =>
    obtain rfl := (show v = .ref a from r)
    obtain ⟨its, _, p, _⟩ := I.list h
    obtain ⟨o, h1, h2, _⟩ := p.isList
    rw [← h2]
    exact (PySem.W.Looks.ld h1).andThen .now
  | @tup a xs h =>
    obtain rfl := (show v = .ref a from r)
    obtain ⟨its, _, ⟨o, h1, h2, _⟩, _⟩ := I.tuple h
    rw [← h2]
    exact (PySem.W.Looks.ld h1).andThen .now
  | @dic a kvs h =>
    obtain rfl := (show v = .ref a from r)
    obtain ⟨_, _, _, _, o, es, ep, h1, h2, _⟩ := I.hok a _ h
    have h3 := h2.1
    rw [← h3]
    exact (PySem.W.Looks.ld h1).andThen .now
/-- a op b, a an instance of C whose own method takes it -/
theorem op_cmpA {op : CmpOp} (hop : ∀ a b, compareOp op a b = richCompare op a b) (hs : PySem.W.findIn X.K (.ref C) (cmpInfo op).2.1 = some (some (.ref f))) (hf : PySem.W.isFn X.K (.ref f) = true)
    (F : FnOk X.prog X.w X.K X.mg X.base CX k f fd ps sp) (hr : Room k X.A) (hb : Binds X.K fd ps []) (hx : Passes CX X E) :
    OpR X (compareOp op) (fun x y H Q => ∃ a dx fs tb, x = .ref a ∧ H a = some (.ins C dx fs) ∧ TyA X.K H y tb ∧ PySem.W.notFirst X.K C tb = true ∧ sp [x, y] H Q E) := by
  intro pins s σ H x y u v Q I rx ry h
  obtain ⟨a, dx, fs, tb, rfl, ha, ht, hn, h⟩ := h
  obtain rfl : u = .ref a := rx
  obtain ⟨od, J⟩ := inst_at I ha
  obtain ⟨m, Fm⟩ := I.fr
  rw [hop]
  exact PySem.W.cmp_K (by have := hr.units0; omega) Fm I.mod.kin J (tya_looks I ry ht) hn hs hf (thn (run_fn (ds := []) (dvs := []) F hr hb .nil hx I (vals2 (x := .ref a) rfl ry) h) fun _ _ z => back_of z)
/-- a run of a def one room further in -/
theorem run_in {A : Around} {pins : List (Addr × Obj)} {σ : L2.St} {H : Hp} {s : Shared} {Q : VK} {us : List Value} {vs : List V} (F : FnOk X.prog X.w X.K X.mg X.base CX k f fd ps sp) (sb : L2.Sub X k A) (hb : Binds X.K fd ps []) (hx : Passes CX X E)
    (I : Inv X pins σ H s) (r : Vals vs us) (h : sp vs H Q E) : wpAny (model X.prog X.w) A (call (.ref f) us) (EP X pins σ Q) X.xe s := by
  have e0 : Env0 X.prog X.w X.K X.mg X.base A X.stack s H := by
    have e := I.env0
    exact ⟨by rw [sb.fr]; exact e.frames, e.mod, e.bs, e.bsz, e.funs, e.frf, e.hok, e.bare⟩
  have hl := F.len _ _ _ _ h
  have hb' := hb s us I.kIn (by rw [List.append_nil, ← r.length]; exact hl)
  rw [List.append_nil] at hb'
  refine wpAny_call (codeAny_mono (F.run A X.stack s H ⟨us, []⟩ us vs _ E sb.room e0 hb' r h) fun r s' hq => ?_)
  cases r with
  | error e => exact hx pins σ H s e s' I hq
  | ok fl =>
    cases fl with
    | ret w => exact I.after hq
    | next => exact False.elim hq
    | brk => exact False.elim hq
    | cont => exact False.elim hq
/-- a != b, by the own == of a's class -/
theorem op_ne (hne : PySem.W.findIn X.K (.ref C) "__ne__" = some (some (.builtin "object.__ne__"))) (hm : PySem.W.mroIn X.K C (.type "object") = some true) (hs : PySem.W.findIn X.K (.ref C) "__eq__" = some (some (.ref f))) (hf : PySem.W.isFn X.K (.ref f) = true)
    (F : FnOk X.prog X.w X.K X.mg X.base CX k f fd ps sp) (hr : Room (k + 1) X.A) (hb : Binds X.K fd ps []) (hx : Passes CX X E) :
    OpR X (compareOp .NotEq) (fun x y H Q => ∃ a dx fs tb, x = .ref a ∧ H a = some (.ins C dx fs) ∧ TyA X.K H y tb ∧ PySem.W.notFirst X.K C tb = true ∧ sp [x, y] H (fun v H' => ∃ b, v = .bl b ∧ Q (.bl (!b)) H') E) := by
  intro pins s σ H x y u v Q I rx ry h
  obtain ⟨a, dx, fs, tb, rfl, ha, ht, hn, h⟩ := h
  obtain rfl : u = .ref a := rx
  obtain ⟨od, J⟩ := inst_at I ha
  obtain ⟨m, Fm⟩ := I.fr
  have sb : L2.Sub X (k + 1) X.A := ⟨hr, rfl⟩
  show wpAny _ _ (richCompare .NotEq _ _) _ _ _
  have hu1 : X.A.units + 1 < cLine := sb.in1.room.units0
  refine EQ.ne_K hu1 Fm I.mod.kin J (tya_looks I ry ht) hn hne hm hs hf (wpAny_mono (run_in F sb.in1 hb hx I (vals2 (x := .ref a) rfl ry) h) (fun w s' hw => ?_) fun _ _ e => e)
  obtain ⟨z, H', I', r', b, rfl, q'⟩ := hw
  obtain rfl : w = .bool b := r'
  exact ⟨b, rfl, .bl (!b), H', I', rfl, q'⟩
end
end OW
namespace DL
open PySem PySem.Spec PyProof.Rows L2
section
variable {K : PySem.W.Frag} {m : Mu} {k : D → Mu → Prop} {S : SpD} {C : Addr} {E : XK}
inductive TDA : D → Value → Prop where
  | base {d : D} {t : Value} (h : TD d t) : TDA d t
  | lst (xs : List D) : TDA (.lst xs) (.type "list")
  | tup (xs : List D) : TDA (.tup xs) (.type "tuple")
  | dic (kvs : List (Key × V)) : TDA (.raw (.dK kvs)) (.type "dict")
theorem tda_tya {F H : Hp} {d : D} {v : V} {t : Value} (h : TDA d t) (w : Wd K F H m) (i : Is K F d v) : OW.TyA K H v t := by
  cases h with
  | base h => exact .base (td_rty h w i)
  | lst xs => obtain ⟨a, us, rfl, h1, _⟩ := i; exact .lst (w.same.seq h1)
  | tup xs => obtain ⟨a, us, rfl, h1, _⟩ := i; exact .tup (Same.tq w.same h1)
  | dic kvs => obtain ⟨a, rfl, h1⟩ := i; exact .dic (w.same _ _ h1)
theorem r_cmpA {x y : D} {tb : Value} {fs : List (Str × D)} (hx : InD m x C fs) (hy : TDA y tb) (hn : PySem.W.notFirst K C tb = true) (q : S [x, y] m k) :
    wR K (fun x y H Q => ∃ a dx fs tb, x = .ref a ∧ H a = some (.ins C dx fs) ∧ OW.TyA K H y tb ∧ PySem.W.notFirst K C tb = true ∧ spOf K S [x, y] H Q E) x y m k := fun vx vy F H Q w ix iy p => by
  obtain ⟨a, dx, ga, rfl, h1, _⟩ := hx.at_ w ix
  exact ⟨a, dx, ga, tb, rfl, h1, tda_tya hy w iy, hn, sp_at w ix iy p q⟩
theorem r_ne0 {x y : D} {tb : Value} {fs : List (Str × D)} (hx : InD m x C fs) (hy : TDA y tb) (hn : PySem.W.notFirst K C tb = true) (q : S [x, y] m fun d m' => ∃ b, d = .bl b ∧ k (.bl (!b)) m') :
    wR K (fun x y H Q => ∃ a dx fs tb, x = .ref a ∧ H a = some (.ins C dx fs) ∧ OW.TyA K H y tb ∧ PySem.W.notFirst K C tb = true ∧ spOf K S [x, y] H (fun v H' => ∃ b, v = .bl b ∧ Q (.bl (!b)) H') E) x y m k := fun vx vy F H Q w ix iy p => by
  obtain ⟨a, dx, ga, rfl, h1, _⟩ := hx.at_ w ix
  refine ⟨a, dx, ga, tb, rfl, h1, tda_tya hy w iy, hn, [x, y], F, m, _, w, .two ix iy, q, ?_⟩
  rintro d m' v F' H' ⟨b, rfl, hk⟩ w' s' iv
  exact ⟨b, iv, p (.bl (!b)) m' _ F' H' hk w' s' rfl⟩
end
end DL
end

section
set_option Elab.async false
set_option linter.all false
set_option maxRecDepth 100000
set_option maxHeartbeats 4000000
namespace DL
open PySem PySem.Spec PyProof.Rows L2
mutual
def nor : D → Bool
  | .ref _ => false
  | .raw _ => false
  | .lst xs => norL xs
  | .tup xs => norL xs
  | .ins _ fs => norF fs
  | _ => true
def norL : List D → Bool
  | [] => true
  | d :: ds => nor d && norL ds
def norF : List (Str × D) → Bool
  | [] => true
  | (_, d) :: r => nor d && norF r
end
theorem relv_inj {x y : V} {u : Value} (h : RelV x u) (g : RelV y u) : x = y := by
  cases x <;> cases y <;> simp only [L2.RelV] at h g <;> (try (obtain ⟨t, rfl⟩ := h)) <;> (try subst h) <;> (try (obtain ⟨t2, e⟩ := g)) <;> simp_all
theorem vals_inj : ∀ {xs ys : List V} {us : List Value}, Vals xs us → Vals ys us → xs = ys
  | _, _, _, .nil, .nil => rfl
  | _, _, _, .cons r t, .cons r2 t2 => by rw [relv_inj r r2, vals_inj t t2]
section
variable {X : Cx} {pins : List (Addr × Obj)} {σ : L2.St} {H F : Hp} {s : Shared}
theorem list_uq (I : Inv X pins σ H s) {a : Addr} {xs ys : List V} (h : SqL X.K H a xs) (g : SqL X.K H a ys) : xs = ys := by
  obtain ⟨us, r1, p1, _⟩ := I.list h
  obtain ⟨ws, r2, p2, _⟩ := I.list g
  obtain ⟨o, ho, _, n, hd⟩ := p1.isList
  obtain ⟨o2, ho2, _, n2, hd2⟩ := p2.isList
  rw [ho] at ho2
  cases ho2
  rw [hd] at hd2
  have e : us.toArray = ws.toArray := by injection hd2
  have e2 : us = ws := by simpa using congrArg Array.toList e
  subst e2
  exact vals_inj r1 r2
theorem tup_uq (I : Inv X pins σ H s) {a : Addr} {xs ys : List V} (h : SqT X.K H a xs) (g : SqT X.K H a ys) : xs = ys := by
  obtain ⟨us, r1, ⟨o, ho, _, n, hd⟩, _⟩ := I.tuple h
  obtain ⟨ws, r2, ⟨o2, ho2, _, n2, hd2⟩, _⟩ := I.tuple g
  rw [ho] at ho2
  cases ho2
  rw [hd] at hd2
  have e : us.toArray = ws.toArray := by injection hd2
  have e2 : us = ws := by simpa using congrArg Array.toList e
  subst e2
  exact vals_inj r1 r2
theorem lt_no (I : Inv X pins σ H s) {a : Addr} {xs ys : List V} (h : SqL X.K H a xs) (g : SqT X.K H a ys) : False := by
  obtain ⟨us, _, p1, _⟩ := I.list h
  obtain ⟨o, ho, hc, _⟩ := p1.isList
  obtain ⟨ws, _, ⟨o2, ho2, hc2, _⟩, _⟩ := I.tuple g
  rw [ho] at ho2
  cases ho2
  rw [hc] at hc2
  exact absurd (Value.type.inj hc2) (by decide)
theorem li_no (I : Inv X pins σ H s) {a C dx : Addr} {xs : List V} {fs : List (Str × V)} (h : SqL X.K H a xs) (g : H a = some (.ins C dx fs)) : False := by
  obtain ⟨us, _, p1, _⟩ := I.list h
  obtain ⟨o, ho, hc, _⟩ := p1.isList
  obtain ⟨od, J⟩ := OW.inst_at I g
  have := J.at_
  rw [ho] at this
  cases this
  cases hc
theorem ti_no (I : Inv X pins σ H s) {a C dx : Addr} {xs : List V} {fs : List (Str × V)} (h : SqT X.K H a xs) (g : H a = some (.ins C dx fs)) : False := by
  obtain ⟨us, _, ⟨o, ho, hc, _⟩, _⟩ := I.tuple h
  obtain ⟨od, J⟩ := OW.inst_at I g
  have := J.at_
  rw [ho] at this
  cases this
  cases hc
mutual
theorem is_inj (I : Inv X pins σ H s) (sm : Same F H) : ∀ (d d' : D) (v : V), nor d = true → nor d' = true → Is X.K F d v → Is X.K F d' v → d = d'
  | .non, d', v, _, n', h, h' => by
    obtain rfl : v = .non := h
    cases d' <;> simp_all [Is, nor]
  | .bl b, d', v, _, n', h, h' => by
    obtain rfl : v = .bl b := h
    cases d' <;> simp_all [Is, nor]
  | .int b, d', v, _, n', h, h' => by
    obtain rfl : v = .int b := h
    cases d' <;> simp_all [Is, nor]
  | .str b, d', v, _, n', h, h' => by
    obtain rfl : v = .str b := h
    cases d' <;> simp_all [Is, nor]
  | .ty b, d', v, _, n', h, h' => by
    obtain rfl : v = .ty b := h
    cases d' <;> simp_all [Is, nor]
  | .ref a, d', v, n, _, _, _ => by simp [nor] at n
  | .raw a, d', v, n, _, _, _ => by simp [nor] at n
  | .lst xs, d', v, n, n', h, h' => by
    obtain ⟨a, vs, rfl, h1, h2⟩ := h
    cases d' with
    | lst ys =>
      obtain ⟨b, ws, e, g1, g2⟩ := h'
      cases e
      have e := list_uq I (sm.seq h1) (sm.seq g1)
      subst e
      rw [isL_inj I sm xs ys vs (by simpa [nor] using n) (by simpa [nor] using n') h2 g2]
    | tup ys =>
      obtain ⟨b, ws, e, g1, g2⟩ := h'
      cases e
      exact (lt_no I (sm.seq h1) (Same.tq sm g1)).elim
    | ins C fs =>
      obtain ⟨b, dx, gs, e, g1, g2⟩ := h'
      cases e
      exact (li_no I (sm.seq h1) (sm _ _ g1)).elim
    | ref b => simp [nor] at n'
    | raw b => simp [nor] at n'
    | _ => simp [Is] at h'
  | .tup xs, d', v, n, n', h, h' => by
    obtain ⟨a, vs, rfl, h1, h2⟩ := h
    cases d' with
    | tup ys =>
      obtain ⟨b, ws, e, g1, g2⟩ := h'
      cases e
      have e := tup_uq I (Same.tq sm h1) (Same.tq sm g1)
      subst e
      rw [isL_inj I sm xs ys vs (by simpa [nor] using n) (by simpa [nor] using n') h2 g2]
    | lst ys =>
      obtain ⟨b, ws, e, g1, g2⟩ := h'
      cases e
      exact (lt_no I (sm.seq g1) (Same.tq sm h1)).elim
    | ins C fs =>
      obtain ⟨b, dx, gs, e, g1, g2⟩ := h'
      cases e
      exact (ti_no I (Same.tq sm h1) (sm _ _ g1)).elim
    | ref b => simp [nor] at n'
    | raw b => simp [nor] at n'
    | _ => simp [Is] at h'
  | .ins C fs, d', v, n, n', h, h' => by
    obtain ⟨a, dx, gs, rfl, h1, h2⟩ := h
    cases d' with
    | ins C' fs' =>
      obtain ⟨b, dx', gs', e, g1, g2⟩ := h'
      cases e
      rw [h1] at g1
      cases g1
      rw [isF_inj I sm fs fs' gs (by simpa [nor] using n) (by simpa [nor] using n') h2 g2]
    | lst ys =>
      obtain ⟨b, ws, e, g1, g2⟩ := h'
      cases e
      exact (li_no I (sm.seq g1) (sm _ _ h1)).elim
    | tup ys =>
      obtain ⟨b, ws, e, g1, g2⟩ := h'
      cases e
      exact (ti_no I (Same.tq sm g1) (sm _ _ h1)).elim
    | ref b => simp [nor] at n'
    | raw b => simp [nor] at n'
    | _ => simp [Is] at h'
theorem isL_inj (I : Inv X pins σ H s) (sm : Same F H) : ∀ (xs ys : List D) (vs : List V), norL xs = true → norL ys = true → IsL X.K F xs vs → IsL X.K F ys vs → xs = ys
  | [], ys, vs, _, _, h, h' => by
    obtain rfl : vs = [] := h
    cases ys with
    | nil => rfl
    | cons y ys => obtain ⟨v, r, e, _⟩ := h'; cases e
  | x :: xs, ys, vs, n, n', ⟨v, r, e, h1, h2⟩, h' => by
    subst e
    cases ys with
    | nil => cases h'
    | cons y ys =>
      obtain ⟨v', r', e', g1, g2⟩ := h'
      cases e'
      simp only [norL, Bool.and_eq_true] at n n'
      rw [is_inj I sm x y v n.1 n'.1 h1 g1, isL_inj I sm xs ys r n.2 n'.2 h2 g2]
theorem isF_inj (I : Inv X pins σ H s) (sm : Same F H) : ∀ (xs ys : List (Str × D)) (vs : List (Str × V)), norF xs = true → norF ys = true → IsF X.K F xs vs → IsF X.K F ys vs → xs = ys
  | [], ys, vs, _, _, h, h' => by
    obtain rfl : vs = [] := h
    cases ys with
    | nil => rfl
    | cons y ys => obtain ⟨f, y⟩ := y; obtain ⟨v, r, e, _⟩ := h'; cases e
  | (f, x) :: xs, ys, vs, n, n', ⟨v, r, e, h1, h2⟩, h' => by
    subst e
    cases ys with
    | nil => cases h'
    | cons y ys =>
      obtain ⟨f', y⟩ := y
      obtain ⟨v', r', e', g1, g2⟩ := h'
      cases e'
      simp only [norF, Bool.and_eq_true] at n n'
      rw [is_inj I sm x y v n.1 n'.1 h1 g1, isF_inj I sm xs ys r n.2 n'.2 h2 g2]
end
end
/-! ### how two data are seen to be equal or not -/
abbrev EqR := D → D → Bool → Prop
def DV (K : PySem.W.Frag) (B : EqR) (x y : V) (H : Hp) (r : Bool) : Prop := ∃ dx dy F, Same F H ∧ Is K F dx x ∧ Is K F dy y ∧ B dx dy r
theorem DV.ext {K : PySem.W.Frag} {B : EqR} {x y : V} {H H' : Hp} {r : Bool} (h : DV K B x y H r) (e : Ext H H') : DV K B x y H' r := by
  obtain ⟨dx, dy, F, h1, h2⟩ := h
  exact ⟨dx, dy, F, fun a o q => e _ _ (h1 a o q), h2⟩
def EqB (X : Cx) (n : Nat) (B : EqR) : Prop :=
  ∀ (A : Around) (pins : List (Addr × Obj)) (s : Shared) (σ : L2.St) (H : Hp) (x y : V) (u v : Value) (r : Bool), L2.Sub X n A → Inv X pins σ H s → RelV x u → RelV y v → DV X.K B x y H r →
    wpAny (model X.prog X.w) A (eqBool u v) (fun r' s' => r' = r ∧ LoopI X pins σ H s') X.xe s
def RcB (X : Cx) (n : Nat) (B : EqR) : Prop :=
  ∀ (A : Around) (pins : List (Addr × Obj)) (s : Shared) (σ : L2.St) (H : Hp) (x y : V) (u v : Value) (r : Bool), L2.Sub X n A → Inv X pins σ H s → RelV x u → RelV y v → DV X.K B x y H r →
    wpAny (model X.prog X.w) A (richCompare .Eq u v) (fun r' s' => r' = .bool r ∧ LoopI X pins σ H s') X.xe s
def RnB (X : Cx) (n : Nat) (B : EqR) : Prop :=
  ∀ (A : Around) (pins : List (Addr × Obj)) (s : Shared) (σ : L2.St) (H : Hp) (x y : V) (u v : Value) (r : Bool), L2.Sub X n A → Inv X pins σ H s → RelV x u → RelV y v → DV X.K B x y H r →
    wpAny (model X.prog X.w) A (richCompare .NotEq u v) (fun r' s' => r' = .bool (!r) ∧ LoopI X pins σ H s') X.xe s
structure OkR (B : EqR) : Prop where
  nr : ∀ x y r, B x y r → nor x = true ∧ nor y = true
  rf : ∀ x r, B x x r → r = true
def flR : EqR := fun x y r => ∃ u v, sc x = some u ∧ sc y = some v ∧ r = eqV u v
inductive EqLs (R : EqR) : List D → List D → Bool → Prop where
  | nil : EqLs R [] [] true
  | nl {y : D} {ys : List D} (h : norL (y :: ys) = true) : EqLs R [] (y :: ys) false
  | nr {y : D} {ys : List D} (h : norL (y :: ys) = true) : EqLs R (y :: ys) [] false
  | cons {x y : D} {xs ys : List D} {r t : Bool} (h : R x y r) (g : EqLs R xs ys t) : EqLs R (x :: xs) (y :: ys) (r && t)
def seqR (R : EqR) : EqR := fun x y r => ∃ xs ys, (x = .lst xs ∧ y = .lst ys ∨ x = .tup xs ∧ y = .tup ys) ∧ EqLs R xs ys r
def orR (R R' : EqR) : EqR := fun x y r => R x y r ∨ R' x y r
theorem al_shift (e : Nat → Bool) (b : Bool) : ∀ (k i : Nat), EQ.al (fun i => match i with | 0 => b | j + 1 => e j) (i + 1) k = EQ.al e i k
  | 0, i => rfl
  | k + 1, i => by
    show (e i && EQ.al _ (i + 1 + 1) k) = (e i && EQ.al e (i + 1) k)
    rw [al_shift e b k (i + 1)]
theorem EqLs.ex {R : EqR} : ∀ {xs ys : List D} {r : Bool}, EqLs R xs ys r → ∃ e : Nat → Bool, (∀ (i : Nat) x y, xs[i]? = some x → ys[i]? = some y → R x y (e i)) ∧ r = (EQ.al e 0 (min xs.length ys.length) && decide (xs.length = ys.length))
  | _, _, _, .nil => ⟨fun _ => true, fun i x y h => by simp at h, rfl⟩
  | _, _, _, .nl _ => ⟨fun _ => true, fun i x y h => by simp at h, by simp [EQ.al]⟩
  | _, _, _, .nr _ => ⟨fun _ => true, fun i x y _ h => by simp at h, by simp [EQ.al]⟩
  | x :: xs, y :: ys, _, .cons (r := r) (t := t) h g => by
    obtain ⟨e, h1, h2⟩ := g.ex
    refine ⟨fun i => match i with | 0 => r | j + 1 => e j, fun i a b ha hb => ?_, ?_⟩
    · cases i with
      | zero => simp at ha hb; subst ha hb; exact h
      | succ i => simp at ha hb; exact h1 i a b ha hb
    · rw [h2]
      simp only [List.length_cons, Nat.add_min_add_right, Nat.add_right_cancel_iff]
      show _ = ((r && EQ.al _ (0 + 1) _) && _)
      rw [al_shift e r _ 0, Bool.and_assoc]
theorem EqLs.nrs {R : EqR} (o : OkR R) : ∀ {xs ys : List D} {r : Bool}, EqLs R xs ys r → norL xs = true ∧ norL ys = true
  | _, _, _, .nil => ⟨rfl, rfl⟩
  | _, _, _, .nl h => ⟨rfl, h⟩
  | _, _, _, .nr h => ⟨h, rfl⟩
  | _, _, _, .cons h g => by
    have h1 := o.nr _ _ _ h
    have h2 := EqLs.nrs o g
    simp [norL, h1, h2]
theorem EqLs.rfs {R : EqR} (o : OkR R) : ∀ {xs : List D} {r : Bool}, EqLs R xs xs r → r = true
  | [], _, .nil => rfl
  | x :: xs, _, .cons h g => by rw [o.rf _ _ h, EqLs.rfs o g]; rfl
theorem okR_seq {R : EqR} (o : OkR R) : OkR (seqR R) := by
  refine ⟨fun x y r ⟨xs, ys, h, g⟩ => ?_, fun x r ⟨xs, ys, h, g⟩ => ?_⟩
  · have := g.nrs o
    rcases h with ⟨rfl, rfl⟩ | ⟨rfl, rfl⟩ <;> simpa [nor] using this
  · rcases h with ⟨h1, h2⟩ | ⟨h1, h2⟩
    · rw [h1] at h2; cases h2; exact g.rfs o
    · rw [h1] at h2; cases h2; exact g.rfs o
theorem okR_or {R R' : EqR} (o : OkR R) (o' : OkR R') : OkR (orR R R') :=
  ⟨fun x y r h => h.elim (o.nr x y r) (o'.nr x y r), fun x r h => h.elim (o.rf x r) (o'.rf x r)⟩
theorem eqV_self : ∀ v, flatV v = true → eqV v v = true
  | .non, _ => rfl
  | .bl b, _ => by simp [eqV]
  | .int i, _ => by simp [eqV]
  | .str x, _ => by simp [eqV]
theorem sc_flat {d : D} {v : V} (h : sc d = some v) : flatV v = true := by cases d <;> simp [sc] at h <;> subst h <;> rfl
theorem okR_fl : OkR flR := by
  refine ⟨fun x y r ⟨u, v, h1, h2, _⟩ => ?_, fun x r ⟨u, v, h1, h2, h3⟩ => ?_⟩
  · constructor
    · cases x <;> simp [sc] at h1 <;> rfl
    · cases y <;> simp [sc] at h2 <;> rfl
  · rw [h1] at h2; cases h2; rw [h3]; exact eqV_self _ (sc_flat h1)
section
variable {X : Cx} {n n' : Nat} {R R' : EqR}
theorem EqB.mono (h : EqB X n R) (hn : n ≤ n') : EqB X n' R := fun A pins s σ H x y u v r sb => h A pins s σ H x y u v r (sb.mono hn)
theorem RcB.mono (h : RcB X n R) (hn : n ≤ n') : RcB X n' R := fun A pins s σ H x y u v r sb => h A pins s σ H x y u v r (sb.mono hn)
theorem EqB.or (h : EqB X n R) (h' : EqB X n R') : EqB X n (orR R R') := fun A pins s σ H x y u v r sb I rx ry d => by
  obtain ⟨dx, dy, F, h1, h2, h3, d | d⟩ := d
  · exact h A pins s σ H x y u v r sb I rx ry ⟨dx, dy, F, h1, h2, h3, d⟩
  · exact h' A pins s σ H x y u v r sb I rx ry ⟨dx, dy, F, h1, h2, h3, d⟩
theorem eqB_fl : EqB X 0 flR := by
  intro A pins s σ H x y u v r sb I rx ry d
  obtain ⟨dx, dy, F, h1, h2, h3, a, b, e1, e2, rfl⟩ := d
  obtain rfl := sc_is e1 h2
  obtain rfl := sc_is e2 h3
  exact eqAt_V (A := A) (s := s) rx ry (sc_flat e1) (sc_flat e2) X.prog X.w X.xe _ ⟨rfl, H, I, Ext.rfl'⟩
theorem turnB (h : EqB X n R) {A : Around} (sb : L2.Sub X (n + 1) A) {pins : List (Addr × Obj)} {σ : L2.St} {H : Hp} {F : Hp} {ds es : List D} {xs ys : List V} {its its2 : List Value} {e : Nat → Bool} (sm : Same F H) (i1 : IsL X.K F ds xs) (i2 : IsL X.K F es ys) (p : ∀ (i : Nat) x y, ds[i]? = some x → es[i]? = some y → R x y (e i)) (r : Vals xs its) (r2 : Vals ys its2)
    (i : Nat) (h1 : i < its.toArray.size) (h2 : i < its2.toArray.size) (s' : Shared) (l : LoopI X pins σ H s') :
    wpAny (model X.prog X.w) A.in1 (eqBool its.toArray[i] its2.toArray[i]) (fun r s2 => r = e i ∧ LoopI X pins σ H s2) X.xe s' := by
  obtain ⟨H1, I1, e1⟩ := l
  have g1 : its[i]? = some its.toArray[i] := by
    have h1' : i < its.length := by simpa using h1
    rw [List.getElem?_eq_getElem h1'] <;> simp
  have g2 : its2[i]? = some its2.toArray[i] := by
    have h2' : i < its2.length := by simpa using h2
    rw [List.getElem?_eq_getElem h2'] <;> simp
  have k1 : i < xs.length := by rw [r.length]; simpa using h1
  have k2 : i < ys.length := by rw [r2.length]; simpa using h2
  obtain ⟨u, hu, ru⟩ := r.get (List.getElem?_eq_getElem k1)
  obtain ⟨v, hv, rv⟩ := r2.get (List.getElem?_eq_getElem k2)
  rw [g1] at hu
  rw [g2] at hv
  rw [Option.some.inj hu, Option.some.inj hv]
  obtain ⟨dx, q1, q2⟩ := i1.get (List.getElem?_eq_getElem k1)
  obtain ⟨dy, q3, q4⟩ := i2.get (List.getElem?_eq_getElem k2)
  refine wpAny_mono (h A.in1 pins s' σ H1 _ _ u v (e i) sb.in1 I1 ru rv ⟨dx, dy, F, fun a o q => e1 _ _ (sm a o q), q2, q4, p i dx dy q1 q3⟩) (fun r s2 q => ?_) fun _ _ x => x
  obtain ⟨hr, H2, I2, e2⟩ := q
  exact ⟨hr, H2, I2, e1.trans e2⟩
theorem lbB (h : EqB X n R) {A : Around} (sb : L2.Sub X (n + 1) A) {pins : List (Addr × Obj)} {σ : L2.St} {H F : Hp} {a b : Addr} {ds es : List D} {xs ys : List V} {e : Nat → Bool} (sm : Same F H) (ha : SqL X.K F a xs) (hb : SqL X.K F b ys) (i1 : IsL X.K F ds xs) (i2 : IsL X.K F es ys) (p : ∀ (i : Nat) x y, ds[i]? = some x → es[i]? = some y → R x y (e i)) :
    EQ.LB X.prog X.w A X.xe a b ds.length es.length e (LoopI X pins σ H) := by
  intro s' z
  obtain ⟨H1, I1, e1⟩ := id z
  obtain ⟨us, r1, p1, _⟩ := I1.list (SqL.ext (sm.seq ha) e1)
  obtain ⟨ws, r2, p2, _⟩ := I1.list (SqL.ext (sm.seq hb) e1)
  obtain ⟨⟨cls, dd, data, sl⟩, ho, hc, k1, hd⟩ := p1.isList
  obtain ⟨⟨cls2, dd2, data2, sl2⟩, ho2, hc2, k2, hd2⟩ := p2.isList
  simp only at hc hd hc2 hd2
  subst hc hd hc2 hd2
  refine ⟨us.toArray, ws.toArray, k1, k2, dd, dd2, sl, sl2, ho, ho2, by rw [List.size_toArray, ← r1.length, ← i1.len], by rw [List.size_toArray, ← r2.length, ← i2.len], fun i h1 h2 => ?_⟩
  exact turnB h sb sm i1 i2 p r1 r2 i h1 h2 s' z
theorem rcB_seq (h : EqB X n R) : RcB X (n + 1) (seqR R) := by
  intro A pins s σ H x y u v r sb I rx ry d
  obtain ⟨dx, dy, F, sm, ix, iy, xs, ys, hxy, g⟩ := d
  obtain ⟨e, p, rfl⟩ := g.ex
  rcases hxy with ⟨rfl, rfl⟩ | ⟨rfl, rfl⟩
  · obtain ⟨a, vs, rfl, h1, h2⟩ := ix
    obtain ⟨b, ws, rfl, h3, h4⟩ := iy
    cases rx
    cases ry
    refine EQ.rc_list sb.room.units0 (LoopI X pins σ H) (lbB h sb sm h1 h3 h2 h4 p) (fun s' q => ⟨?_, q⟩) ⟨H, I, Ext.rfl'⟩
    by_cases hl : xs.length = ys.length
    · simp [hl]
    · simp [hl]
  · obtain ⟨a, vs, rfl, h1, h2⟩ := ix
    obtain ⟨b, ws, rfl, h3, h4⟩ := iy
    cases rx
    cases ry
    obtain ⟨its, r1, e1, z1⟩ := I.tuple (Same.tq sm h1)
    obtain ⟨its2, r2, e2, z2⟩ := I.tuple (Same.tq sm h3)
    refine EQ.rc_tup sb.room.units0 (LoopI X pins σ H) e1 e2 (fun i h1 h2' s' q => turnB h sb sm h2 h4 p r1 r2 i h1 h2' s' q) (fun s' q => ⟨?_, q⟩) ⟨H, I, Ext.rfl'⟩
    rw [List.size_toArray, List.size_toArray, ← r1.length, ← r2.length, ← h2.len, ← h4.len]
theorem rnB_list (h : EqB X n R) : RnB X (n + 1) (fun x y r => ∃ xs ys, x = .lst xs ∧ y = .lst ys ∧ EqLs R xs ys r) := by
  intro A pins s σ H x y u v r sb I rx ry d
  obtain ⟨dx, dy, F, sm, ix, iy, xs, ys, rfl, rfl, g⟩ := d
  obtain ⟨e, p, rfl⟩ := g.ex
  obtain ⟨a, vs, rfl, h1, h2⟩ := ix
  obtain ⟨b, ws, rfl, h3, h4⟩ := iy
  cases rx
  cases ry
  refine EQ.rc_listN sb.room.units0 (LoopI X pins σ H) (lbB h sb sm h1 h3 h2 h4 p) (fun s' q => ⟨?_, q⟩) ⟨H, I, Ext.rfl'⟩
  by_cases hl : xs.length = ys.length
  · simp [hl]
  · simp [hl]
/-- within a list or tuple: the same object is equal to itself -/
theorem RcB.eqB (o : OkR R) (h : RcB X n R) (hr : ∀ x y r, R x y r → (∀ K F v, Is K F x v → ∃ a, v = .ref a) ∧ ∀ K F v, Is K F y v → ∃ a, v = .ref a) : EqB X n R := by
  intro A pins s σ H x y u v r sb I rx ry d
  have d0 := d
  obtain ⟨dx, dy, F, sm, ix, iy, hb⟩ := d
  obtain ⟨g1, g2⟩ := hr _ _ _ hb
  obtain ⟨a, rfl⟩ := g1 _ _ _ ix
  obtain ⟨b, rfl⟩ := g2 _ _ _ iy
  cases rx
  cases ry
  by_cases hab : a = b
  · subst hab
    have nn := o.nr _ _ _ hb
    have e := is_inj I sm dx dy _ nn.1 nn.2 ix iy
    subst e
    rw [o.rf _ _ hb]
    exact SeqAt.EqAt.same (A := A) (s := s) (.ref a) X.prog X.w X.xe _ ⟨rfl, H, I, Ext.rfl'⟩
  · refine GQ.eqBool_refG hab (wpAny_mono (h A pins s σ H (.ref a) (.ref b) _ _ r sb I rfl rfl d0) (fun w s' q => ?_) fun _ _ x => x)
    obtain ⟨hr', q⟩ := q
    exact ⟨r, hr', rfl, q⟩
theorem eqB_seq (o : OkR R) (h : EqB X n R) : EqB X (n + 1) (seqR R) := by
  refine RcB.eqB (okR_seq o) (rcB_seq h) fun x y r ⟨xs, ys, hxy, _⟩ => ?_
  rcases hxy with ⟨rfl, rfl⟩ | ⟨rfl, rfl⟩
  all_goals exact ⟨fun K F v ⟨a, vs, h, _⟩ => ⟨a, h⟩, fun K F v ⟨a, vs, h, _⟩ => ⟨a, h⟩⟩
/-- data of some depth over B -/
def dpR (B : EqR) : Nat → EqR
  | 0 => orR flR B
  | n + 1 => orR (dpR B n) (seqR (dpR B n))
theorem okR_dp (o : OkR R) : ∀ d, OkR (dpR R d)
  | 0 => okR_or okR_fl o
  | d + 1 => okR_or (okR_dp o d) (okR_seq (okR_dp o d))
theorem eqB_dp (o : OkR R) (h : EqB X n R) : ∀ d, EqB X (n + d) (dpR R d)
  | 0 => EqB.or (eqB_fl.mono (Nat.zero_le _)) h
  | d + 1 => EqB.or ((eqB_dp o h d).mono (by omega)) (eqB_seq (okR_dp o d) (eqB_dp o h d))
/-! ### instances -/
def spB (K : PySem.W.Frag) (R : EqR) : Sp := fun vs H Q _ => ∃ x y r, vs = [x, y] ∧ DV K R x y H r ∧ ∀ H', Ext H H' → Q (.bl r) H'
/-- the left one is an instance of C, whose own == tells; the right one is none that comes first -/
theorem rcB_ins {CX : CXT} {C f : Addr} {fd : FuncData} {ps : List Str} {E : XK} (F : FnOk X.prog X.w X.K X.mg X.base CX n f fd ps (spB X.K R)) (hl : ∀ x y r, R x y r → (∃ fs, x = .ins C fs) ∧ ∃ t, TDA y t ∧ PySem.W.notFirst X.K C t = true)
    (hs : PySem.W.findIn X.K (.ref C) "__eq__" = some (some (.ref f))) (hf : PySem.W.isFn X.K (.ref f) = true) (hb : Binds X.K fd ps []) (hx : Passes CX X E) : RcB X n R := by
  intro A pins s σ H x y u v r sb I rx ry d
  have d0 := d
  obtain ⟨dx, dy, F0, sm, ix, iy, hR⟩ := d
  obtain ⟨⟨fs, rfl⟩, t, ht, hn⟩ := hl _ _ _ hR
  obtain ⟨a, dxx, gs, rfl, h1, _⟩ := ix
  have w0 : Wd X.K F0 H (fun _ => none) := ⟨sm, fun _ _ h => by cases h⟩
  have ty := tda_tya ht w0 iy
  cases rx
  obtain ⟨od, J⟩ := OW.inst_at I (sm _ _ h1)
  obtain ⟨m, Fm⟩ := I.fr
  refine PySem.W.cmp_K (op := .Eq) sb.room.units0 Fm I.ok.mod.kin J (OW.tya_looks I ry ty) hn hs hf ?_
  have hsp : spB X.K R [.ref a, y] H (fun v H' => v = .bl r ∧ Ext H H') E := ⟨_, y, r, rfl, d0, fun H' e => ⟨rfl, e⟩⟩
  refine wpAny_mono (OW.run_in F sb hb hx I (OW.vals2 (x := .ref a) rfl ry) hsp) (fun w s' hw => ?_) fun _ _ e => e
  obtain ⟨z, H', I', rz, rfl, ex⟩ := hw
  obtain rfl : w = .bool r := rz
  exact ⟨rfl, H', I', ex⟩
theorem ref_ins {C : Addr} {fs : List (Str × D)} {K : PySem.W.Frag} {F : Hp} {v : V} (h : Is K F (.ins C fs) v) : ∃ a, v = .ref a := let ⟨a, _, _, e, _⟩ := h; ⟨a, e⟩
end
/-! ### as an expression -/
def rEqB (K : PySem.W.Frag) (B : EqR) : R2 := fun x y H Q => ∃ r, DV K B x y H r ∧ ∀ H', Ext H H' → Q (.bl r) H'
def rNeB (K : PySem.W.Frag) (B : EqR) : R2 := fun x y H Q => ∃ r, DV K B x y H r ∧ ∀ H', Ext H H' → Q (.bl (!r)) H'
section
variable {X : Cx} {n : Nat} {R : EqR} {K : PySem.W.Frag} {m : Mu} {k : D → Mu → Prop}
theorem op_eqB (h : RcB X n R) (hr : Room n X.A) : OpR X (compareOp .Eq) (rEqB X.K R) := by
  intro pins s σ H x y v u Q I rx ry hq
  obtain ⟨r, d, q⟩ := hq
  show wpAny (model X.prog X.w) X.A (richCompare .Eq v u) (EP X pins σ Q) X.xe s
  refine wpAny_mono (h X.A pins s σ H x y v u r ⟨hr, rfl⟩ I rx ry d) (fun w s' z => ?_) fun _ _ x => x
  obtain ⟨rfl, H', I', e⟩ := z
  exact ⟨.bl r, H', I', rfl, q H' e⟩
theorem op_neB (h : RnB X n R) (hr : Room n X.A) : OpR X (compareOp .NotEq) (rNeB X.K R) := by
  intro pins s σ H x y v u Q I rx ry hq
  obtain ⟨r, d, q⟩ := hq
  show wpAny (model X.prog X.w) X.A (richCompare .NotEq v u) (EP X pins σ Q) X.xe s
  refine wpAny_mono (h X.A pins s σ H x y v u r ⟨hr, rfl⟩ I rx ry d) (fun w s' z => ?_) fun _ _ x => x
  obtain ⟨rfl, H', I', e⟩ := z
  exact ⟨.bl (!r), H', I', rfl, q H' e⟩
theorem r_eqB {x y : D} {r : Bool} (hb : R x y r) (q : k (.bl r) m) : wR K (rEqB K R) x y m k := fun vx vy F H Q w ix iy p =>
  ⟨r, ⟨x, y, F, w.same, ix, iy, hb⟩, fun H' e => p (.bl r) m _ F H' q (wd_ext w e) (stp_ext e) rfl⟩
theorem r_neB {x y : D} {r : Bool} (hb : R x y r) (q : k (.bl (!r)) m) : wR K (rNeB K R) x y m k := fun vx vy F H Q w ix iy p =>
  ⟨r, ⟨x, y, F, w.same, ix, iy, hb⟩, fun H' e => p (.bl (!r)) m _ F H' q (wd_ext w e) (stp_ext e) rfl⟩
/-- a def whose promise by data tells R -/
theorem sp_B {S : SpD} (h : ∀ x y r k, R x y r → k (.bl r) (fun _ => none) → S [x, y] (fun _ => none) k) {vs : List V} {H : Hp} {Q : VK} {E : XK} (g : spB K R vs H Q E) : spOf K S vs H Q E := by
  obtain ⟨x, y, r, rfl, ⟨dx, dy, F, sm, ix, iy, hR⟩, hq⟩ := g
  refine ⟨[dx, dy], F, fun _ => none, fun d m => d = .bl r ∧ m = fun _ => none, ⟨sm, fun _ _ h => by cases h⟩, .two ix iy, h dx dy r _ hR ⟨rfl, rfl⟩, ?_⟩
  rintro d m' v F' H' ⟨rfl, rfl⟩ w' s' iv
  obtain rfl : v = .bl r := iv
  exact hq H' fun c o h => s'.frame c o rfl h
end
end DL
end

section
set_option Elab.async false
set_option linter.all false
namespace MA
/-! ### fractions in lowest terms -/
theorem gcd_dl (t b : Int) : ((Int.gcd t b : Nat) : Int) ∣ t := Int.gcd_dvd_left ..
theorem gcd_dr (t b : Int) : ((Int.gcd t b : Nat) : Int) ∣ b := Int.gcd_dvd_right ..
theorem gcd_pos' (t : Int) {b : Int} (hb : b ≠ 0) : 0 < Int.gcd t b := Int.gcd_pos_of_ne_zero_right _ hb
theorem share_num (t b : Int) (hb : b ≠ 0) : t.fdiv (if b < 0 then -((Int.gcd t b : Nat) : Int) else ((Int.gcd t b : Nat) : Int)) = (Rat.divInt t b).num := by
  have hg := gcd_pos' t hb
  rw [Rat.num_divInt, Int.gcd_comm b t]
  obtain ⟨c, hc⟩ := gcd_dl t b
  generalize hG : Int.gcd t b = g at *
  have hg' : (g : Int) ≠ 0 := by omega
  by_cases h : b < 0
  · rw [if_pos h, Int.sign_eq_neg_one_of_neg h, hc]
    have e1 : (g : Int) * c = -(g : Int) * -c := by rw [Int.neg_mul_neg]
    have e2 : -1 * ((g : Int) * c) = (g : Int) * -c := by rw [Int.mul_neg, Int.neg_mul, Int.one_mul]
    rw [e2, Int.mul_ediv_cancel_left _ hg', e1, Int.mul_fdiv_cancel_left _ (by omega)]
  · rw [if_neg h, Int.sign_eq_one_of_pos (by omega), hc, Int.one_mul, Int.mul_ediv_cancel_left _ hg', Int.mul_fdiv_cancel_left _ hg']
theorem share_den (t b : Int) (hb : b ≠ 0) : b.fdiv (if b < 0 then -((Int.gcd t b : Nat) : Int) else ((Int.gcd t b : Nat) : Int)) = ((Rat.divInt t b).den : Int) := by
  have hg := gcd_pos' t hb
  rw [Rat.den_divInt, if_neg hb, Int.gcd_comm b t]
  obtain ⟨c, hc⟩ := gcd_dr t b
  generalize hG : Int.gcd t b = g at *
  have hg' : (g : Int) ≠ 0 := by omega
  have hn : b.natAbs = g * c.natAbs := by rw [hc, Int.natAbs_mul, Int.natAbs_natCast]
  rw [hn, Nat.mul_div_cancel_left _ hg]
  by_cases h : b < 0
  · have hcn : c < 0 := by
      by_cases q : c < 0
      · exact q
      · have : 0 ≤ (g : Int) * c := Int.mul_nonneg (by omega) (by omega)
        omega
    rw [if_pos h]
    have e1 : b = -(g : Int) * -c := by rw [Int.neg_mul_neg]; exact hc
    rw [e1, Int.mul_fdiv_cancel_left _ (by omega)]
    omega
  · have hcn : 0 ≤ c := by
      by_cases q : c < 0
      · have : (g : Int) * c < 0 := Int.mul_neg_of_pos_of_neg (by omega) q
        omega
      · omega
    rw [if_neg h]
    rw [hc, Int.mul_fdiv_cancel_left _ hg']
    omega
theorem part_le (t b : Int) (hb : b ≠ 0) : (if b < 0 then -((Int.gcd t b : Nat) : Int) else ((Int.gcd t b : Nat) : Int)).natAbs ≤ b.natAbs ∧ (if b < 0 then -((Int.gcd t b : Nat) : Int) else ((Int.gcd t b : Nat) : Int)) ≠ 0 := by
  have hg := gcd_pos' t hb
  have h2 : Int.gcd t b ≤ b.natAbs := Nat.le_of_dvd (by omega) (Nat.gcd_dvd_right ..)
  split <;> omega
/-! ### sizes -/
structure Sz (B : Nat) (q : Rat) : Prop where
  n : q.num.natAbs < 2 ^ B
  d : q.den < 2 ^ B
theorem Sz.mono {B C : Nat} {q : Rat} (h : Sz B q) (hc : B ≤ C) : Sz C q := ⟨Nat.lt_of_lt_of_le h.n (Nat.pow_le_pow_right (by decide) hc), Nat.lt_of_lt_of_le h.d (Nat.pow_le_pow_right (by decide) hc)⟩
theorem num_le (t b : Int) : (Rat.divInt t b).num.natAbs ≤ t.natAbs := by
  rw [Rat.num_divInt]
  obtain ⟨c, hc⟩ := gcd_dl t b
  rw [Int.gcd_comm b t]
  by_cases hg : Int.gcd t b = 0
  · rw [hg]; simp
  · generalize hG : Int.gcd t b = g at *
    have hg' : (g : Int) ≠ 0 := by omega
    have e : b.sign * t = (g : Int) * (b.sign * c) := by rw [hc]; grind
    rw [e, Int.mul_ediv_cancel_left _ hg', hc, Int.natAbs_mul, Int.natAbs_mul, Int.natAbs_natCast]
    have h1 : b.sign.natAbs ≤ 1 := by
      rcases Int.lt_trichotomy b 0 with q | q | q
      · rw [Int.sign_eq_neg_one_of_neg q]; decide
      · subst q; decide
      · rw [Int.sign_eq_one_of_pos q]; decide
    calc b.sign.natAbs * c.natAbs ≤ 1 * c.natAbs := Nat.mul_le_mul_right _ h1
      _ ≤ g * c.natAbs := Nat.mul_le_mul_right _ (by omega)
theorem den_le (t : Int) {b : Int} (hb : b ≠ 0) : (Rat.divInt t b).den ≤ b.natAbs := by
  rw [Rat.den_divInt, if_neg hb]
  exact Nat.div_le_self ..
theorem Sz.div {B : Nat} {t b : Int} (hb : b ≠ 0) (h1 : t.natAbs < 2 ^ B) (h2 : b.natAbs < 2 ^ B) : Sz B (Rat.divInt t b) := ⟨Nat.lt_of_le_of_lt (num_le t b) h1, Nat.lt_of_le_of_lt (den_le t hb) h2⟩
theorem add_eq (q p : Rat) : Rat.divInt (q.num * (p.den : Int) + p.num * (q.den : Int)) ((q.den : Int) * (p.den : Int)) = q + p := by
  rw [Rat.add_def', ← Rat.divInt_ofNat]
  rfl
theorem mul_eq (q p : Rat) : Rat.divInt (q.num * p.num) ((q.den : Int) * (p.den : Int)) = q * p := by
  rw [Rat.mul_def', ← Rat.divInt_ofNat]
  rfl
theorem neg_eq (q : Rat) : Rat.divInt (-q.num) (q.den : Int) = -q := by
  rw [← Rat.neg_num, ← Rat.neg_den, Rat.num_divInt_den]
theorem den_ne (q : Rat) : (q.den : Int) ≠ 0 := by have := q.den_nz; omega
theorem den_pos' (q : Rat) : 0 < (q.den : Int) := by have := q.den_nz; omega
theorem mul_lt {a b : Nat} {x y : Int} (hx : x.natAbs < 2 ^ a) (hy : y.natAbs < 2 ^ b) : (x * y).natAbs < 2 ^ (a + b) := by
  rw [Int.natAbs_mul, Nat.pow_add]
  exact Nat.mul_lt_mul'' hx hy
theorem add_lt {a : Nat} {x y : Int} (hx : x.natAbs < 2 ^ a) (hy : y.natAbs < 2 ^ a) : (x + y).natAbs < 2 ^ (a + 1) := by
  rw [Nat.pow_succ]; omega
theorem Sz.dn {B : Nat} {q : Rat} (h : Sz B q) : ((q.den : Int)).natAbs < 2 ^ B := by rw [Int.natAbs_natCast]; exact h.d
theorem Sz.add {B C : Nat} {q p : Rat} (h : Sz B q) (g : Sz C p) : Sz (B + C + 1) (q + p) := by
  rw [← add_eq]
  refine Sz.div (by have := Int.mul_pos (den_pos' q) (den_pos' p); omega) (add_lt (mul_lt h.n g.dn) (by rw [Nat.add_comm B C]; exact mul_lt g.n h.dn)) ?_
  exact Nat.lt_of_lt_of_le (mul_lt h.dn g.dn) (Nat.pow_le_pow_right (by decide) (by omega))
theorem Sz.mul {B C : Nat} {q p : Rat} (h : Sz B q) (g : Sz C p) : Sz (B + C) (q * p) := by
  rw [← mul_eq]
  exact Sz.div (by have := Int.mul_pos (den_pos' q) (den_pos' p); omega) (mul_lt h.n g.n) (mul_lt h.dn g.dn)
theorem Sz.neg {B : Nat} {q : Rat} (h : Sz B q) : Sz B (-q) := ⟨by rw [Rat.neg_num, Int.natAbs_neg]; exact h.n, by rw [Rat.neg_den]; exact h.d⟩
theorem sz_int {B : Nat} {i : Int} (h : i.natAbs < 2 ^ B) (hB : 0 < B) : Sz B (i : Rat) := ⟨h, by
  show 1 < 2 ^ B
  exact Nat.one_lt_two_pow (by omega)⟩
end MA
end

section
set_option Elab.async false
set_option linter.all false
set_option maxRecDepth 100000
set_option maxHeartbeats 2000000
namespace OW
open PySem PySem.Spec PyProof.Rows L2
/-! ### x == b, x of a built-in kind that declines, b an instance -/
/-- a value of a built-in kind -/
inductive BL (K : PySem.W.Frag) (H : Hp) : V → String → Prop where
  | int (i : Int) : BL K H (.int i) "int"
  | bl (b : Bool) : BL K H (.bl b) "bool"
  | non : BL K H .non "NoneType"
  | str (x : Str) : BL K H (.str x) "str"
  | lst {a : Addr} {xs : List V} (h : SqL K H a xs) : BL K H (.ref a) "list"
  | tup {a : Addr} {xs : List V} (h : SqT K H a xs) : BL K H (.ref a) "tuple"
  | dic {a : Addr} {kvs : List (Key × V)} (h : H a = some (.dK kvs)) : BL K H (.ref a) "dict"
section
variable {X : Cx} {CX : CXT} {k : Nat} {f C : Addr} {fd : FuncData} {ps : List Str} {sp : Sp} {E : XK}
theorem sub_here {M : Model} {A : Around} {E : Value → Shared → Prop} {s : Shared} {K : PySem.W.Frag} {b C : Addr} {od : Option Obj} {ob : Obj} {T : String} {Q : Bool → Shared → Prop} (KX : K.In s.heap) (J : PySem.W.InstAt s.heap b ob C od) (hs : PySem.W.subIn K (.ref C) (.type T) = some false) (q : Q false s) : wpAny M A (isInstance (.ref b) (.type T)) Q E s := by
  unfold isInstance
  exact wpAny_bind (J.type.here ((PySem.W.looks_subIn KX hs).here q))
/-- the frame: the left one declines by its slot, the right one's method answers -/
theorem req_core {T idl : String} {bi : Builtin} {op : CmpOp} {pins : List (Addr × Obj)} {σ : L2.St} {H : Hp} {s : Shared} {x : V} {u : Value} {b dx : Addr} {fs : List (Str × V)} {Q : VK} (slot : Slot T (cmpInfo op).2.1 idl) (entry : entryFor table idl = some bi) (args : ∀ u v, argsOk idl ⟨[u, v], []⟩)
    (hop : ∀ a b, compareOp op a b = richCompare op a b) (hone : oneThing? op u (.ref b) = none)
    (I : Inv X pins σ H s) (rx : L2.RelV x u) (hT : s.TypeIs u T) (ha : H b = some (.ins C dx fs))
    (hno : ∀ (A : Around) (E : Value → Shared → Prop) (Q : Fin → Shared → Prop), Q (.done (.ret .notImplemented)) s → wpAny (model X.prog X.w) A (bi ⟨[u, .ref b], []⟩) Q E s)
    (hsub : PySem.W.subIn X.K (.ref C) (.type T) = some false) (hu : X.A.units < cLine)
    (hright : ∀ (QQ : Option Value → Shared → Prop), (∀ v s', v ≠ .notImplemented → EP X pins σ Q v s' → QQ (some v) s') → wpAny (model X.prog X.w) X.A (tryCompare (.ref b) (cmpInfo op).2.2 u) QQ X.xe s) :
    wpAny (model X.prog X.w) X.A (compareOp op u (.ref b)) (EP X pins σ Q) X.xe s := by
  obtain ⟨od, J⟩ := inst_at I ha
  have KX := I.kIn
  rw [hop]
  have hne : (Value.type T != Value.ref C) = true := by
    rw [bne_iff_ne]; exact fun q => by cases q
  unfold richCompare
  simp only [hone]
  refine wpAny_holding (wpAny_bind (wpAny_cRoomFor hu ?_))
  refine wpAny_bind (wpAny_typeOf hT (wpAny_bind (J.type.here ?_)))
  rw [if_pos hne]
  refine wpAny_bind ((PySem.W.looks_subIn KX hsub).here ?_)
  simp only [Bool.false_eq_true, if_false]
  refine wpAny_bind (wpAny_tryCompare_declines hT slot ?_)
  refine wpAny_call_entry slot hT entry (hno _ _ _ ⟨_, rfl, rfl, ?_⟩) (args _ _)
  simp only [Bool.not_false, if_true]
  refine wpAny_bind (hright _ fun v s' hv q => ?_)
  exact wpAny_pure q
/-- the right one's own method -/
theorem right_fn {nm : Str} {pins : List (Addr × Obj)} {σ : L2.St} {H : Hp} {s : Shared} {x : V} {u : Value} {b dx : Addr} {fs : List (Str × V)} {Q : VK} (hs : PySem.W.findIn X.K (.ref C) nm = some (some (.ref f))) (hf : PySem.W.isFn X.K (.ref f) = true)
    (F : FnOk X.prog X.w X.K X.mg X.base CX k f fd ps sp) (hr : Room k X.A) (hb : Binds X.K fd ps []) (hx : Passes CX X E) (I : Inv X pins σ H s) (rx : L2.RelV x u) (ha : H b = some (.ins C dx fs)) (h : sp [.ref b, x] H Q E) :
    ∀ (QQ : Option Value → Shared → Prop), (∀ v s', v ≠ .notImplemented → EP X pins σ Q v s' → QQ (some v) s') → wpAny (model X.prog X.w) X.A (tryCompare (.ref b) nm u) QQ X.xe s := by
  intro QQ hQ
  obtain ⟨od, J⟩ := inst_at I ha
  unfold tryCompare
  refine wpAny_bind (PySem.W.ifBound_K I.kIn J hs hf (wpAny_mono (run_fn (ds := []) (dvs := []) F hr hb .nil hx I (vals2 (x := .ref b) (y := x) rfl rx) h) (fun v s' hv => ?_) fun _ _ e => e))
  have hv2 := hv
  obtain ⟨z, H', I', r', q'⟩ := hv
  have hz := notNI r'
  have := hQ v s' hz hv2
  cases v <;> first | exact absurd rfl hz | exact wpAny_pure this
/-- x == b -/
theorem op_req (hs : PySem.W.findIn X.K (.ref C) "__eq__" = some (some (.ref f))) (hf : PySem.W.isFn X.K (.ref f) = true) (hsub : ∀ T ∈ ["int", "bool", "NoneType", "str", "list", "tuple", "dict"], PySem.W.subIn X.K (.ref C) (.type T) = some false)
    (F : FnOk X.prog X.w X.K X.mg X.base CX k f fd ps sp) (hr : Room k X.A) (hb : Binds X.K fd ps []) (hx : Passes CX X E) :
    OpR X (compareOp .Eq) (fun x y H Q => ∃ T b dx fs, BL X.K H x T ∧ y = .ref b ∧ H b = some (.ins C dx fs) ∧ sp [y, x] H Q E) := by
  intro pins s σ H x y u v Q I rx ry h
  obtain ⟨T, b, dx, fs, hB, rfl, ha, h⟩ := h
  obtain rfl : v = .ref b := ry
  have hu : X.A.units < cLine := by have := hr.units0; omega
  have hR := right_fn (nm := (cmpInfo .Eq).2.2) hs hf F hr hb hx I rx ha h
  obtain ⟨od, J⟩ := inst_at I ha
  have hJ := J.at_
  cases hB with
  | int i =>
    obtain ⟨t, rfl⟩ := rx
    exact req_core PySem.F.slot_int_eq PySem.F.entry_int_eq PySem.F.args_int_eq_2 (fun _ _ => rfl) rfl I (x := .int i) ⟨t, rfl⟩ (typeIs_int s i t) ha (fun A E Q q => no_bin _ A E i t b C _ s Q hJ q) (hsub _ (by simp)) hu hR
  | bl i =>
    obtain rfl := rx
    refine req_core PySem.F.slot_bool_eq PySem.F.entry_int_eq PySem.F.args_int_eq_2 (fun _ _ => rfl) rfl I (x := .bl i) rfl (PySem.typeIs_bool s i) ha (fun A E Q q => ?_) (hsub _ (by simp)) hu hR
    obtain ⟨hp, g, d, tk, os⟩ := s
    wp_walk using wpAny_loadPart' hJ, wpAny_load hJ
    exact q
  | non =>
    obtain rfl := rx
    refine req_core PySem.F.slot_NoneType_eq PySem.F.entry_NoneType_eq PySem.F.args_NoneType_eq_2 (fun _ _ => rfl) rfl I (x := .non) rfl (typeIs_none s) ha (fun A E Q q => ?_) (hsub _ (by simp)) hu hR
    obtain ⟨hp, g, d, tk, os⟩ := s
    wp_walk
    exact q
  | str i =>
    obtain ⟨t, rfl⟩ := rx
    refine req_core PySem.F.slot_str_eq PySem.F.entry_str_eq PySem.F.args_str_eq_2 (fun _ _ => rfl) rfl I (x := .str i) ⟨t, rfl⟩ (typeIs_str s i t) ha (fun A E Q q => ?_) (hsub _ (by simp)) hu hR
    obtain ⟨hp, g, d, tk, os⟩ := s
    wp_walk using wpAny_loadPart' hJ, wpAny_load hJ
    exact q
  | @lst a xs hq =>
    obtain rfl := (show u = .ref a from rx)
    obtain ⟨its, _, p, _⟩ := I.list hq
    obtain ⟨o, h1, h2, _⟩ := p.isList
    have hT : s.TypeIs (.ref a) "list" := ⟨o, h1, h2⟩
    refine req_core PySem.F.slot_list_eq PySem.F.entry_list_eq PySem.F.args_list_eq_2 (fun _ _ => rfl) rfl I (x := .ref a) rfl hT ha (fun A E Q q => ?_) (hsub _ (by simp)) hu hR
    refine wpAny_bind (m := slotArgs "__eq__" 1 _) (wpAny_pure ?_)
    refine wpAny_bind (sub_here I.kIn J (hsub _ (by simp)) ?_)
    exact wpAny_pure q
  | @tup a xs hq =>
    obtain rfl := (show u = .ref a from rx)
    obtain ⟨its, _, ⟨o, h1, h2, _⟩, _⟩ := I.tuple hq
    have hT : s.TypeIs (.ref a) "tuple" := ⟨o, h1, h2⟩
    refine req_core PySem.F.slot_tuple_eq PySem.F.entry_tuple_eq PySem.F.args_tuple_eq_2 (fun _ _ => rfl) rfl I (x := .ref a) rfl hT ha (fun A E Q q => ?_) (hsub _ (by simp)) hu hR
    refine wpAny_bind (m := slotArgs "__eq__" 1 _) (wpAny_pure ?_)
    refine wpAny_bind (sub_here I.kIn J (hsub _ (by simp)) ?_)
    exact wpAny_pure q
  | @dic a kvs hq =>
    obtain rfl := (show u = .ref a from rx)
    obtain ⟨_, _, _, _, o, es, ep, h1, h2, _⟩ := I.hok a _ hq
    have hT : s.TypeIs (.ref a) "dict" := ⟨o, h1, h2.1⟩
    refine req_core PySem.F.slot_dict_eq PySem.F.entry_dict_eq PySem.F.args_dict_eq_2 (fun _ _ => rfl) rfl I (x := .ref a) rfl hT ha (fun A E Q q => ?_) (hsub _ (by simp)) hu hR
    refine wpAny_bind (m := Builtin.Dict.dictSlotArgs "__eq__" _) (wpAny_bind (m := Builtin.Dict.notOrdered "__eq__" _) (wpAny_pure (wpAny_bind (m := slotArgs "__eq__" 1 _) (wpAny_pure (wpAny_pure ?_)))))
    refine wpAny_bind (sub_here I.kIn J (hsub _ (by simp)) ?_)
    exact wpAny_bind (wpAny_rule (wpAny_pure q))
/-- i != b, by the own == of b's class -/
theorem op_rneI (hne : PySem.W.findIn X.K (.ref C) "__ne__" = some (some (.builtin "object.__ne__"))) (hm : PySem.W.mroIn X.K C (.type "object") = some true) (hs : PySem.W.findIn X.K (.ref C) "__eq__" = some (some (.ref f))) (hf : PySem.W.isFn X.K (.ref f) = true) (hsub : PySem.W.subIn X.K (.ref C) (.type "int") = some false)
    (F : FnOk X.prog X.w X.K X.mg X.base CX k f fd ps sp) (hr : Room (k + 1) X.A) (hb : Binds X.K fd ps []) (hx : Passes CX X E) :
    OpR X (compareOp .NotEq) (fun x y H Q => ∃ i b dx fs, x = .int i ∧ y = .ref b ∧ H b = some (.ins C dx fs) ∧ sp [y, x] H (fun v H' => ∃ b, v = .bl b ∧ Q (.bl (!b)) H') E) := by
  intro pins s σ H x y u v Q I rx ry h
  obtain ⟨i, b, dx, fs, rfl, rfl, ha, h⟩ := h
  obtain rfl : v = .ref b := ry
  obtain ⟨od, J⟩ := inst_at I ha
  have hJ := J.at_
  have sb : L2.Sub X (k + 1) X.A := ⟨hr, rfl⟩
  have hu1 : X.A.in1.units < cLine := sb.in1.room.units0
  have rx2 := rx
  obtain ⟨t, rfl⟩ := rx
  refine req_core PySem.F.slot_int_ne PySem.F.entry_int_ne PySem.F.args_int_ne_2 (fun _ _ => rfl) rfl I (x := .int i) ⟨t, rfl⟩ (typeIs_int s i t) ha (fun A E Q q => no_bin _ A E i t b C _ s Q hJ q) hsub (by have := hr.units0; omega) ?_
  intro QQ hQ
  unfold tryCompare
  refine wpAny_bind (EQ.ifBound_bi I.kIn J hne PySem.F.slot_object_ne.bind (EQ.call_ne hu1 I.kIn J hm hs hf (wpAny_mono (run_in F sb.in1 hb hx I (vals2 (x := .ref b) (y := .int i) rfl rx2) h) (fun w s' hw => ?_) fun _ _ e => e)))
  obtain ⟨z, H', I', r', c, rfl, q'⟩ := hw
  obtain rfl : w = .bool c := r'
  exact ⟨c, rfl, wpAny_pure (hQ _ s' (fun q => by cases q) ⟨.bl (!c), H', I', rfl, q'⟩)⟩
end
end OW
namespace DL
open PySem PySem.Spec PyProof.Rows L2
section
variable {K : PySem.W.Frag} {m : Mu} {k : D → Mu → Prop} {S : SpD} {C : Addr} {E : XK} {r : En}
inductive BLD : D → String → Prop where
  | int (i : Int) : BLD (.int i) "int"
  | bl (b : Bool) : BLD (.bl b) "bool"
  | non : BLD .non "NoneType"
  | str (x : Str) : BLD (.str x) "str"
  | lst (xs : List D) : BLD (.lst xs) "list"
  | tup (xs : List D) : BLD (.tup xs) "tuple"
  | dic (kvs : List (Key × V)) : BLD (.raw (.dK kvs)) "dict"
theorem bld_bl {F H : Hp} {d : D} {v : V} {T : String} (h : BLD d T) (w : Wd K F H m) (i : Is K F d v) : OW.BL K H v T := by
  cases h with
  | int j => obtain rfl : v = .int j := i; exact .int j
  | bl j => obtain rfl : v = .bl j := i; exact .bl j
  | non => obtain rfl : v = .non := i; exact .non
  | str j => obtain rfl : v = .str j := i; exact .str j
  | lst xs => obtain ⟨a, us, rfl, h1, _⟩ := i; exact .lst (w.same.seq h1)
  | tup xs => obtain ⟨a, us, rfl, h1, _⟩ := i; exact .tup (Same.tq w.same h1)
  | dic kvs => obtain ⟨a, rfl, h1⟩ := i; exact .dic (w.same _ _ h1)
def rReq (K : PySem.W.Frag) (C : Addr) (S : SpD) : R2 := fun x y H Q => ∃ T b dx fs, OW.BL K H x T ∧ y = .ref b ∧ H b = some (.ins C dx fs) ∧ spOf K S [y, x] H Q E0
theorem r_req {x : D} {T : String} {fs : List (Str × D)} (hx : BLD x T) (q : S [.ins C fs, x] m k) : wR K (rReq K C S) x (.ins C fs) m k := fun vx vy F H Q w ix iy p => by
  have hy := iy
  obtain ⟨b, dx, gs, rfl, h1, _⟩ := iy
  exact ⟨T, b, dx, gs, bld_bl hx w ix, rfl, w.same _ _ h1, sp_at w hy ix p q⟩
def rNeI (K : PySem.W.Frag) (C : Addr) (S : SpD) : R2 := fun x y H Q => ∃ i b dx fs, x = .int i ∧ y = .ref b ∧ H b = some (.ins C dx fs) ∧ spOf K S [y, x] H (fun v H' => ∃ b, v = .bl b ∧ Q (.bl (!b)) H') E0
theorem r_neI {i : Int} {fs : List (Str × D)} (q : S [.ins C fs, .int i] m fun d m' => ∃ b, d = .bl b ∧ k (.bl (!b)) m') : wR K (rNeI K C S) (.int i) (.ins C fs) m k := fun vx vy F H Q w ix iy p => by
  have hy := iy
  obtain ⟨b, dx, gs, rfl, h1, _⟩ := iy
  refine ⟨i, b, dx, gs, ix, rfl, w.same _ _ h1, sp_at w hy ix ?_ q⟩
  intro d m' v F' H' hd w' s' iv
  obtain ⟨b, rfl, hk⟩ := hd
  exact ⟨b, iv, p _ m' _ F' H' hk w' s' rfl⟩
/-! dicts -/
theorem e_dict0 (q : k (.raw (.dK [])) m) : wE K tDNewK r m k := fun σ F H Q w e p => by
  intro a ha
  exact p _ m _ _ _ q (w.newF ha) (Stp.newF w ha) ⟨a, rfl, upd_same⟩
theorem e_dict1 {x : Str} {i : Nat} {n : Int} (hr : r[i]? = some (some (.int n))) (q : k (.raw (.dK [(.inr x, .int n)])) m) : wE K (tDisp [(tC (.str x), tVar i)]) r m k := fun σ F H Q w e p => by
  intro a ha
  obtain ⟨v, h1, h2⟩ := e.2 i _ hr
  obtain rfl : v = .int n := h2
  refine ⟨.int n, h1, upd_same, [(.inr x, .int n)], rfl, by simp, ?_⟩
  rw [upd_upd]
  exact p _ m _ _ _ q (w.newF ha) (Stp.newF w ha) ⟨a, rfl, upd_same⟩
end
end DL
end

section
set_option Elab.async false
set_option linter.all false
set_option maxRecDepth 100000
set_option maxHeartbeats 2000000
namespace OW
open PySem PySem.Spec PyProof.Rows L2
section
variable {X : Cx} {CX : CXT} {k : Nat} {f C : Addr} {fd : FuncData} {ps : List Str} {sp : Sp} {E : XK}
/-- the == of a built-in kind declines an instance -/
theorem bl_no {T : String} {pins : List (Addr × Obj)} {σ : L2.St} {H : Hp} {s : Shared} {x : V} {u : Value} {b : Addr} {ob : Obj} {od : Option Obj} (I : Inv X pins σ H s) (rx : L2.RelV x u) (hB : BL X.K H x T) (J : PySem.W.InstAt s.heap b ob C od) (hJ : ∃ dx, s.heap.get? b = some (PySem.W.instObj C dx)) (hsub : PySem.W.subIn X.K (.ref C) (.type T) = some false) :
    ∃ (idl : String) (bi : Builtin), Slot T (cmpInfo .Eq).2.1 idl ∧ entryFor table idl = some bi ∧ (∀ u v, argsOk idl ⟨[u, v], []⟩) ∧ s.TypeIs u T ∧ oneThing? .Eq u (.ref b) = none ∧
      ∀ (A : Around) (E : Value → Shared → Prop) (Q : Fin → Shared → Prop), Q (.done (.ret .notImplemented)) s → wpAny (model X.prog X.w) A (bi ⟨[u, .ref b], []⟩) Q E s := by
  obtain ⟨dx, hJ⟩ := hJ
  cases hB with
  | int i =>
    obtain ⟨t, rfl⟩ := rx
    exact ⟨_, _, PySem.F.slot_int_eq, PySem.F.entry_int_eq, PySem.F.args_int_eq_2, typeIs_int s i t, rfl, fun A E Q q => no_bin _ A E i t b C _ s Q hJ q⟩
  | bl i =>
    obtain rfl := rx
    refine ⟨_, _, PySem.F.slot_bool_eq, PySem.F.entry_int_eq, PySem.F.args_int_eq_2, PySem.typeIs_bool s i, rfl, fun A E Q q => ?_⟩
    obtain ⟨hp, g, d, tk, os⟩ := s
    wp_walk using wpAny_loadPart' hJ, wpAny_load hJ
    exact q
  | non =>
    obtain rfl := rx
    refine ⟨_, _, PySem.F.slot_NoneType_eq, PySem.F.entry_NoneType_eq, PySem.F.args_NoneType_eq_2, typeIs_none s, rfl, fun A E Q q => ?_⟩
    obtain ⟨hp, g, d, tk, os⟩ := s
    wp_walk
    exact q
  | str i =>
    obtain ⟨t, rfl⟩ := rx
    refine ⟨_, _, PySem.F.slot_str_eq, PySem.F.entry_str_eq, PySem.F.args_str_eq_2, typeIs_str s i t, rfl, fun A E Q q => ?_⟩
    obtain ⟨hp, g, d, tk, os⟩ := s
    wp_walk using wpAny_loadPart' hJ, wpAny_load hJ
    exact q
  | @lst a xs hq =>
    obtain rfl := (show u = .ref a from rx)
    obtain ⟨its, _, p, _⟩ := I.list hq
    obtain ⟨o, h1, h2, _⟩ := p.isList
    refine ⟨_, _, PySem.F.slot_list_eq, PySem.F.entry_list_eq, PySem.F.args_list_eq_2, ⟨o, h1, h2⟩, rfl, fun A E Q q => ?_⟩
    refine wpAny_bind (m := slotArgs "__eq__" 1 _) (wpAny_pure ?_)
    refine wpAny_bind (sub_here I.kIn J hsub ?_)
    exact wpAny_pure q
  | @tup a xs hq =>
    obtain rfl := (show u = .ref a from rx)
    obtain ⟨its, _, ⟨o, h1, h2, _⟩, _⟩ := I.tuple hq
    refine ⟨_, _, PySem.F.slot_tuple_eq, PySem.F.entry_tuple_eq, PySem.F.args_tuple_eq_2, ⟨o, h1, h2⟩, rfl, fun A E Q q => ?_⟩
    refine wpAny_bind (m := slotArgs "__eq__" 1 _) (wpAny_pure ?_)
    refine wpAny_bind (sub_here I.kIn J hsub ?_)
    exact wpAny_pure q
  | @dic a kvs hq =>
    obtain rfl := (show u = .ref a from rx)
    obtain ⟨_, _, _, _, o, es, ep, h1, h2, _⟩ := I.hok a _ hq
    refine ⟨_, _, PySem.F.slot_dict_eq, PySem.F.entry_dict_eq, PySem.F.args_dict_eq_2, ⟨o, h1, h2.1⟩, rfl, fun A E Q q => ?_⟩
    refine wpAny_bind (m := Builtin.Dict.dictSlotArgs "__eq__" _) (wpAny_bind (m := Builtin.Dict.notOrdered "__eq__" _) (wpAny_pure (wpAny_bind (m := slotArgs "__eq__" 1 _) (wpAny_pure (wpAny_pure ?_)))))
    refine wpAny_bind (sub_here I.kIn J hsub ?_)
    exact wpAny_bind (wpAny_rule (wpAny_pure q))
end
end OW
namespace DL
open PySem PySem.Spec PyProof.Rows L2
section
variable {X : Cx} {n : Nat} {R : EqR}
/-- x == b, x of a built-in kind, b an instance whose own == tells -/
def refR (C : Addr) (R : EqR) : EqR := fun x y r => (∃ T, BLD x T) ∧ (∃ fs, y = .ins C fs) ∧ R y x r
theorem rcB_ref {CX : CXT} {C f : Addr} {fd : FuncData} {ps : List Str} {E : XK} (F : FnOk X.prog X.w X.K X.mg X.base CX n f fd ps (spB X.K R))
    (hs : PySem.W.findIn X.K (.ref C) "__eq__" = some (some (.ref f))) (hf : PySem.W.isFn X.K (.ref f) = true) (hsub : ∀ T ∈ ["int", "bool", "NoneType", "str", "list", "tuple", "dict"], PySem.W.subIn X.K (.ref C) (.type T) = some false) (hb : Binds X.K fd ps []) (hx : Passes CX X E) : RcB X n (refR C R) := by
  intro A pins s σ H x y u v r sb I rx ry d
  obtain ⟨dx, dy, F0, sm, ix, iy, ⟨T, hB⟩, ⟨fs, rfl⟩, hR⟩ := d
  have iy0 := iy
  obtain ⟨b, dxx, gs, rfl, h1, _⟩ := iy
  have w0 : Wd X.K F0 H (fun _ => none) := ⟨sm, fun _ _ h => by cases h⟩
  have hbl := bld_bl hB w0 ix
  obtain rfl : v = .ref b := ry
  obtain ⟨od, J⟩ := OW.inst_at I (sm _ _ h1)
  have hT : T ∈ ["int", "bool", "NoneType", "str", "list", "tuple", "dict"] := by cases hB <;> simp
  obtain ⟨idl, bi, slot, entry, args, hty, hone, hno⟩ := OW.bl_no I rx hbl J ⟨_, J.at_⟩ (hsub T hT)
  have hne : (Value.type T != Value.ref C) = true := by
    rw [bne_iff_ne]; exact fun q => by cases q
  unfold richCompare
  simp only [hone]
  refine wpAny_holding (wpAny_bind (wpAny_cRoomFor sb.room.units0 ?_))
  refine wpAny_bind (wpAny_typeOf hty (wpAny_bind (J.type.here ?_)))
  rw [if_pos hne]
  refine wpAny_bind ((PySem.W.looks_subIn I.kIn (hsub T hT)).here ?_)
  simp only [Bool.false_eq_true, if_false]
  refine wpAny_bind (wpAny_tryCompare_declines hty slot ?_)
  refine wpAny_call_entry slot hty entry (hno _ _ _ ⟨_, rfl, rfl, ?_⟩) (args _ _)
  simp only [Bool.not_false, if_true]
  refine wpAny_bind ?_
  have hsp : spB X.K R [.ref b, x] H (fun v H' => v = .bl r ∧ Ext H H') E := ⟨_, x, r, rfl, ⟨_, _, F0, sm, iy0, ix, hR⟩, fun H' e => ⟨rfl, e⟩⟩
  unfold tryCompare
  refine wpAny_bind (PySem.W.ifBound_K I.kIn J hs hf (wpAny_mono (OW.run_in F sb hb hx I (OW.vals2 (x := .ref b) (y := x) rfl rx) hsp) (fun w s' hw => ?_) fun _ _ e => e))
  obtain ⟨z, H', I', rz, rfl, ex⟩ := hw
  obtain rfl : w = .bool r := rz
  exact wpAny_pure (wpAny_pure ⟨rfl, H', I', ex⟩)
/-- one an instance, the other of a built-in flat kind -/
theorem RcB.eqM (h : RcB X n R) (hr : ∀ x y r, R x y r → ((∃ u, sc x = some u) ∧ ∃ C fs, y = .ins C fs) ∨ ((∃ C fs, x = .ins C fs) ∧ ∃ u, sc y = some u)) : EqB X n R := by
  intro A pins s σ H x y u v r sb I rx ry d
  have d0 := d
  obtain ⟨dx, dy, F, sm, ix, iy, hb⟩ := d
  have key : wpAny (model X.prog X.w) A (richCompare .Eq u v) (fun w s' => ∃ r', w = .bool r' ∧ r' = r ∧ LoopI X pins σ H s') X.xe s :=
    wpAny_mono (h A pins s σ H x y u v r sb I rx ry d0) (fun w s' q => ⟨r, q.1, rfl, q.2⟩) fun _ _ x => x
  have fin : ∀ (m : (u == v) = false), (∀ a b, ¬ (∃ t t', u = .float a t ∧ v = .float b t')) → wpAny (model X.prog X.w) A (eqBool u v) (fun r' s' => r' = r ∧ LoopI X pins σ H s') X.xe s := by
    intro m1 m2
    unfold eqBool
    refine wpAny_holding ?_
    rw [m1]
    have tail : wpAny (model X.prog X.w) A (richCompare .Eq u v >>= fun w => truthOfDropped w) (fun r' s' => r' = r ∧ LoopI X pins σ H s') X.xe s := by
      refine wpAny_bind (wpAny_mono key (fun w s' hw => ?_) fun _ _ x => x)
      obtain ⟨r', rfl, q⟩ := hw
      exact wpAny_truthy_bool q
    cases u <;> cases v <;> first | exact tail | exact (m2 _ _ ⟨_, _, rfl, rfl⟩).elim
  rcases hr _ _ _ hb with ⟨⟨w, hw⟩, C, fs, rfl⟩ | ⟨⟨C, fs, rfl⟩, w, hw⟩
  · obtain rfl := sc_is hw ix
    obtain ⟨b, dxx, gs, rfl, _⟩ := iy
    obtain rfl : v = .ref b := ry
    have hfl := sc_flat hw
    cases x <;> simp [flatV] at hfl
    · obtain rfl := rx; exact fin rfl (fun a b ⟨t, t', e, _⟩ => by cases e)
    · obtain rfl := rx; exact fin rfl (fun a b ⟨t, t', e, _⟩ => by cases e)
    · obtain ⟨t0, rfl⟩ := rx; exact fin rfl (fun a b ⟨t, t', e, _⟩ => by cases e)
    · obtain ⟨t0, rfl⟩ := rx; exact fin rfl (fun a b ⟨t, t', e, _⟩ => by cases e)
  · obtain rfl := sc_is hw iy
    obtain ⟨b, dxx, gs, rfl, _⟩ := ix
    obtain rfl : u = .ref b := rx
    have hfl := sc_flat hw
    cases y <;> simp [flatV] at hfl
    · obtain rfl := ry; exact fin rfl (fun a b ⟨t, t', e, _⟩ => by cases e)
    · obtain rfl := ry; exact fin rfl (fun a b ⟨t, t', e, _⟩ => by cases e)
    · obtain ⟨t0, rfl⟩ := ry; exact fin rfl (fun a b ⟨t, t', e, _⟩ => by cases e)
    · obtain ⟨t0, rfl⟩ := ry; exact fin rfl (fun a b ⟨t, t', e, _⟩ => by cases e)
end
end DL
end

section
set_option Elab.async false
set_option linter.all false
set_option maxRecDepth 100000
set_option maxHeartbeats 4000000
namespace PySem
namespace XSV
/-! ### ValueError.__init__, bound to an exception -/
abbrev vw (e : Addr) : Obj := { cls := .type "method-wrapper", dict := none, data := .fields #[.builtin "ValueError.__init__", .ref e], slots := #[] }
theorem vi_type : typeOf (.builtin "ValueError.__init__") = pure (.type "wrapper_descriptor") := by show builtinType _ = _; rw [builtinType_eq_fast]; kernel_rfl
theorem vi_name : (kfb_private% "nameAndClass") (Value.builtin "ValueError.__init__") = (pure (("__init__" : Str), Value.type "ValueError") : Sem (Str × Value)) := by kernel_rfl
section
open PySem.W
variable {prog : Program} {w : World} {M : Model} {A : Around} {E : Value → Shared → Prop} {hp : Heap} {gn : Array GenState} {dr : Drawn} {tk : Nat} {os : OsState}
theorem vw_get {e C : Addr} {R : Fin → Shared → Prop} (isv : W.Looks M hp (isInstance (.ref e) (.type "ValueError")) true) (goal : R (.done (.ret (.ref hp.objs.size))) ⟨hp.push (vw e), gn, dr, tk, os⟩) :
    wpAny M A (Builtin.«wrapper_descriptor.__get__» ⟨[.builtin "ValueError.__init__", .ref e, .ref C], []⟩) R E ⟨hp, gn, dr, tk, os⟩ := by
  unfold Builtin.«wrapper_descriptor.__get__»
  refine wpAny_bind (wpAny_of_eq (a := (.builtin "ValueError.__init__", some (.ref e), some (.ref C))) (by first | rfl | kernel_rfl) ?_)
  show wpAny M A ((kfb_private% "checkInstance") (.builtin "ValueError.__init__") (.ref e) >>= fun _ => newFields "method-wrapper" [.builtin "ValueError.__init__", .ref e] >>= fun r => ret r) R E _
  refine wpAny_bind ?_
  show wpAny M A ((kfb_private% "nameAndClass") (.builtin "ValueError.__init__") >>= _) _ E _
  refine wpAny_bind (wpAny_of_eq vi_name ?_)
  show wpAny M A (isInstance (.ref e) (.type "ValueError") >>= _) _ E _
  refine wpAny_bind (isv.at ?_)
  refine KFB.if_not rfl (wpAny_pure ?_)
  exact wpAny_bind (wpAny_newObj_type (wpAny_pure goal))
theorem sup_get {so B e C : Addr} {mro tl : List Value} {K : Frag} {nm : Str} {tn : Tok} {R : Fin → Shared → Prop}
    (at_so : hp.get? so = some { cls := .type "super", dict := none, data := .fields #[.ref B, .ref e, .ref C], slots := #[] }) (opq : W.Looks (model prog w) hp (opaqueClassAbove (.ref C)) none)
    (at_mro : W.Looks (model prog w) hp (mroOf (.ref C)) mro) (htl : (mro.dropWhile (· != .ref B)).drop 1 = tl) (KX : K.In hp)
    (found : alongIn K nm tl = some (some (.builtin "ValueError.__init__"))) (heC : e ≠ C) (hnm : (nm == ("__class__" : Str)) = false) (isv : W.Looks (model prog w) hp (isInstance (.ref e) (.type "ValueError")) true)
    (goal : R (.done (.ret (.ref hp.objs.size))) ⟨hp.push (vw e), gn, dr, tk, os⟩) :
    wpAny (model prog w) A (Builtin.«super.__getattribute__» ⟨[.ref so, .str nm tn], []⟩) R E ⟨hp, gn, dr, tk, os⟩ := by
  have lk := ESX.slot_wd.lookup
  have neq : (Value.ref e == Value.ref C) = false := by simp [heC]
  have ty1 := vi_type
  have ty2 : Shared.TypeIs ⟨hp, gn, dr, tk, os⟩ (.builtin "ValueError.__init__") "wrapper_descriptor" := vi_type
  have dat : ({ cls := .type "super", dict := none, data := .fields #[.ref B, .ref e, .ref C], slots := #[] } : Obj).data = .fields #[.ref B, .ref e, .ref C] := rfl
  have g0 : (#[.ref B, .ref e, .ref C] : Array Value)[0]? = some (.ref B) := rfl
  have g1 : (#[.ref B, .ref e, .ref C] : Array Value)[1]? = some (.ref e) := rfl
  have g2 : (#[.ref B, .ref e, .ref C] : Array Value)[2]? = some (.ref C) := rfl
  unfold Builtin.«super.__getattribute__»
  repeat (first
    | (with_reducible refine wpAny_field at_so dat g0 ?_)
    | (with_reducible refine wpAny_field at_so dat g1 ?_)
    | (with_reducible refine wpAny_field at_so dat g2 ?_)
    | (with_reducible refine ks_wpAny_notOpaque opq ?_)
    | (with_reducible refine Looks.at at_mro ?_; rw [htl])
    | (refine ks_forIn_along KX (fun _ _ => rfl) rfl ?_ found)
    | (with_reducible refine wpAny_call_entry ESX.slot_wd ty2 ESX.entry_wd ?_ (ESX.args_wd _ _ _))
    | (with_reducible refine vw_get isv ?_)
    | (with_reducible refine ⟨_, rfl, ?_⟩)
    | (simp only [hnm, neq, Bool.or_false, Bool.false_eq_true, if_false])
    | wp_step
    | dsimp only)
  all_goals exact goal
theorem sup_method {so B e C : Addr} {mro tl : List Value} {K : Frag} {nm : Str} {pl : Sem Bool} {R : Value × List Value → Shared → Prop}
    (at_so : hp.get? so = some { cls := .type "super", dict := none, data := .fields #[.ref B, .ref e, .ref C], slots := #[] }) (opq : W.Looks (model prog w) hp (opaqueClassAbove (.ref C)) none)
    (at_mro : W.Looks (model prog w) hp (mroOf (.ref C)) mro) (htl : (mro.dropWhile (· != .ref B)).drop 1 = tl) (KX : K.In hp)
    (found : alongIn K nm tl = some (some (.builtin "ValueError.__init__"))) (heC : e ≠ C) (hnm : (nm == ("__class__" : Str)) = false) (isv : W.Looks (model prog w) hp (isInstance (.ref e) (.type "ValueError")) true)
    (goal : R (.ref hp.objs.size, []) ⟨hp.push (vw e), gn, dr, tk + 1, os⟩) :
    wpAny (model prog w) A (getMethod (.ref so) nm pl) R E ⟨hp, gn, dr, tk, os⟩ := by
  have lk := F.ks_slot_super_ga.lookup
  have cn := F.ks_canon_super_ga
  have isS : ∀ tq, (⟨hp, gn, dr, tq, os⟩ : Shared).TypeIs (.ref so) "super" := fun _ => ⟨_, at_so, rfl⟩
  unfold getMethod
  refine wpAny_bind (wpAny_specialOf (isS _) lk ?_)
  show wpAny _ _ (if (Manifest.canonical "super.__getattribute__" != "object.__getattribute__") = true then _ else _) _ _ ⟨hp, gn, dr, tk, os⟩
  rw [if_pos cn]
  unfold getAttr getAttrBy
  refine wpAny_bind (wpAny_bind (wpAny_mkText (wpAny_holding (wpAny_bind (wpAny_typeOf (isS _) (wpAny_bind (wpAny_of_eq lk ?_)))))))
  show wpAny _ _ (getAttrByItsOwn (.ref so) (.str nm tk) (.type "super") (.builtin "super.__getattribute__") true false) _ _ _
  unfold getAttrByItsOwn hookBefore callGetattribute boundAndCalled
  refine wpAny_bind (wpAny_of_eq (a := (none : Option Value)) (by rfl) (wpAny_bind (wpAny_attempt (wpAny_holding ?_))))
  show wpAny _ _ (bindSpecial (.builtin "super.__getattribute__") (.ref so) >>= fun z => _) _ _ _
  refine wpAny_bind (wpAny_of_eq (F.ks_slot_super_ga.bind (.ref so)) ?_)
  refine wpAny_mono (Q := fun v s' => v = .ref hp.objs.size ∧ s' = ⟨hp.push (vw e), gn, dr, tk + 1, os⟩) (E := fun _ _ => False)
    (wpAny_call_entry F.ks_slot_super_ga (isS _) F.ks_entry_super_ga (sup_get at_so opq at_mro htl KX found heC hnm isv ⟨_, rfl, rfl, rfl⟩) (F.ks_gaArgs_super _ _)) (fun v s' hv => ?_) fun _ _ z => z.elim
  obtain ⟨rfl, rfl⟩ := hv
  exact wpAny_pure (wpAny_pure goal)
end
section
open PySem.W PySem.Calls PyProof.Rows
variable {prog : Program} {w : World} {M : Model} {A : Around} {E : Value → Shared → Prop} {s : Shared}
theorem with_vw {pos : Pos} {u e : Addr} {fst : List Value} {env : Env} {x : Expr} {xs : List Expr} {Q : Value → Shared → Prop}
    (h : wpAny M A (spliced (backTo pos (starEach (x :: xs) env))) (fun vs s₁ => s₁.heap.get? u = some (vw e) ∧ wpAny M A (call (.ref u) (fst ++ vs)) Q E s₁) E s)
    (he : starEach (x :: xs) env = (false, eval x env) :: starEach xs env := by rfl) (hpl : (backTo pos (starEach xs env)).any (·.1) = false := by rfl) :
    wpAny M A (callWith pos (.ref u) fst (backTo pos (starEach (x :: xs) env)) []) Q E s := by
  rw [he] at h ⊢
  have pl : (backTo pos ((false, eval x env) :: starEach xs env)).any (·.1) = false := by
    show (false || (backTo pos (starEach xs env)).any (·.1)) = false
    rw [hpl]; rfl
  have h2 : wpAny M A (evalArgs (.ref u) true (backTo pos ((false, eval x env) :: starEach xs env)) []) (fun a s₁ => s₁.heap.get? u = some (vw e) ∧ wpAny M A (call (.ref u) (fst ++ a.pos) a.kw) Q E s₁) E s := evalArgs_plain h
  unfold callWith
  refine wpAny_bind (wpAny_holding (wpAny_mono h2 (fun a s₁ h₁ => wpAny_bind (wpAny_standAt ?_)) fun _ _ z => z))
  obtain ⟨hu, hc⟩ := h₁
  simp only [pl, List.any_nil, Bool.or_false]
  refine wpAny_bind (m := keeperOf (.ref u)) ?_
  unfold keeperOf
  refine wpAny_bind (wpAny_load hu ?_)
  simp only [vw, show (Value.type "method-wrapper" != Value.type "method") = true by decide, show (Value.type "method-wrapper" == Value.type "builtin_function_or_method" || Value.type "method-wrapper" == Value.type "method-wrapper") = true by decide, if_true]
  refine wpAny_pure (wpAny_bind (wpAny_mono hc (fun r s₂ hr => wpAny_bind (wpAny_holding (wpAny_point (wpAny_pure hr)))) fun _ _ z => z))
end
section
variable {prog : Program} {w : World} {A : Around} {E : Value → Shared → Prop} {hp : Heap} {gn : Array GenState} {dr : Drawn} {tk : Nat} {os : OsState}
variable {nm q : Str} {C N : Addr} {bs bm : List Value} {hdct : Bool} {sn : List Str} {sub : List Value} {ab : Bool} {col : Option Bool} {dd : Option Addr} {k0 k1 k2 k3 k5 : Option Value}
theorem vw_call {u e t0 : Addr} {rest : List Value} {Q : Value → Shared → Prop}
    (hC : hp.get? C = some (excClassObj nm q C N bs bm hdct sn sub ab col dd k0 k1 k2 k3 k5 "ValueError.__new__")) (he : hp.get? e = some (HandSPX.excO C t0)) (hu : hp.get? u = some (vw e)) (hz : rest.length ≤ sizeLine)
    (goal : ∀ h' t1, (∀ b o, b ≠ e → hp.get? b = some o → h'.get? b = some o) → h'.get? e = some (HandSPX.excO C t1) → Q .none ⟨h', gn, dr, tk, os⟩) :
    wpAny (model prog w) A (call (.ref u) rest) Q E ⟨hp, gn, dr, tk, os⟩ := by
  refine wpAny_call (codeAny_of_tree ?_)
  show wpAny _ A.in1 (callAny (.ref u) ⟨rest, []⟩) _ _ ⟨hp, gn, dr, tk, os⟩
  simp only [callAny]
  refine wpAny_bind (wpAny_load hu ?_)
  simp only [vw, show (Value.type "method-wrapper" == Value.type "method" || Value.type "method-wrapper" == Value.type "builtin_function_or_method" || Value.type "method-wrapper" == Value.type "method-wrapper") = true by decide, if_true]
  refine W.KFB.if_so (by decide) (wpAny_bind (ESX.check_bound F.excBase_ValueError hC he rfl (wpAny_bind (wpAny_pure (wpAny_pure ?_)))))
  refine ⟨Code.quiet_builtin _ (by decide +kernel), codeAny_builtin F.excBase_ValueError.initEntry ?_⟩
  rw [Around.under_plainId F.excBase_ValueError.init.plain _]
  wp_walk
  refine goal _ hp.objs.size (fun b o hb ho => ?_) ?_
  · rw [Heap.get?_update_other _ _ (Ne.symm hb)]
    exact Heap.get?_push_of_some _ ho
  · rw [Heap.get?_update_self _ (Heap.get?_push_of_some _ he) rfl]
    rfl
end
end XSV
end PySem
end

section
set_option Elab.async false
set_option linter.all false
set_option maxRecDepth 100000
set_option maxHeartbeats 4000000
namespace PySem
namespace XSV
open PySem.W PySem.Calls PyProof.Rows PySem.HandSPX
/-- what the text says of an error class at C, whatever its fields -/
structure ErrC (P : Program) (K : Frag) (mg : Str → Option Value) (C fI cc cda : Addr) : Prop where
  cls : ∃ nm q N bs bm sn sub ab col dd k0 k1 k2 k3 k5, K.lookup C = some (excClassObj nm q C N bs bm true sn sub ab col dd k0 k1 k2 k3 k5 "ValueError.__new__") ∧ refsVE bm = true ∧ alongIn K "__init__" bm = some (some (.builtin "ValueError.__init__"))
  sa : findIn K (.ref C) "__setattr__" = some (some (.builtin "object.__setattr__"))
  ga : findIn K (.ref C) "__getattribute__" = some (some (.builtin "BaseException.__getattribute__"))
  gg : findIn K (.ref C) "__getattr__" = some none
  iC : findIn K (.ref C) "__init__" = some (some (.ref fI))
  tC : typeIn K (.ref fI) = some (.type "function")
  kC : keepIn K (.ref C) = true
  exC : subIn K (.ref C) (.type "BaseException") = some true
  veC : subIn K (.ref C) (.type "ValueError") = some true
  tyC : typeIn K (.ref C) = some (.type "type")
  hdC : hasDictIn K C = true
  selfC : mroIn K C (.ref C) = some true
  opq : nsIn K cStatics "thirdparty.any" = some none
  cell : ∃ cl cld csl, K.lookup cc = some ⟨cl, cld, .cell (some (.ref C)), csl⟩
  code : ∃ ccl cdd vs ccs file tf, K.lookup cda = some ⟨ccl, cdd, .fields vs, ccs⟩ ∧ vs[2]? = some (.str file tf) ∧ ((P.main.file : Str) == file) = true
  sup : mg "super" = none
  top : (P.main.scope.names.lookup ("super" : Str)).isSome = false
abbrev supSt (msg : Str) (kc : Nat) (p0 p1 p2 pc p3 p4 : Pos) : Stmt := .Expr (.Call (.Attribute (.Call (.Name "super" p0) [] [] p1) "__init__" p2) [.Constant (.str msg) kc pc] [] p3) p4
abbrev fldSt (f par : Str) (q1 q2 q3 q4 : Pos) : Stmt := .Assign [.Attribute (.Name "self" q1) f q2] (.Name par q3) q4
/-- how the statement is read in an environment -/
structure SupOk (env : Env) (msg : Str) (kc : Nat) (p0 p1 p2 pc p3 p4 : Pos) : Prop where
  ev : ∃ pl : Sem Bool, eval (.Call (.Attribute (.Call (.Name "super" p0) [] [] p1) "__init__" p2) [.Constant (.str msg) kc pc] [] p3) env = (do
      let ov ← attributeBase (.Call (.Name "super" p0) [] [] p1) "__init__" env (eval (.Call (.Name "super" p0) [] [] p1) env)
      standAt p2.atName
      let (f, first) ← holding [ov] (getMethod ov "__init__" pl)
      callWith p3 f first (backTo p3 (starEach [.Constant (.str msg) kc pc] env)) [])
  int : interactive env = false
  sw : swapsWith (.Call (.Attribute (.Call (.Name "super" p0) [] [] p1) "__init__" p2) [.Constant (.str msg) kc pc] [] p3) none p4.line env = pure false
/-- an __init__ of one field -/
structure Ini1 (K : Frag) (fI cc cda : Addr) (par f : Str) : Prop where
  fn : ∃ (oc : Value) (od : Option Addr) (nm qual : Str) (params : Arguments) (scope : Scope) (doc pm : Value) (an : Option Addr) (ct : Value) (osl : Array (Option Value)) (msg : Str) (kc : Nat) (p0 p1 p2 pc p3 p4 q1 q2 q3 q4 : Pos) (ar : Arg),
    K.lookup fI = some ⟨oc, od, .func (ksFn nm qual params [supSt msg kc p0 p1 p2 pc p3 p4, fldSt f par q1 q2 q3 q4] scope .none .none doc pm an (.ref cda) ct cc), osl⟩ ∧
    codeIn K (.ref cda) qual = true ∧ (params.posonlyargs ++ params.args).head? = some ar ∧ ar.arg = ("self" : Str) ∧
    (∀ (u v : Value), bindArgs (ksFn nm qual params [supSt msg kc p0 p1 p2 pc p3 p4, fldSt f par q1 q2 q3 q4] scope .none .none doc pm an (.ref cda) ct cc) ⟨[u, v], []⟩ = pure ([("self", u), (par, v)] : List (Str × Value))) ∧
    scope.names = ([("self", NameKind.local), (par, NameKind.local), ("__class__", NameKind.free), ("super", NameKind.globalImplicit)] : List (Str × NameKind)) ∧ scope.kind = .function ∧ scope.isCoroutine = false ∧ scope.isGenerator = false ∧ par ≠ ("self" : Str) ∧ par ≠ ("super" : Str) ∧ par ≠ ("__class__" : Str) ∧ par ≠ ("__debug__" : Str) ∧
    ∀ L, SupOk (callEnv (ksFn nm qual params [supSt msg kc p0 p1 p2 pc p3 p4, fldSt f par q1 q2 q3 q4] scope .none .none doc pm an (.ref cda) ct cc) L fI) msg kc p0 p1 p2 pc p3 p4
/-- an __init__ of two fields -/
structure Ini2 (K : Frag) (fI cc cda : Addr) (par par2 f f2 : Str) : Prop where
  fn : ∃ (oc : Value) (od : Option Addr) (nm qual : Str) (params : Arguments) (scope : Scope) (doc pm : Value) (an : Option Addr) (ct : Value) (osl : Array (Option Value)) (msg : Str) (kc : Nat) (p0 p1 p2 pc p3 p4 q1 q2 q3 q4 r1 r2 r3 r4 : Pos) (ar : Arg),
    K.lookup fI = some ⟨oc, od, .func (ksFn nm qual params [supSt msg kc p0 p1 p2 pc p3 p4, fldSt f par q1 q2 q3 q4, fldSt f2 par2 r1 r2 r3 r4] scope .none .none doc pm an (.ref cda) ct cc), osl⟩ ∧
    codeIn K (.ref cda) qual = true ∧ (params.posonlyargs ++ params.args).head? = some ar ∧ ar.arg = ("self" : Str) ∧
    (∀ (u v v2 : Value), bindArgs (ksFn nm qual params [supSt msg kc p0 p1 p2 pc p3 p4, fldSt f par q1 q2 q3 q4, fldSt f2 par2 r1 r2 r3 r4] scope .none .none doc pm an (.ref cda) ct cc) ⟨[u, v, v2], []⟩ = pure ([("self", u), (par, v), (par2, v2)] : List (Str × Value))) ∧
    scope.names = ([("self", NameKind.local), (par, NameKind.local), (par2, NameKind.local), ("__class__", NameKind.free), ("super", NameKind.globalImplicit)] : List (Str × NameKind)) ∧ scope.kind = .function ∧ scope.isCoroutine = false ∧ scope.isGenerator = false ∧
    par ≠ ("self" : Str) ∧ par ≠ ("super" : Str) ∧ par ≠ ("__class__" : Str) ∧ par ≠ ("__debug__" : Str) ∧ par2 ≠ ("self" : Str) ∧ par2 ≠ ("super" : Str) ∧ par2 ≠ ("__class__" : Str) ∧ par2 ≠ ("__debug__" : Str) ∧ par ≠ par2 ∧
    ∀ L, SupOk (callEnv (ksFn nm qual params [supSt msg kc p0 p1 p2 pc p3 p4, fldSt f par q1 q2 q3 q4, fldSt f2 par2 r1 r2 r3 r4] scope .none .none doc pm an (.ref cda) ct cc) L fI) msg kc p0 p1 p2 pc p3 p4
theorem keeps_but {K : Frag} {h h' : Heap} {x : Addr} (X : K.In h) (hx : K.lookup x = none) (k : ∀ b o, b ≠ x → h.get? b = some o → h'.get? b = some o) : K.In h' := fun a o e => k a o (fun z => by rw [z, hx] at e; cases e) (X a o e)
section
variable {prog : Program} {w : World} {A : Around} {R : Result → Shared → Prop} {s : Shared} {K : Frag} {mg : Str → Option Value} {C fI cc cda : Addr} {par f : Str} {base : Heap}
/-- super().__init__("..") at the head of an __init__ -/
theorem ini_super {fd : FuncData} {of : Obj} {L e t0 : Addr} {msg : Str} {kc : Nat} {p0 p1 p2 pc p3 p4 : Pos} {ar : Arg} {body rest : List Stmt} {m : Str → Option Value} {Q : Flow → Shared → Prop} {E : Value → Shared → Prop} {mb : Str → Option Value}
    (T : ErrC prog K mg C fI cc cda) (S : SupOk (callEnv fd L fI) msg kc p0 p1 p2 pc p3 p4) (X : K.In s.heap) (hf : s.heap.get? fI = some of) (hfd : of.data = .func fd) (hpar : (fd.params.posonlyargs ++ fd.params.args).head? = some ar) (har : ar.arg = ("self" : Str))
    (hcode : fd.code = .ref cda) (hg : s.heap.Ns (callEnv fd L fI).globals mg) (hb : s.heap.Ns (callEnv fd L fI).builtins mb) (hmb : mb "super" = some (.type "super")) (hcl : (callEnv fd L fI).cells.lookup ("__class__" : Str) = some cc)
    (hk : fd.scope.kind = .function) (lS : fd.scope.names.lookup ("self" : Str) = some .local) (lC : fd.scope.names.lookup ("__class__" : Str) = some .free) (lU : fd.scope.names.lookup ("super" : Str) = some .globalImplicit)
    (hns : s.heap.Ns L m) (hme : m "self" = some (.ref e)) (he : s.heap.get? e = some (excO C t0)) (hne : K.lookup e = none)
    (go : ∀ h' tk t1, (∀ b o, b ≠ e → s.heap.get? b = some o → h'.get? b = some o) → h'.get? e = some (excO C t1) → wpAt (model prog w) A (.func body (callEnv fd L fI)) (execs rest (callEnv fd L fI)) Q E { s with heap := h', toks := tk }) :
    wpAt (model prog w) A (.func body (callEnv fd L fI)) (execs (supSt msg kc p0 p1 p2 pc p3 p4 :: rest) (callEnv fd L fI)) Q E s := by
  obtain ⟨nmC, q, N, bs, bm, sn, sub, ab, col, dd, k0, k1, k2, k3, k5, hC, hbm, hal⟩ := T.cls
  obtain ⟨cl, cld, csl, hcell⟩ := T.cell
  obtain ⟨ccl, cdd, vs, ccs, file, tf, hcd, hvs, hfile⟩ := T.code
  have hcls : clsIn K C = some { name := nmC, bases := bs, mro := .ref C :: bm, ns := N, qualname := q, hasDict := true, slotNames := sn, subclasses := sub, abstract := ab, collection := col, hasDel := false } := by unfold clsIn; rw [hC] <;> rfl
  have heC : e ≠ C := fun z => by rw [z, hC] at hne; cases hne
  obtain ⟨hp, gn, dr, tk, os⟩ := s
  have hCh : hp.get? C = _ := X _ _ hC
  have I : InstAt hp e (excO C t0) C none := ⟨he, rfl, rfl, trivial⟩
  obtain ⟨pl, hev⟩ := S.ev
  refine ks_wpAt_execs_cons (ks_wpAt_Expr_any (ks_wpAt_MethodCall ?_ hev) S.int S.sw)
  · refine ks_wpAt_super_base (env := callEnv fd L fI) lU lC (by decide) rfl hf hfd hpar hcode (X _ _ hcd) rfl hvs hfile T.top ?_
    refine ks_loadName_global hk lU (loadGlobal_builtin (env := callEnv fd L fI) hg T.sup hb hmb ⟨rfl, ?_⟩)
    refine wpAny_loadName_free hk lC hcl ⟨_, X _ _ hcell, rfl⟩ ?_
    rw [har]
    refine wpAny_loadName_local hk lS hns hme ?_
    refine ks_wpAny_isType_cls hCh rfl ⟨rfl, ?_⟩
    refine ks_wpAny_call_super hCh rfl he rfl (fun c z => by cases z) (looks_mroIn X T.selfC) (fun h1 e1 k1 => ?_)
    have X1 : K.In h1 := X.keeps k1
    refine sup_method e1 (looks_opaque X1 T.opq) ((looks_clsIn X1 hcls).andThen .now) (tl := bm) (ESX.drop_own C bm) X1 hal heC (by decide) ?_ ?_
    · exact (show InstAt h1 e (excO C t0) C none from ⟨k1 _ _ he, rfl, rfl, trivial⟩).type.andThen (looks_subIn X1 T.veC)
    have he1 := k1 _ _ he
    have k2 : ∀ b o, hp.get? b = some o → (h1.push (vw e)).get? b = some o := fun b o z => Heap.get?_push_of_some _ (k1 b o z)
    refine with_vw (spliced_more (wpAny_Constant_str (spliced_nil ⟨Heap.get?_push_at rfl rfl, ?_⟩)))
    refine vw_call (X.keeps k2 _ _ hC) (k2 _ _ he) (Heap.get?_push_at rfl rfl) (by show 1 ≤ sizeLine; rw [sizeLine_eq]; decide) (fun h' t1 k' e' => ?_)
    exact go h' _ t1 (fun b o hb z => k' b o hb (k2 b o z)) e'
/-- what an __init__ leaves of a fresh exception at e -/
structure IniEnd (h h' : Heap) (e C dx : Addr) (mA : Str → Option Value) : Prop where
  keep : ∀ b o, b ≠ e → h.get? b = some o → h'.get? b = some o
  obj : ∃ t1 : Addr, h'.get? e = some { cls := .ref C, dict := some dx, data := .fields #[.ref t1, .none, .none, .none, .bool false, .none] }
  big : h.objs.size ≤ dx
  ne : dx ≠ e
  ns : h'.Ns1 dx mA
/-- the first field -/
theorem fld_new {fd : FuncData} {L e t0 : Addr} {q1 q2 q3 q4 : Pos} {body rest : List Stmt} {m : Str → Option Value} {Q : Flow → Shared → Prop} {E : Value → Shared → Prop} {v : Value}
    (T : ErrC prog K mg C fI cc cda) (X : K.In s.heap) (noF : findIn K (.ref C) f = some none) (hk : fd.scope.kind = .function) (lS : fd.scope.names.lookup ("self" : Str) = some .local) (lP : fd.scope.names.lookup par = some .local) (hd : par ≠ ("__debug__" : Str))
    (hns : s.heap.Ns L m) (hme : m "self" = some (.ref e)) (hmv : m par = some v) (he : s.heap.get? e = some (excO C t0))
    (go : ∀ h' tk dx, IniEnd s.heap h' e C dx (fun y => if y = f then some v else none) → wpAt (model prog w) A (.func body (callEnv fd L fI)) (execs rest (callEnv fd L fI)) Q E { s with heap := h', toks := tk }) :
    wpAt (model prog w) A (.func body (callEnv fd L fI)) (execs (fldSt f par q1 q2 q3 q4 :: rest) (callEnv fd L fI)) Q E s := by
  obtain ⟨nmC, q, N, bs, bm, sn, sub, ab, col, dd, k0, k1, k2, k3, k5, hC, hbm, hal⟩ := T.cls
  have hcls : clsIn K C = some { name := nmC, bases := bs, mro := .ref C :: bm, ns := N, qualname := q, hasDict := true, slotNames := sn, subclasses := sub, abstract := ab, collection := col, hasDel := false } := by unfold clsIn; rw [hC] <;> rfl
  obtain ⟨hp, gn, dr, tk, os⟩ := s
  refine ks_wpAt_execs_cons (ks_wpAt_Assign_Attr (wpAt_of_wpAny ?_))
  refine wpAny_Name (wpAny_loadName_local hk lP hns hmv ?_) (by simpa using hd)
  refine wpAny_Name (wpAny_loadName_local hk lS hns hme ?_) (by decide)
  refine set_plain X (show InstAt hp e (excO C t0) C none from ⟨he, rfl, rfl, trivial⟩) T.sa ?_
  refine exc_osa X he hcls (show refsVE (.ref C :: bm) = true from hbm) rfl noF (fun h' tk' dx k dn dne hx hn => ?_)
  exact go h' tk' dx ⟨k, ⟨_, hx⟩, dn, dne, hn⟩
theorem fld_old {fd : FuncData} {L e t1 dx : Addr} {q1 q2 q3 q4 : Pos} {body rest : List Stmt} {m : Str → Option Value} {Q : Flow → Shared → Prop} {E : Value → Shared → Prop} {v : Value} {m0 : Str → Option Value} {nl : List Str}
    (T : ErrC prog K mg C fI cc cda) (X : K.In s.heap) (noF : findIn K (.ref C) f = some none) (hk : fd.scope.kind = .function) (lS : fd.scope.names.lookup ("self" : Str) = some .local) (lP : fd.scope.names.lookup par = some .local) (hd : par ≠ ("__debug__" : Str))
    (hns : s.heap.Ns L m) (hme : m "self" = some (.ref e)) (hmv : m par = some v) (he : s.heap.get? e = some { cls := .ref C, dict := some dx, data := .fields #[.ref t1, .none, .none, .none, .bool false, .none] }) (hdx : s.heap.Ns1 dx m0) (hw : Within m0 nl) (hz : nl.length ≤ 1000)
    (go : ∀ h' tk, (∀ b o, b ≠ dx → s.heap.get? b = some o → h'.get? b = some o) → h'.Ns1 dx (fun y => if y = f then some v else m0 y) → wpAt (model prog w) A (.func body (callEnv fd L fI)) (execs rest (callEnv fd L fI)) Q E { s with heap := h', toks := tk }) :
    wpAt (model prog w) A (.func body (callEnv fd L fI)) (execs (fldSt f par q1 q2 q3 q4 :: rest) (callEnv fd L fI)) Q E s := by
  obtain ⟨nmC, q, N, bs, bm, sn, sub, ab, col, dd, k0, k1, k2, k3, k5, hC, hbm, hal⟩ := T.cls
  have hcls : clsIn K C = some { name := nmC, bases := bs, mro := .ref C :: bm, ns := N, qualname := q, hasDict := true, slotNames := sn, subclasses := sub, abstract := ab, collection := col, hasDel := false } := by unfold clsIn; rw [hC] <;> rfl
  obtain ⟨hp, gn, dr, tk, os⟩ := s
  obtain ⟨oD, esD, epD, hoD, hdD, _⟩ := hdx.count hw
  refine ks_wpAt_execs_cons (ks_wpAt_Assign_Attr (wpAt_of_wpAny ?_))
  refine wpAny_Name (wpAny_loadName_local hk lP hns hmv ?_) (by simpa using hd)
  refine wpAny_Name (wpAny_loadName_local hk lS hns hme ?_) (by decide)
  refine set_plain X (show InstAt hp e _ C (some oD) from ⟨he, rfl, rfl, hoD⟩) T.sa ?_
  refine OEX.osa_old X he hdx hw hz hcls (show refsVE (.ref C :: bm) = true from hbm) rfl noF (fun h' tk' k hn => ?_)
  exact go h' tk' k hn
theorem ini1 (T : ErrC prog K mg C fI cc cda) (I1 : Ini1 K fI cc cda par f) (noF : findIn K (.ref C) f = some none) (MD : L2.Mod K mg base) (hbs : ∀ b o, base.get? b = some o → s.heap.get? b = some o) {e t0 : Addr} {v : Value}
    (he : s.heap.get? e = some (excO C t0)) (hne : base.get? e = none) (hroom : A.depth < recursionLimit)
    (hq : ∀ h' tk dx, IniEnd s.heap h' e C dx (fun y => if y = f then some v else none) → R (.ok (.ret .none)) { s with heap := h', toks := tk }) :
    codeAny (model prog w) A (.call (.ref fI) ⟨[.ref e, v], []⟩) R s := by
  obtain ⟨oc, od, nm, qual, params, scope, doc, pm, an, ct, osl, msg, kc, p0, p1, p2, pc, p3, p4, q1, q2, q3, q4, ar, hfn, hcd, har, har2, hbi, hsc, hk, hco, hgen, n1, n2, n3, n4, hS⟩ := I1.fn
  obtain ⟨mb, hmb, hmb2⟩ := MD.blt
  have X : K.In s.heap := MD.kin.keeps hbs
  have hnK : K.lookup e = none := by
    cases z : K.lookup e with
    | none => rfl
    | some o => rw [MD.kin _ _ z] at hne; cases hne
  have lS : scope.names.lookup ("self" : Str) = some .local := by rw [hsc]; rfl
  have lP : scope.names.lookup par = some .local := by
    rw [hsc]
    have b1 : (par == ("self" : Str)) = false := by simpa using n1
    simp [List.lookup, b1]
  have lC : scope.names.lookup ("__class__" : Str) = some .free := by
    rw [hsc]
    have b1 : (("__class__" : Str) == ("self" : Str)) = false := by decide
    have b2 : (("__class__" : Str) == par) = false := by simpa using Ne.symm n3
    simp [List.lookup, b1, b2]
  have lU : scope.names.lookup ("super" : Str) = some .globalImplicit := by
    rw [hsc]
    have b1 : (("super" : Str) == ("self" : Str)) = false := by decide
    have b2 : (("super" : Str) == par) = false := by simpa using Ne.symm n2
    have b3 : (("super" : Str) == ("__class__" : Str)) = false := by decide
    simp [List.lookup, b1, b2, b3]
  refine ks_codeAny_call_defAt (binds := ([("self", .ref e), (par, v)] : List (Str × Value))) hroom (X _ _ hfn) rfl (MD.nolimit.keeps hbs) (codeRec_of X hcd) rfl (BindsTo.of_eq (hbi _ _)) ?hc ?hl (fun h₁ hns hk₁ => ?_) hco hgen hk
  case hc =>
    intro y hy
    have hy : y ∈ scope.names := hy
    rw [hsc] at hy
    simp only [List.mem_cons, List.not_mem_nil, or_false] at hy
    rcases hy with rfl | rfl | rfl | rfl <;> exact fun z => nomatch z
  case hl =>
    intro y hy
    simp only [List.mem_cons, List.not_mem_nil, or_false] at hy
    rcases hy with rfl | rfl
    · exact lS
    · exact lP
  have mS : (([("self", .ref e), (par, v)] : List (Str × Value)).reverse.lookup ("self" : Str)) = some (.ref e) := by
    have b1 : (("self" : Str) == par) = false := by simpa using Ne.symm n1
    simp [List.lookup, b1]
  have mP : (([("self", .ref e), (par, v)] : List (Str × Value)).reverse.lookup par) = some v := by
    simp [List.lookup]
  have kb : ∀ b o, base.get? b = some o → h₁.get? b = some o := fun b o z => hk₁ b o (hbs b o z)
  refine ini_super T (hS _) (MD.kin.keeps kb) (hk₁ _ _ (X _ _ hfn)) rfl har har2 rfl (MD.glob.keeps kb) (hmb.keeps kb) ((hmb2 _ (by decide)).trans rfl) rfl hk lS lC lU hns mS (hk₁ _ _ he) hnK (fun h₂ tk₂ t₁ k₂ e₂ => ?_)
  have hLe : s.heap.objs.size ≠ e := Nat.ne_of_gt (Heap.lt_size he)
  have hns₂ : h₂.Ns s.heap.objs.size _ := hns.at (fun o z => k₂ _ o hLe z)
  refine fld_new T (keeps_but (MD.kin.keeps kb) hnK k₂) noF hk lS lP n4 hns₂ mS mP e₂ (fun h₃ tk₃ dx Z => ?_)
  rw [execs_nil]
  refine wpAt_of_wpAny (wpAny_pure ?_)
  refine hq h₃ tk₃ dx ⟨fun b o hb z => Z.keep b o hb (k₂ b o hb (hk₁ b o z)), Z.obj, Nat.le_trans (Nat.le_of_lt ?_) Z.big, Z.ne, Z.ns⟩
  obtain ⟨oL, eL, pL, hoL, _⟩ := hns₂
  exact Heap.lt_size hoL
theorem ini2 (T : ErrC prog K mg C fI cc cda) {par2 f2 : Str} (I2 : Ini2 K fI cc cda par par2 f f2) (noF : findIn K (.ref C) f = some none) (noF2 : findIn K (.ref C) f2 = some none) (MD : L2.Mod K mg base) (hbs : ∀ b o, base.get? b = some o → s.heap.get? b = some o) {e t0 : Addr} {v v2 : Value}
    (he : s.heap.get? e = some (excO C t0)) (hne : base.get? e = none) (hroom : A.depth < recursionLimit)
    (hq : ∀ h' tk dx, IniEnd s.heap h' e C dx (fun y => if y = f2 then some v2 else if y = f then some v else none) → R (.ok (.ret .none)) { s with heap := h', toks := tk }) :
    codeAny (model prog w) A (.call (.ref fI) ⟨[.ref e, v, v2], []⟩) R s := by
  obtain ⟨oc, od, nm, qual, params, scope, doc, pm, an, ct, osl, msg, kc, p0, p1, p2, pc, p3, p4, q1, q2, q3, q4, r1, r2, r3, r4, ar, hfn, hcd, har, har2, hbi, hsc, hk, hco, hgen, n1, n2, n3, n4, n5, n6, n7, n8, n9, hS⟩ := I2.fn
  obtain ⟨mb, hmb, hmb2⟩ := MD.blt
  have X : K.In s.heap := MD.kin.keeps hbs
  have hnK : K.lookup e = none := by
    cases z : K.lookup e with
    | none => rfl
    | some o => rw [MD.kin _ _ z] at hne; cases hne
  have lS : scope.names.lookup ("self" : Str) = some .local := by rw [hsc]; rfl
  have lP : scope.names.lookup par = some .local := by
    rw [hsc]
    have b1 : (par == ("self" : Str)) = false := by simpa using n1
    simp [List.lookup, b1]
  have lP2 : scope.names.lookup par2 = some .local := by
    rw [hsc]
    have b1 : (par2 == ("self" : Str)) = false := by simpa using n5
    have b2 : (par2 == par) = false := by simpa using Ne.symm n9
    simp [List.lookup, b1, b2]
  have lC : scope.names.lookup ("__class__" : Str) = some .free := by
    rw [hsc]
    have b1 : (("__class__" : Str) == ("self" : Str)) = false := by decide
    have b2 : (("__class__" : Str) == par) = false := by simpa using Ne.symm n3
    have b3 : (("__class__" : Str) == par2) = false := by simpa using Ne.symm n7
    simp [List.lookup, b1, b2, b3]
  have lU : scope.names.lookup ("super" : Str) = some .globalImplicit := by
    rw [hsc]
    have b1 : (("super" : Str) == ("self" : Str)) = false := by decide
    have b2 : (("super" : Str) == par) = false := by simpa using Ne.symm n2
    have b3 : (("super" : Str) == ("__class__" : Str)) = false := by decide
    have b4 : (("super" : Str) == par2) = false := by simpa using Ne.symm n6
    simp [List.lookup, b1, b2, b3, b4]
  refine ks_codeAny_call_defAt (binds := ([("self", .ref e), (par, v), (par2, v2)] : List (Str × Value))) hroom (X _ _ hfn) rfl (MD.nolimit.keeps hbs) (codeRec_of X hcd) rfl (BindsTo.of_eq (hbi _ _ _)) ?hc ?hl (fun h₁ hns hk₁ => ?_) hco hgen hk
  case hc =>
    intro y hy
    have hy : y ∈ scope.names := hy
    rw [hsc] at hy
    simp only [List.mem_cons, List.not_mem_nil, or_false] at hy
    rcases hy with rfl | rfl | rfl | rfl | rfl <;> exact fun z => nomatch z
  case hl =>
    intro y hy
    simp only [List.mem_cons, List.not_mem_nil, or_false] at hy
    rcases hy with rfl | rfl | rfl
    · exact lS
    · exact lP
    · exact lP2
  have mS : (([("self", .ref e), (par, v), (par2, v2)] : List (Str × Value)).reverse.lookup ("self" : Str)) = some (.ref e) := by
    have b1 : (("self" : Str) == par) = false := by simpa using Ne.symm n1
    have b2 : (("self" : Str) == par2) = false := by simpa using Ne.symm n5
    simp [List.lookup, b1, b2]
  have mP : (([("self", .ref e), (par, v), (par2, v2)] : List (Str × Value)).reverse.lookup par) = some v := by
    have b2 : (par == par2) = false := by simpa using n9
    simp [List.lookup, b2]
  have mP2 : (([("self", .ref e), (par, v), (par2, v2)] : List (Str × Value)).reverse.lookup par2) = some v2 := by
    simp [List.lookup]
  have kb : ∀ b o, base.get? b = some o → h₁.get? b = some o := fun b o z => hk₁ b o (hbs b o z)
  refine ini_super T (hS _) (MD.kin.keeps kb) (hk₁ _ _ (X _ _ hfn)) rfl har har2 rfl (MD.glob.keeps kb) (hmb.keeps kb) ((hmb2 _ (by decide)).trans rfl) rfl hk lS lC lU hns mS (hk₁ _ _ he) hnK (fun h₂ tk₂ t₁ k₂ e₂ => ?_)
  have hLe : s.heap.objs.size ≠ e := Nat.ne_of_gt (Heap.lt_size he)
  have hns₂ : h₂.Ns s.heap.objs.size _ := hns.at (fun o z => k₂ _ o hLe z)
  refine fld_new T (keeps_but (MD.kin.keeps kb) hnK k₂) noF hk lS lP n4 hns₂ mS mP e₂ (fun h₃ tk₃ dx Z => ?_)
  have sz : s.heap.objs.size < h₂.objs.size := by
    obtain ⟨oL, eL, pL, hoL, _⟩ := hns₂
    exact Heap.lt_size hoL
  have hLd : s.heap.objs.size ≠ dx := Nat.ne_of_lt (Nat.lt_of_lt_of_le sz Z.big)
  have hns₃ : h₃.Ns s.heap.objs.size _ := hns₂.at (fun o z => Z.keep _ o hLe z)
  obtain ⟨t₂, e₃⟩ := Z.obj
  refine fld_old T (keeps_but (keeps_but (MD.kin.keeps kb) hnK k₂) hnK Z.keep) noF2 hk lS lP2 n8 hns₃ mS mP2 e₃ Z.ns (Within.cons f v Within.nil) (show 1 ≤ 1000 by decide) (fun h₄ tk₄ k₄ d₄ => ?_)
  have ed : e ≠ dx := Ne.symm Z.ne
  rw [execs_nil]
  refine wpAt_of_wpAny (wpAny_pure ?_)
  exact hq h₄ tk₄ dx ⟨fun b o hb z => k₄ b o (Nat.ne_of_lt (Nat.lt_of_lt_of_le (Nat.lt_trans (Heap.lt_size z) sz) Z.big)) (Z.keep b o hb (k₂ b o hb (hk₁ b o z))), ⟨_, k₄ _ _ ed e₃⟩, Nat.le_trans (Nat.le_of_lt sz) Z.big, Z.ne, d₄⟩
end
end XSV
end PySem
end

section
set_option Elab.async false
set_option linter.all false
set_option maxRecDepth 100000
set_option maxHeartbeats 4000000
namespace PySem
namespace XSV
open PySem.W PySem.Calls PyProof.Rows PySem.HandSPX
/-- an error that was made -/
structure ErrMade (h h' : Heap) (e C d : Addr) (mA : Str → Option Value) : Prop where
  keep : ∀ b o, h.get? b = some o → h'.get? b = some o
  new : h.objs.size ≤ e
  obj : ∃ oe vs, h'.get? e = some oe ∧ oe.cls = .ref C ∧ oe.dict = some d ∧ oe.data = .fields vs ∧ vs[1]? = some .none
  dbig : h.objs.size ≤ d
  dne : d ≠ e
  ns : h'.Ns1 d mA
section
variable {prog : Program} {w : World} {A : Around} {R : Result → Shared → Prop} {s : Shared} {K : Frag} {mg : Str → Option Value} {C fI cc cda : Addr} {base : Heap}
theorem err_made {us : List Value} {mA : Str → Option Value} (T : ErrC prog K mg C fI cc cda) (hz : us.length ≤ sizeLine) (MD : L2.Mod K mg base) (hbs : ∀ b o, base.get? b = some o → s.heap.get? b = some o) (bz : base.objs.size ≤ s.heap.objs.size)
    (ini : ∀ {A' : Around} {R' : Result → Shared → Prop} {s' : Shared} {e t0 : Addr}, (∀ b o, base.get? b = some o → s'.heap.get? b = some o) → s'.heap.get? e = some (excO C t0) → base.get? e = none → A'.depth < recursionLimit →
      (∀ h' tk dx, IniEnd s'.heap h' e C dx mA → R' (.ok (.ret .none)) { s' with heap := h', toks := tk }) → codeAny (model prog w) A' (.call (.ref fI) ⟨.ref e :: us, []⟩) R' s')
    (hroom : A.depth + 1 < recursionLimit) (hq : ∀ h' tk e d, ErrMade s.heap h' e C d mA → R (.ok (.ret (.ref e))) { s with heap := h', toks := tk }) :
    codeAny (model prog w) A (.call (.ref C) ⟨us, []⟩) R s := by
  obtain ⟨nm, q, N, bs, bm, sn, sub, ab, col, dd, k0, k1, k2, k3, k5, hC, hbm, hal⟩ := T.cls
  have X : K.In s.heap := MD.kin.keeps hbs
  obtain ⟨hp, g, dr, tk, os⟩ := s
  have k : ∀ b o, hp.get? b = some o → ((hp.push (kdv_tup us)).push (excO C hp.objs.size)).get? b = some o := fun b o e => Heap.get?_push_of_some _ (Heap.get?_push_of_some _ e)
  have hget : ((hp.push (kdv_tup us)).push (excO C hp.objs.size)).get? (hp.objs.size + 1) = some (excO C hp.objs.size) := by heap_get
  have hnb : base.get? (hp.objs.size + 1) = none := by
    cases e : base.get? (hp.objs.size + 1) with
    | none => rfl
    | some o => exact absurd (Nat.lt_of_succ_lt (Nat.lt_of_lt_of_le (Heap.lt_size e) bz)) (Nat.lt_irrefl _)
  refine call_own F.excBase_ValueError (fun X => refsVE_contains X bm hbm) (X _ _ hC) (looks_findIn X T.iC) (fun self => bind_fn X self T.tC) hz ?_
  refine ini (s' := ⟨(hp.push (kdv_tup us)).push (excO C hp.objs.size), g, dr, tk, os⟩) (fun b o e => k b o (hbs b o e)) hget hnb ?_ fun h' tk' dx Z => ?_
  · show A.depth + 1 < recursionLimit
    exact hroom
  · have old : ∀ b o, hp.get? b = some o → h'.get? b = some o := fun b o e => Z.keep b o (Nat.ne_of_lt (Nat.lt_succ_of_lt (Heap.lt_size e))) (k b o e)
    have z : hp.objs.size + 1 + 1 ≤ dx := by
      have dn := Z.big
      first
        | (simpa only [Heap.size_push] using dn)
        | exact dn
    obtain ⟨t1, hx⟩ := Z.obj
    exact ⟨rfl, hq h' tk' (hp.objs.size + 1) dx ⟨old, Nat.le_succ _, ⟨_, _, hx, rfl, rfl, rfl, rfl⟩, Nat.le_trans (Nat.le_trans (Nat.le_succ _) (Nat.le_succ _)) z, Z.ne, Z.ns⟩⟩
end
end XSV
end PySem
namespace DL
open PySem PySem.Spec PyProof.Rows L2
/-- an error class of the program: x its name, C its place, fs its fields -/
structure ErrOk (P : Program) (w : World) (K : PySem.W.Frag) (mg : Str → Option Value) (base : Heap) (x : Str) (C : Addr) (fs : List Str) : Prop where
  gC : mg x = some (.ref C)
  kC : PySem.W.keepIn K (.ref C) = true
  exC : PySem.W.subIn K (.ref C) (.type "BaseException") = some true
  tyC : PySem.W.typeIn K (.ref C) = some (.type "type")
  xf : XfC K C
  noF : ∀ f ∈ fs, PySem.W.findIn K (.ref C) f = some none
  nd : fs.Nodup
  made : L2.Mod K mg base → ∀ {A : Around} {R : Result → Shared → Prop} {s : Shared} (us : List Value), us.length = fs.length → (∀ b o, base.get? b = some o → s.heap.get? b = some o) → base.objs.size ≤ s.heap.objs.size → A.depth + 1 < recursionLimit →
    (∀ h' tk e d mA, PySem.XSV.ErrMade s.heap h' e C d mA → (∀ g, mA g = (fs.zip us).lookup g) → R (.ok (.ret (.ref e))) { s with heap := h', toks := tk }) → codeAny (model P w) A (.call (.ref C) ⟨us, []⟩) R s
theorem few_size {us : List Value} {n : Nat} (h : us.length = n) (hn : n ≤ 10) : us.length ≤ sizeLine := by
  rw [sizeLine_eq, h]; omega
theorem err_ok1 {P : Program} {w : World} {K : PySem.W.Frag} {mg : Str → Option Value} {base : Heap} {x par f : Str} {C fI cc cda : Addr} (T : PySem.XSV.ErrC P K mg C fI cc cda) (I1 : PySem.XSV.Ini1 K fI cc cda par f)
    (gC : mg x = some (.ref C)) (noF : PySem.W.findIn K (.ref C) f = some none) : ErrOk P w K mg base x C [f] := by
  refine ⟨gC, T.kC, T.exC, T.tyC, ⟨T.ga, T.gg, T.exC, T.hdC⟩, fun g hg => by rw [List.mem_singleton.mp hg]; exact noF, by simp, fun MD _ _ _ us hl hb bz hr hq => ?_⟩
  obtain ⟨v, rfl⟩ : ∃ v, us = [v] := by
    match us, hl with
    | [v], _ => exact ⟨v, rfl⟩
  refine PySem.XSV.err_made T (few_size (n := 1) hl (by decide)) MD hb bz (fun hb he hn hr hq => PySem.XSV.ini1 T I1 noF MD hb he hn hr hq) hr (fun h' tk e d Z => hq h' tk e d _ Z fun g => ?_)
  by_cases hg : g = f
  · subst hg
    simp [List.lookup]
  · have e : (g == f) = false := by simpa using hg
    simp [List.lookup, e, hg]
theorem err_ok2 {P : Program} {w : World} {K : PySem.W.Frag} {mg : Str → Option Value} {base : Heap} {x par par2 f f2 : Str} {C fI cc cda : Addr} (T : PySem.XSV.ErrC P K mg C fI cc cda) (I2 : PySem.XSV.Ini2 K fI cc cda par par2 f f2)
    (gC : mg x = some (.ref C)) (noF : PySem.W.findIn K (.ref C) f = some none) (noF2 : PySem.W.findIn K (.ref C) f2 = some none) (ne : f ≠ f2) : ErrOk P w K mg base x C [f, f2] := by
  refine ⟨gC, T.kC, T.exC, T.tyC, ⟨T.ga, T.gg, T.exC, T.hdC⟩, fun g hg => ?_, by simp [ne], fun MD _ _ _ us hl hb bz hr hq => ?_⟩
  · simp only [List.mem_cons, List.not_mem_nil, or_false] at hg
    rcases hg with rfl | rfl
    · exact noF
    · exact noF2
  obtain ⟨v, v2, rfl⟩ : ∃ v v2, us = [v, v2] := by
    match us, hl with
    | [v, v2], _ => exact ⟨v, v2, rfl⟩
  refine PySem.XSV.err_made T (few_size (n := 2) hl (by decide)) MD hb bz (fun hb he hn hr hq => PySem.XSV.ini2 T I2 noF noF2 MD hb he hn hr hq) hr (fun h' tk e d Z => hq h' tk e d _ Z fun g => ?_)
  by_cases hg : g = f
  · subst hg
    have e : (g == f2) = false := by simpa using ne
    simp [List.lookup, e, ne]
  · have e : (g == f) = false := by simpa using hg
    by_cases hg2 : g = f2
    · subst hg2
      simp [List.lookup, e]
    · have e2 : (g == f2) = false := by simpa using hg2
      simp [List.lookup, e, e2, hg, hg2]
theorem relO_zip : ∀ {fs : List Str} {vs : List V} {us : List Value}, Vals vs us → ∀ g, RelO ((fs.zip vs).lookup g) ((fs.zip us).lookup g)
  | [], vs, us, h, g => True.intro
  | f :: fs, _, _, .nil, g => by simp [List.lookup]; exact True.intro
  | f :: fs, _, _, .cons (l₁ := xs) (l₂ := us) (a := x) (b := u) hv h, g => by
    show RelO (List.lookup g ((f, x) :: fs.zip xs)) (List.lookup g ((f, u) :: fs.zip us))
    by_cases hg : g = f
    · subst hg
      simp only [List.lookup, beq_self_eq_true]
      exact hv
    · have e : (g == f) = false := by simpa using hg
      simp only [List.lookup, e]
      exact relO_zip h g
section
variable {X : Cx} {C : Addr} {fs : List Str} {x : Str}
/-- E(..): an error is made of the arguments -/
def tMkE (C : Addr) (fs : List Str) (ta : TA) : L2.St → Hp → XK → Prop := fun σ H Q => ta σ H fun vs H1 => vs.length = fs.length ∧ ∀ d, H1 d = none → Q (.ref C) (some d) (upd H1 d (.xd (fs.zip vs)))
theorem pmk_err {a : Expr} {as : List Expr} {ta : TA} {p pos : Pos} {k : Nat} (T : ErrOk X.prog X.w X.K X.mg X.base x C fs) (hr : Room k X.A) (ha : PA X (a :: as) ta) (hg : Gl X x) (hd : (x == ("__debug__" : Str)) = false := by decide)
    (he : starEach (a :: as) X.env = (false, eval a X.env) :: starEach as X.env := by rfl) (hpl : (backTo pos (starEach as X.env)).any (·.1) = false := by rfl) :
    PMk X (.Call (.Name x p) (a :: as) [] pos) (tMkE C fs ta) := by
  intro pins s σ H Q I h
  refine wpAny_Call_Name_kw (ld_glob I hg T.gC ?_ hd)
  refine PySem.W.callWith_K (h₀ := X.base) I.ok.mod.kin T.kC (thn (ha.run pos pins s σ H _ I h) fun us s1 hh => ?_) he hpl
  obtain ⟨vs, H1, I1, r1, ev, q1⟩ := hh
  refine ⟨I1.kIn, ?_⟩
  show wpAny _ _ (call (.ref C) us) _ _ _
  have hbs : ∀ b o, X.base.get? b = some o → s1.heap.get? b = some o := fun b o z => (I1.bs b o z).1
  have hbz : X.base.objs.size ≤ s1.heap.objs.size := Nat.le_trans I1.ok.bsz I1.sz
  obtain ⟨hp, g, dr, tk, os⟩ := s1
  refine wpAny_call (T.made I1.ok.mod us (by rw [← r1.length]; exact ev) hbs hbz (by have := hr.dp; omega) fun h' tk' e d mA M hm => ?_)
  show MkP X pins σ Q (.ref e) ⟨h', g, dr, tk', os⟩
  obtain ⟨oe, fv, hoe, hc, hd, hdat, h1⟩ := M.obj
  have hns := M.ns
  obtain ⟨G', g1, g2⟩ := restrict h' fun b => decide (b ≠ e)
  have gk : ∀ b, b ≠ e → G'.get? b = h'.get? b := fun b hb => g1 b (decide_eq_true hb)
  have ge : G'.get? e = none := g2 e (by simp)
  have old : ∀ b o, hp.get? b = some o → G'.get? b = some o := fun b o q => (gk b (Nat.ne_of_lt (Nat.lt_of_lt_of_le (Heap.lt_size q) M.new))).trans (M.keep b o q)
  have ob : ObjOk X.prog X.w (upd H1 d (.xd (fs.zip vs))) G' d (.xd (fs.zip vs)) :=
    ⟨_, hns.at (fun o q => (gk d M.dne).trans q), fun f => by rw [hm f]; exact relO_zip r1 f⟩
  have J : Inv X pins σ (upd H1 d (.xd (fs.zip vs))) ⟨G', g, dr, tk', os⟩ := I1.laid (t' := tk') old M.dbig ob
  refine ⟨e, oe, fv, ⟨G', g, dr, tk', os⟩, _, .ref C, some d, rfl, J, fun b o q => ?_, ge, hoe, ⟨hc, hd⟩, hdat, h1, ?_, rfl, I1.bare, raises_own T.exC T.tyC, q1 d (I1.hok.fresh M.dbig)⟩
  · by_cases hb : b = e
    · have q' : G'.get? b = some o := q
      rw [hb, ge] at q'; cases q'
    · exact (gk b hb).symm.trans q
  · rw [upd_ne (Ne.symm M.dne)]
    exact I1.hok.fresh M.new
end
end DL
end

section
set_option Elab.async false
set_option linter.all false
set_option maxRecDepth 100000
set_option maxHeartbeats 4000000
/-! ### calls that may raise, wished for at the caller's slots -/
namespace OW
open PySem PySem.Spec PyProof.Rows L2
section
variable {X : Cx} {CX : CXT} {k : Nat} {f C : Addr} {fd : FuncData} {ps : List Str} {sp : Sp} {dvs : List V} {ds : List Value} {E : L2.St → XK} {x mn : Str} {p pos apos : Pos} {e o : Expr} {es : List Expr} {ta tb : TE} {t : TA}
def tMethS (C : Addr) (m : Str) (sp : Sp) (dvs : List V) (E : L2.St → XK) (ta : TE) (t : TA) : TE := fun σ H Q => ta σ H fun x H1 => ∃ a dx fs, x = .ref a ∧ H1 a = some (.ins C dx fs) ∧ fs.lookup m = none ∧
  t σ H1 fun vs H2 => sp (x :: (vs ++ dvs)) H2 Q (E σ)
theorem pe_methS {pl : Sem Bool} (he : PE X o ta) (c : Cls X.K C) (hm : Meth X.K C mn f) (F : FnOk X.prog X.w X.K X.mg X.base CX k f fd ps sp) (hr : Room k X.A) (hb : Binds X.K fd ps ds) (hd : Vals dvs ds) (hx : ∀ σ, PassesAt CX X σ (E σ)) (ha : PA X (e :: es) t)
    (hst : starEach (e :: es) X.env = (false, eval e X.env) :: starEach es X.env := by rfl) (hpl : (backTo pos (starEach es X.env)).any (·.1) = false := by rfl)
    (ht : eval (.Call (.Attribute o mn apos) (e :: es) [] pos) X.env = (do
      let ov ← eval o X.env
      standAt apos.atName
      let (f, first) ← holding [ov] (getMethod ov mn pl)
      callWith pos f first (backTo pos (starEach (e :: es) X.env)) (backToKw pos (keywordEach [] X.env))) := by rfl) :
    PE X (.Call (.Attribute o mn apos) (e :: es) [] pos) (tMethS C mn sp dvs E ta t) := by
  refine ⟨fun pins s σ H Q I h => ?_⟩
  refine PySem.W.methodCall_KW (pl := pl) (thn (he.run pins s σ H _ I h) fun u s1 ⟨x, H1, I1, rx, a, dx, fs, ex, ea, l, q⟩ => ?_) ht
  subst ex
  obtain rfl : u = Value.ref a := rx
  refine getmeth_ok I1 ea c hm l ?_
  refine PySem.W.callWith_K (first := [.ref a]) (h₀ := X.base) I.ok.mod.kin hm.kp (thn (ha.run pos pins s1 σ H1 _ I1 q) fun us s2 ⟨vs, H2, I2, r, q2⟩ => ⟨I2.kIn, ?_⟩) hst hpl
  exact run_fnSD (us := .ref a :: us) (vs := .ref a :: vs) F hr hb hd (hx σ) I2 (.cons rfl r) q2
theorem pe_methS0 {pl : Sem Bool} (he : PE X o ta) (c : Cls X.K C) (hm : Meth X.K C mn f) (F : FnOk X.prog X.w X.K X.mg X.base CX k f fd ps sp) (hr : Room k X.A) (hb : Binds X.K fd ps ds) (hd : Vals dvs ds) (hx : ∀ σ, PassesAt CX X σ (E σ))
    (ht : eval (.Call (.Attribute o mn apos) [] [] pos) X.env = (do
      let ov ← eval o X.env
      standAt apos.atName
      let (f, first) ← holding [ov] (getMethod ov mn pl)
      callWith pos f first (backTo pos (starEach [] X.env)) (backToKw pos (keywordEach [] X.env))) := by rfl) :
    PE X (.Call (.Attribute o mn apos) [] [] pos) (tMethS C mn sp dvs E ta tNil) := by
  refine ⟨fun pins s σ H Q I h => ?_⟩
  refine PySem.W.methodCall_KW (pl := pl) (thn (he.run pins s σ H _ I h) fun u s1 ⟨x, H1, I1, rx, a, dx, fs, ex, ea, l, q⟩ => ?_) ht
  subst ex
  obtain rfl : u = Value.ref a := rx
  refine getmeth_ok I1 ea c hm l ?_
  exact PySem.W.callWith_K0 (first := [.ref a]) I1.kIn hm.kp (run_fnSD (us := [.ref a]) (vs := [.ref a]) F hr hb hd (hx σ) I1 (.cons rfl .nil) q)
def tMakeS (C : Addr) (sp : Sp) (dvs : List V) (E : L2.St → XK) (t : TA) : TE := fun σ H Q => t σ H fun vs H1 => ∀ x dx, H1 x = none → H1 dx = none → dx ≠ x →
  sp (.ref x :: (vs ++ dvs)) (upd (upd H1 dx (.own x)) x (.ins C dx [])) (fun v H2 => v = .non ∧ Q (.ref x) H2) (E σ)
theorem run_makeS {pins : List (Addr × Obj)} {σ : L2.St} {H : Hp} {s : Shared} {Q : VK} {us : List Value} {vs : List V} (M : Mk X.K C f) (F : FnOk X.prog X.w X.K X.mg X.base CX k f fd ps sp) (hr : Room (k + 1) X.A) (hb : Binds X.K fd ps ds) (hd : Vals dvs ds)
    (hx : PassesAt CX X σ (E σ)) (I : Inv X pins σ H s) (r : Vals vs us)
    (h : ∀ x dx, H x = none → H dx = none → dx ≠ x → sp (.ref x :: (vs ++ dvs)) (upd (upd H dx (.own x)) x (.ins C dx [])) (fun v H2 => v = .non ∧ Q (.ref x) H2) (E σ)) :
    wpAny (model X.prog X.w) X.A (call (.ref C) us) (EP X pins σ Q) X.xe s := by
  have hq := h (s.heap.objs.size + 1) s.heap.objs.size (I.hok.fresh (Nat.le_succ _)) (I.hok.fresh (Nat.le_refl _)) (Nat.ne_of_lt (Nat.lt_succ_self _))
  have I2 := Inv.made (C := C) I
  have r2 : Vals (V.ref (s.heap.objs.size + 1) :: (vs ++ dvs)) (Value.ref (s.heap.objs.size + 1) :: (us ++ ds)) := .cons rfl (r.append hd)
  have hl : (Value.ref (s.heap.objs.size + 1) :: us ++ ds).length = ps.length := (r2.length.symm).trans (F.len _ _ _ _ hq)
  refine wpAny_call (make_map (f := f) I.kIn M.makes M.init (beq_iff_eq.mp M.fn) (codeAny_mono (F.run _ X.stack _ _ ⟨Value.ref (s.heap.objs.size + 1) :: us, []⟩ (Value.ref (s.heap.objs.size + 1) :: (us ++ ds)) _ _ (E σ) (hr.make C us [])
    (I2.env0.make C us []) (hb _ (Value.ref (s.heap.objs.size + 1) :: us) I2.kIn hl) r2 hq) fun r s' hq' => ?_))
  match r, hq' with
  | .error e, hq' => exact hx pins _ _ e s' I2 hq'
  | .ok (.ret u), hq' =>
    obtain ⟨v, H', I3, rv, ev, q3⟩ := I2.after hq'
    subst ev
    exact ⟨rv, ⟨V.ref (s.heap.objs.size + 1), H', I3, rfl, q3⟩⟩
theorem pe_makeS (M : Mk X.K C f) (F : FnOk X.prog X.w X.K X.mg X.base CX k f fd ps sp) (hr : Room (k + 1) X.A) (hg : Gl X x) (hm : X.mg x = some (.ref C)) (hb : Binds X.K fd ps ds) (hd : Vals dvs ds) (hx : ∀ σ, PassesAt CX X σ (E σ))
    (ha : PA X (e :: es) t) (hdb : (x == ("__debug__" : Str)) = false := by decide) (he : starEach (e :: es) X.env = (false, eval e X.env) :: starEach es X.env := by rfl) (hpl : (backTo pos (starEach es X.env)).any (·.1) = false := by rfl) :
    PE X (.Call (.Name x p) (e :: es) [] pos) (tMakeS C sp dvs E t) := by
  refine ⟨fun pins s σ H Q I h => ?_⟩
  refine wpAny_Call_Name_kw (ld_glob I hg hm ?_ hdb)
  refine PySem.W.callWith_K (h₀ := X.base) I.ok.mod.kin M.kp (thn (ha.run pos pins s σ H _ I h) fun us s1 ⟨vs, H1, I1, r, q⟩ => ⟨I1.kIn, ?_⟩) he hpl
  exact run_makeS M F hr hb hd (hx σ) I1 r q
/-! operators -/
abbrev R2S := L2.St → R2
def OpRS (X : Cx) (f : Value → Value → Sem Value) (r : R2S) : Prop :=
  ∀ (pins : List (Addr × Obj)) (s : Shared) (σ : L2.St) (H : Hp) (x y : V) (v u : Value) (Q : VK), Inv X pins σ H s → L2.RelV x v → L2.RelV y u → r σ x y H Q → wpAny (model X.prog X.w) X.A (f v u) (EP X pins σ Q) X.xe s
def tOpS (r : R2S) (ta tb : TE) : TE := fun σ H Q => ta σ H fun x H1 => tb σ H1 fun y H2 => r σ x y H2 Q
theorem pe_opS {a b : Expr} {op : Operator} {r : R2S} (ho : OpRS X (binaryOp op) r) (ha : PE X a ta) (hb : PE X b tb) : PE X (.BinOp a op b pos) (tOpS r ta tb) := by
  refine ⟨fun pins s σ H Q I h => ?_⟩
  exact wpAny_BinOp (binT ha hb I h fun v u s2 x y H2 I2 rx ry q => ho pins s2 σ H2 x y v u Q I2 rx ry q)
def rSameS (C : Addr) (sp : Sp) (E : L2.St → XK) : R2S := fun σ x y H Q => ∃ a dx fs b dy gs, x = .ref a ∧ y = .ref b ∧ H a = some (.ins C dx fs) ∧ H b = some (.ins C dy gs) ∧ sp [x, y] H Q (E σ)
theorem op_sameS {op : Operator} {rc : Option Value} (O : OpC X.K C op.info.2 f rc) (F : FnOk X.prog X.w X.K X.mg X.base CX k f fd ps sp) (hr : Room k X.A) (hb : Binds X.K fd ps []) (hx : ∀ σ, PassesAt CX X σ (E σ)) :
    OpRS X (binaryOp op) (rSameS C sp E) := by
  intro pins s σ H x y u v Q I rx ry h
  obtain ⟨a, dx, fs, b, dy, gs, rfl, rfl, ha, hb2, h⟩ := h
  obtain rfl : u = .ref a := rx
  obtain rfl : v = .ref b := ry
  obtain ⟨od, J⟩ := inst_at I ha
  obtain ⟨od2, J2⟩ := inst_at I hb2
  obtain ⟨m, Fm⟩ := I.fr
  exact PySem.W.binop_K Fm I.mod.kin J J2.type O.sf O.at_ O.fn (thn (run_fnSD (ds := []) (dvs := []) F hr hb .nil (hx σ) I (vals2 (x := .ref a) (y := .ref b) rfl rfl) h) fun _ _ z => back_of z)
def B1S (X : Cx) (nm : String) (R : R2S) : Prop := ∀ (pins : List (Addr × Obj)) (s : Shared) (σ : L2.St) (H : Hp) (x y : V) (u v : Value) (Q : VK), Inv X pins σ H s → L2.RelV x u → L2.RelV y v → R σ x y H Q →
  wpAny (model X.prog X.w) X.A (binaryOp1 nm u v) (fun r s' => ∃ z, r = some z ∧ EP X pins σ Q z s') X.xe s
theorem b1_sameS {nm : String} {rc : Option Value} (O : OpC X.K C nm f rc) (F : FnOk X.prog X.w X.K X.mg X.base CX k f fd ps sp) (hr : Room k X.A) (hb : Binds X.K fd ps []) (hx : ∀ σ, PassesAt CX X σ (E σ)) :
    B1S X nm (rSameS C sp E) := by
  intro pins s σ H x y u v Q I rx ry h
  obtain ⟨a, dx, fs, b, dy, gs, rfl, rfl, ha, hb2, h⟩ := h
  obtain rfl : u = .ref a := rx
  obtain rfl : v = .ref b := ry
  obtain ⟨od, J⟩ := inst_at I ha
  obtain ⟨od2, J2⟩ := inst_at I hb2
  have KX := I.kIn
  obtain ⟨cd, rest, hcd, hm⟩ := PySem.W.ksp_first O.sf
  unfold binaryOp1
  refine wpAny_bind (J.type.here (wpAny_bind (J2.type.here (wpAny_bind ((PySem.W.fills_K KX hcd hm O.at_).here ?_)))))
  simp only [beq_self_eq_true, if_true, pure_bind, Bool.and_false, Bool.false_and, Bool.false_eq_true, if_false]
  refine wpAny_bind ?_
  unfold tryMethod
  refine wpAny_bind (PySem.W.special_fn KX J O.at_ (beq_iff_eq.mp O.fn) (wpAny_mono (run_fnSD (ds := []) (dvs := []) F hr hb .nil (hx σ) I (vals2 (x := .ref a) (y := .ref b) rfl rfl) h) (fun v s' hv => ?_) fun _ _ e => e))
  obtain ⟨z, H', I', r', q'⟩ := hv
  have hz := notNI r'
  cases v <;> first | exact absurd rfl hz | exact wpAny_pure (wpAny_pure ⟨_, rfl, z, H', I', r', q'⟩)
theorem ip_ownS {op : Operator} {R : R2S} {cd : ClassData} (hcd : PySem.W.clsIn X.K C = some cd) (hm : cd.mro = [.ref C, .type "object"]) (hn : PySem.W.findIn X.K (.ref C) (dunderI op.info.2) = some none) (ho : typeLookup (.type "object") (dunderI op.info.2) = pure none)
    (hB : B1S X op.info.2 R) (hR : ∀ σ x y H Q, R σ x y H Q → ∃ a dx fs, x = .ref a ∧ H a = some (.ins C dx fs)) : OpRS X (inplaceOp op) R := by
  intro pins s σ H x y u v Q I rx ry h
  obtain ⟨a, dx, fs, rfl, ha⟩ := hR _ _ _ _ _ h
  obtain rfl : u = .ref a := rx
  obtain ⟨od, J⟩ := inst_at I ha
  unfold inplaceOp
  refine wpAny_holding (wpAny_bind (J.type.here (wpAny_bind ((fillsI_no I.kIn hcd hm hn ho).here ?_))))
  simp only [Bool.false_eq_true, if_false]
  refine wpAny_bind (wpAny_mono (hB pins s σ H (.ref a) y (.ref a) v Q I rfl ry h) (fun r s' hr => ?_) fun _ _ e => e)
  obtain ⟨z, rfl, q⟩ := hr
  exact wpAny_pure q
theorem rSameS_at {sp : Sp} (σ : L2.St) (x y : V) (H : Hp) (Q : VK) (h : rSameS C sp E σ x y H Q) : ∃ a dx fs, x = .ref a ∧ H a = some (.ins C dx fs) := by
  obtain ⟨a, dx, fs, b, dy, gs, h1, h2, h3, h4, h5⟩ := h
  exact ⟨a, dx, fs, h1, h3⟩
/-- name op= e -/
def tAugE (i : Nat) (te : TE) (ti : R2S) : TS := fun D σ H => ∃ x, σ[i]? = some (some x) ∧ te σ H fun y H1 => ti σ x y H1 fun z H2 => D.nx (σ.set i (some z)) H2
theorem ps_augE {i : Nat} {x : Str} {e : Expr} {te : TE} {op : Operator} {ti : R2S} {pos' : Pos} (hN : X.N.Nodup) (hi : X.N[i]? = some x) (hx : Loc X.env.scope x) (he : PE X e te) (ho : OpRS X (inplaceOp op) ti)
    (hf : X.fn x = true ∨ X.env.scope.names.lookup x = some .local := by first | exact .inl rfl | exact .inr rfl | assumption) (hl : X.env.kindOf x = some .local := by rfl) :
    PS X (.AugAssign (.Name x pos') op e pos) (tAugE i te ti) := by
  refine ⟨fun pins s σ H D I h => ?_⟩
  obtain ⟨v, e1, h⟩ := h
  obtain ⟨m, hn, hl2⟩ := I.loc
  have vis : Vis X.env.scope x := .inl hl
  obtain ⟨u, r, l⟩ := hl2 i x v hi e1 vis
  refine wpAny_AugAssign_Name ?_
  have go : wpAny (model X.prog X.w) X.A (eval e X.env) (fun w s₂ => wpAny (model X.prog X.w) X.A (inplaceOp op u w) (fun r s₃ => wpAny (model X.prog X.w) X.A (storeName X.env x r) (fun _ => SP X pins D .next) X.xe s₃) X.xe s₂) X.xe s := by
    refine thn (he.run pins s σ H _ I h) fun w s1 ⟨y, H1, I1, r1, q1⟩ => ?_
    refine thn (ho pins s1 σ H1 v y u w _ I1 r r1 q1) fun z s2 ⟨zv, H2, I2, r2, q2⟩ => ?_
    exact store_ok I2 hN hi hx r2 (fun s3 I3 => ⟨_, H2, I3, q2⟩) hf
  rcases l with ⟨hk, hm⟩ | ⟨hk, c, hc, hcell⟩
  · exact wpAny_loadName_local I.ok.kind hk hn hm go
  · rcases hk with hk | hk
    · have : X.env.scope.names.lookup x = some .cell := hk
      have h2 : X.env.scope.names.lookup x = some .local := hl
      rw [h2] at this; cases this
    · have : X.env.scope.names.lookup x = some .free := hk
      have h2 : X.env.scope.names.lookup x = some .local := hl
      rw [h2] at this; cases this
end
end OW
end

section
set_option Elab.async false
set_option linter.all false
set_option maxRecDepth 100000
set_option maxHeartbeats 4000000
namespace DL
open PySem PySem.Spec PyProof.Rows L2 OW
/-! ### exceptions, by data -/
/-- the dict d of an exception holds the fields fs -/
def XIs (K : PySem.W.Frag) (F : Hp) (d : Option Addr) (fs : List (Str × D)) : Prop := (d = none ∧ fs = []) ∨ ∃ a gs, d = some a ∧ F a = some (.xd gs) ∧ IsF K F fs gs
theorem XIs.mono {K : PySem.W.Frag} {F F' : Hp} {d : Option Addr} {fs : List (Str × D)} (e : Same F F') (h : XIs K F d fs) : XIs K F' d fs := by
  rcases h with h | ⟨a, gs, h1, h2, h3⟩
  · exact .inl h
  · exact .inr ⟨a, gs, h1, e _ _ h2, IsF.mono e _ _ h3⟩
theorem IsF.zip {K : PySem.W.Frag} {F : Hp} : ∀ {fs : List Str} {ds : List D} {vs : List V}, IsL K F ds vs → IsF K F (fs.zip ds) (fs.zip vs)
  | [], ds, vs, h => rfl
  | f :: fs, [], vs, h => by rw [show vs = [] from h]; rfl
  | f :: fs, d :: ds, vs, ⟨v, r, h1, h2, h3⟩ => by rw [h1]; exact ⟨v, fs.zip r, rfl, h2, IsF.zip h3⟩
/-- what is wanted of an exception: its class, its fields, the slots, the store -/
abbrev XS := Value → List (Str × D) → En → Mu → Prop
abbrev XC := Value → List (Str × D) → Mu → Prop
def PoX (K : PySem.W.Frag) (m : Mu) (F H : Hp) (x : XS) (W : WX) : Prop := ∀ cls fs r m' σ d F' H', x cls fs r m' → Wd K F' H' m' → Stp m F H m' F' H' → EnvOk K F' σ r → XIs K F' d fs → W cls d σ H'
def PoXE (K : PySem.W.Frag) (m : Mu) (F H : Hp) (x : XC) (E : XK) : Prop := ∀ cls fs m' d F' H', x cls fs m' → Wd K F' H' m' → Stp m F H m' F' H' → XIs K F' d fs → E cls d H'
/-- something that a reading speaks of, and what is known of it -/
structure Rl (β : Type) where
  on : β → Mu → Hp → Hp → Prop
  step : ∀ {b m F H m' F' H'}, on b m F H → Stp m F H m' F' H' → on b m' F' H'
def rlX (K : PySem.W.Frag) (x : XS) : Rl WX := ⟨fun W m F H => PoX K m F H x W, fun h s cls fs r m' σ d F' H' a b c e => h cls fs r m' σ d F' H' a b (s.trans c) e⟩
def rlF (K : PySem.W.Frag) (fs : List (Str × D)) : Rl (Option Addr) := ⟨fun d m F H => XIs K F d fs, fun h s => h.mono s.same⟩
section
variable {β : Type} (P : Rl β)
def gE (K : PySem.W.Frag) (t : β → TE) (r : En) (m : Mu) (k : D → Mu → Prop) : Prop := ∀ b σ F H Q, Wd K F H m → EnvOk K F σ r → P.on b m F H → PoE K m F H k Q → t b σ H Q
def gA (K : PySem.W.Frag) (t : β → TA) (r : En) (m : Mu) (k : List D → Mu → Prop) : Prop := ∀ b σ F H Q, Wd K F H m → EnvOk K F σ r → P.on b m F H → PoA K m F H k Q → t b σ H Q
def gT (K : PySem.W.Frag) (t : β → TT) (r : En) (m : Mu) (k : Bool → Mu → Prop) : Prop := ∀ b σ F H Q, Wd K F H m → EnvOk K F σ r → P.on b m F H → PoT K m F H k Q → t b σ H Q
def gS (K : PySem.W.Frag) (t : β → TS) (r : En) (m : Mu) (k : KS) : Prop := ∀ b E σ F H, Wd K F H m → EnvOk K F σ r → P.on b m F H → EndsOk K m F H k E → t b E σ H
end
section
variable {β : Type} {P : Rl β} {K : PySem.W.Frag} {r : En} {m m1 m2 : Mu} {k : D → Mu → Prop} {kt : Bool → Mu → Prop}
theorem ge_of {t : TE} (h : wE K t r m k) : gE P K (fun _ => t) r m k := fun b σ F H Q w e o p => h σ F H Q w e p
theorem ga_of {t : TA} {k : List D → Mu → Prop} (h : wA K t r m k) : gA P K (fun _ => t) r m k := fun b σ F H Q w e o p => h σ F H Q w e p
theorem gt_of {t : TT} (h : wT K t r m kt) : gT P K (fun _ => t) r m kt := fun b σ F H Q w e o p => h σ F H Q w e p
theorem gs_of {t : TS} {k : KS} (h : wS K t r m k) : gS P K (fun _ => t) r m k := fun b E σ F H w e o p => h E σ F H w e p
theorem ge_op {o : R2} {ta tb : β → TE} (h : gE P K ta r m fun x m1 => gE P K tb r m1 fun y m2 => wR K o x y m2 k) : gE P K (fun b => tOp o (ta b) (tb b)) r m k := fun b σ F H Q w e q p => by
  refine h b σ F H _ w e q fun x m1 vx F1 H1 h1 w1 s1 i1 => ?_
  refine h1 b σ F1 H1 _ w1 (e.mono s1.same) (P.step q s1) fun y m2 vy F2 H2 h2 w2 s2 i2 => ?_
  exact h2 vx vy F2 H2 Q w2 (Is.mono s2.same x vx i1) i2 (p.step (s1.trans s2))
theorem ge_un {o : V → Hp → VK → Prop} {ta : β → TE} (h : gE P K ta r m fun x m1 => wU K o x m1 k) : gE P K (fun b => tUn o (ta b)) r m k := fun b σ F H Q w e q p => by
  refine h b σ F H _ w e q fun x m1 vx F1 H1 h1 w1 s1 i1 => ?_
  exact h1 vx F1 H1 Q w1 i1 (p.step s1)
theorem ga_cons {k : List D → Mu → Prop} {ta : β → TE} {tr : β → TA} (h : gE P K ta r m fun x m1 => gA P K tr r m1 fun xs m2 => k (x :: xs) m2) : gA P K (fun b => tCons (ta b) (tr b)) r m k := fun b σ F H Q w e q p => by
  refine h b σ F H _ w e q fun x m1 vx F1 H1 h1 w1 s1 i1 => ?_
  refine h1 b σ F1 H1 _ w1 (e.mono s1.same) (P.step q s1) fun xs m2 vs F2 H2 h2 w2 s2 i2 => ?_
  exact p (x :: xs) m2 (vx :: vs) F2 H2 h2 w2 (s1.trans s2) ⟨vx, vs, rfl, Is.mono s2.same x vx i1, i2⟩
theorem ge_cb {o : List V → Hp → VK → Prop} {ta : β → TA} (h : gA P K ta r m fun xs m1 => wC K o xs m1 k) : gE P K (fun b => tCB o (ta b)) r m k := fun b σ F H Q w e q p => by
  refine h b σ F H _ w e q fun xs m1 vs F1 H1 h1 w1 s1 i1 => ?_
  exact h1 vs F1 H1 Q w1 i1 (p.step s1)
theorem ge_tup {ta : β → TA} (h : gA P K ta r m fun xs m1 => xs.length ≤ 100000 ∧ k (.tup xs) m1) : gE P K (fun b => tTup (ta b)) r m k := fun b σ F H Q w e q p => by
  refine h b σ F H _ w e q fun xs m1 vs F1 H1 h1 w1 s1 i1 => ⟨?_, fun q hq => ?_⟩
  · rw [← i1.len, sizeLine_eq]; exact Nat.le_trans h1.1 (by decide)
  · have w2 := w1.newF (u := .tup vs) hq
    have s2 := Stp.newF (u := .tup vs) w1 hq
    exact p (.tup xs) m1 _ _ _ h1.2 w2 (s1.trans s2) ⟨q, vs, rfl, SqT.of upd_same, IsL.mono s2.same _ _ i1⟩
theorem ge_lst {ta : β → TA} (h : gA P K ta r m fun xs m1 => xs.length ≤ 100000 ∧ k (.lst xs) m1) : gE P K (fun b => tLst (ta b)) r m k := fun b σ F H Q w e q p => by
  refine h b σ F H _ w e q fun xs m1 vs F1 H1 h1 w1 s1 i1 => ⟨?_, fun q hq => ?_⟩
  · rw [← i1.len, sizeLine_eq]; exact Nat.le_trans h1.1 (by decide)
  · have w2 := w1.newF (u := .lst vs) hq
    have s2 := Stp.newF (u := .lst vs) w1 hq
    exact p (.lst xs) m1 _ _ _ h1.2 w2 (s1.trans s2) ⟨q, vs, rfl, SqL.of upd_same, IsL.mono s2.same _ _ i1⟩
theorem ge_if {t : β → TT} {ta tb : β → TE} (h : gT P K t r m fun b m1 => if b = true then gE P K ta r m1 k else gE P K tb r m1 k) : gE P K (fun b => tIf (t b) (ta b) (tb b)) r m k := fun b σ F H Q w e q p => by
  refine h b σ F H _ w e q fun c m1 F1 H1 h1 w1 s1 => ?_
  cases c with
  | true => exact h1 b σ F1 H1 Q w1 (e.mono s1.same) (P.step q s1) (p.step s1)
  | false => exact h1 b σ F1 H1 Q w1 (e.mono s1.same) (P.step q s1) (p.step s1)
theorem gt_test {ta : β → TE} (h : gE P K ta r m fun x m1 => ∃ b, x = .bl b ∧ kt b m1) : gT P K (fun b => tTest (ta b)) r m kt := fun b σ F H Q w e q p => by
  refine h b σ F H _ w e q fun x m1 vx F1 H1 h1 w1 s1 i1 => ?_
  obtain ⟨c, rfl, h1⟩ := h1
  exact ⟨c, i1, p c m1 F1 H1 h1 w1 s1⟩
theorem gt_B {ta : β → TE} (h : gE P K ta r m fun x m1 => ∃ b, x = .bl b ∧ kt b m1) : gT P K (fun b => tB (ta b)) r m kt := fun b σ F H Q w e q p => by
  refine h b σ F H _ w e q fun x m1 vx F1 H1 h1 w1 s1 i1 => ?_
  obtain ⟨c, rfl, h1⟩ := h1
  exact ⟨c, i1, p c m1 F1 H1 h1 w1 s1⟩
theorem gt_and {t u : β → TT} (h : gT P K t r m fun b m1 => if b = true then gT P K u r m1 kt else kt false m1) : gT P K (fun b => tAnd (t b) (u b)) r m kt := fun b σ F H Q w e q p => by
  refine h b σ F H _ w e q fun c m1 F1 H1 h1 w1 s1 => ?_
  cases c with
  | true => exact h1 b σ F1 H1 Q w1 (e.mono s1.same) (P.step q s1) (p.step s1)
  | false => exact p false m1 F1 H1 h1 w1 s1
theorem gt_or {t u : β → TT} (h : gT P K t r m fun b m1 => if b = true then kt true m1 else gT P K u r m1 kt) : gT P K (fun b => tOr (t b) (u b)) r m kt := fun b σ F H Q w e q p => by
  refine h b σ F H _ w e q fun c m1 F1 H1 h1 w1 s1 => ?_
  cases c with
  | true => exact p true m1 F1 H1 h1 w1 s1
  | false => exact h1 b σ F1 H1 Q w1 (e.mono s1.same) (P.step q s1) (p.step s1)
theorem gt_not {t : β → TT} (h : gT P K t r m fun b m1 => kt (!b) m1) : gT P K (fun b => tNot (t b)) r m kt := fun b σ F H Q w e q p => by
  refine h b σ F H _ w e q fun c m1 F1 H1 h1 w1 s1 => ?_
  exact p (!c) m1 F1 H1 h1 w1 s1
/-! statements -/
variable {ks : KS}
theorem gs_seq {t u : β → TS} (h : gS P K t r m { ks with nx := fun r1 m1 => gS P K u r1 m1 ks }) : gS P K (fun b => tSeq (t b) (u b)) r m ks := fun b E σ F H w e q p => by
  have q2 := q
  refine h b { E with nx := u b E } σ F H w e q ⟨fun r1 m1 σ1 F1 H1 h1 w1 s1 e1 => ?_, p.rt, p.bk, p.ct⟩
  exact h1 b E σ1 F1 H1 w1 e1 (P.step q s1) (p.step s1)
theorem gs_ret {te : β → TE} (h : gE P K te r m ks.rt) : gS P K (fun b => tRet (te b)) r m ks := fun b E σ F H w e q p => h b σ F H _ w e q p.rt
theorem gs_if {c : β → TT} {t u : β → TS} (h : gT P K c r m fun b m1 => if b = true then gS P K t r m1 ks else gS P K u r m1 ks) : gS P K (fun b => tIfS (c b) (t b) (u b)) r m ks := fun b E σ F H w e q p => by
  refine h b σ F H _ w e q fun c m1 F1 H1 h1 w1 s1 => ?_
  cases c with
  | true => exact h1 b E σ F1 H1 w1 (e.mono s1.same) (P.step q s1) (p.step s1)
  | false => exact h1 b E σ F1 H1 w1 (e.mono s1.same) (P.step q s1) (p.step s1)
theorem gs_drop {te : β → TE} (h : gE P K te r m fun _ m1 => ks.nx r m1) : gS P K (fun b => tDrop (te b)) r m ks := fun b E σ F H w e q p => by
  refine h b σ F H _ w e q fun d m1 v F1 H1 h1 w1 s1 i1 => ?_
  exact p.nx r m1 σ F1 H1 h1 w1 s1 (e.mono s1.same)
theorem gs_asg {te : β → TE} {g : TG} (h : gE P K te r m fun d m1 => wG K g d r m1 ks.nx) : gS P K (fun b => tAsg (te b) g) r m ks := fun b E σ F H w e q p => by
  refine h b σ F H _ w e q fun d m1 v F1 H1 h1 w1 s1 i1 => ?_
  exact h1 v σ F1 H1 _ w1 i1 (e.mono s1.same) (p.nx.step s1)
theorem gE.mono {t : β → TE} {k k' : D → Mu → Prop} (h : gE P K t r m k) (i : ∀ d m', k d m' → k' d m') : gE P K t r m k' := fun b σ F H Q w e q p => h b σ F H Q w e q fun d m' v F' H' a => p d m' v F' H' (i d m' a)
theorem gs_set {te : β → TE} {i : Nat} (h : gE P K te r m fun d m1 => ks.nx (r.set i (some d)) m1) : gS P K (fun b => tAsg (te b) (gName i)) r m ks := gs_asg (h.mono fun d m1 q => g_name q)
theorem gs_app {ta te : β → TE} (h : gE P K ta r m fun x m1 => ∃ a ys, x = .ref a ∧ m1 a = some (.lst ys) ∧ gE P K te r m1 fun d m2 => ∃ xs, m2 a = some (.lst xs) ∧ xs.length < 100000 ∧ ks.nx r (updM m2 a (.lst (xs ++ [d])))) :
    gS P K (fun b => tDrop (tBM K "list" rAppend (ta b) (tCons (te b) tNil))) r m ks := fun b E σ F H w e q p => by
  refine h b σ F H _ w e q fun x m1 v F1 H1 h1 w1 s1 i1 => ?_
  obtain ⟨a, ys, rfl, hy, h1⟩ := h1
  obtain rfl : v = .ref a := i1
  obtain ⟨_, vs, g1, g2⟩ := w1.st a _ hy
  refine ⟨.inl ⟨rfl, vs, SqL.of g1⟩, ?_⟩
  refine h1 b σ F1 H1 _ w1 (e.mono s1.same) (P.step q s1) fun d m2 v F2 H2 h2 w2 s2 i2 => ?_
  obtain ⟨xs, e2, hl, hk⟩ := h2
  obtain ⟨_, ws, g3, g4⟩ := w2.st a _ e2
  refine ⟨a, ws, v, rfl, rfl, g3, ?_, ?_⟩
  · rw [← g4.len, sizeLine_eq]; exact Nat.lt_of_lt_of_le hl (by decide)
  · have hn : MIs K F2 (upd H2 a (.lst (ws ++ [v]))) a (.lst (xs ++ [d])) := ⟨_, upd_same, g4.app (.one i2)⟩
    exact p.nx r _ σ F2 _ hk (w2.write e2 hn) ((s1.trans s2).trans (Stp.write e2)) (e.mono (s1.trans s2).same)
theorem gs_frz {t : β → TS} {i : Nat} {a : Addr} {xs : List D} (hr : r[i]? = some (some (.ref a))) (hm : m a = some (.lst xs)) (h : gS P K t (r.set i (some (.lst xs))) (delM m a) ks) : gS P K t r m ks := fun b E σ F H w e q p => by
  obtain ⟨_, vs, g1, g2⟩ := w.st a _ hm
  have w2 := w.freeze hm g1
  have s2 := Stp.freeze (u := .lst vs) w hm
  obtain ⟨v, hv, hv2⟩ := e.2 i _ hr
  refine h b E σ _ H w2 ((e.mono s2.same).put i (fun v' hv' => ?_) ⟨v, hv⟩) (P.step q s2) (p.step s2)
  rw [hv] at hv'
  cases hv'
  exact ⟨a, vs, hv2, SqL.of upd_same, IsL.mono s2.same _ _ g2⟩
theorem gs_for {wi : TI} {g : TG} {tb : β → TS}
    (h : wI K wi r m fun xs m1 => ∃ I : Nat → En → Mu → Prop, I 0 r m1 ∧ (∀ i x r' m', xs[i]? = some x → I i r' m' → wG K g x r' m' fun r2 m2 => gS P K tb r2 m2 { nx := I (i + 1), rt := ks.rt, bk := ks.nx, ct := I (i + 1) }) ∧ ∀ r' m', I xs.length r' m' → ks.nx r' m') :
    gS P K (fun b => tFor wi g (tb b)) r m ks := fun b E σ F H w e q p => by
  refine h σ F H _ w e fun xs m1 F1 H1 J h1 w1 s1 hw => ?_
  obtain ⟨I, h0, hs, hd⟩ := h1
  refine ⟨fun i n σ' H' => n = xs.length - i ∧ i ≤ xs.length ∧ ∃ r' m' F', I i r' m' ∧ Wd K F' H' m' ∧ Stp m1 F1 H1 m' F' H' ∧ EnvOk K F' σ' r', ⟨xs.length, rfl, Nat.zero_le _, r, m1, F1, h0, w1, Stp.refl, e.mono s1.same⟩, ?_⟩
  rintro i n σ' H' ⟨rfl, hi, r', m', F', hI, w', s', e'⟩
  obtain ⟨go, stop⟩ := hw i F' H' m' s'.same w'
  by_cases hlt : i < xs.length
  · obtain ⟨g1, g2⟩ := go hlt
    refine .inr ⟨g1, fun σ2 H2 => ∃ r2 m2 F2, I (i + 1) r2 m2 ∧ Wd K F2 H2 m2 ∧ Stp m1 F1 H1 m2 F2 H2 ∧ EnvOk K F2 σ2 r2, fun σ2 H2 q => ⟨xs.length - (i + 1), by omega, rfl, hlt, q⟩, fun v H2 y => ?_⟩
    obtain ⟨F2, w2, s2, iv⟩ := g2 v H2 y
    have hx : xs[i]? = some xs[i] := List.getElem?_eq_getElem hlt
    have s12 := s'.trans s2
    refine hs i _ r' m' hx hI v σ' F2 H2 _ w2 (iv _ hx) (e'.mono s2.same) fun r3 m3 σ3 F3 H3 h3 w3 s3 e3 => ?_
    have s13 := s12.trans s3
    refine h3 b _ σ3 F3 H3 w3 e3 (P.step q (s1.trans s13)) ⟨fun r4 m4 σ4 F4 H4 h4 w4 s4 e4 => ⟨r4, m4, F4, h4, w4, s13.trans s4, e4⟩, p.rt.step (s1.trans s13), p.nx.step (s1.trans s13), fun r4 m4 σ4 F4 H4 h4 w4 s4 e4 => ⟨r4, m4, F4, h4, w4, s13.trans s4, e4⟩⟩
  · have e0 : i = xs.length := by omega
    subst e0
    exact .inl ⟨stop (Nat.le_refl _), p.nx r' m' σ' F' H' (hd r' m' hI) w' (s1.trans s') e'⟩
end
/-! ### raising -/
abbrev SpX := List D → Mu → (D → Mu → Prop) → XC → Prop
def spX (K : PySem.W.Frag) (S : SpX) : Sp := fun vs H Q E => ∃ ds F m k x, Wd K F H m ∧ IsL K F ds vs ∧ S ds m k x ∧ PoE K m F H k Q ∧ PoXE K m F H x E
def tRaiseE (C : Addr) (fs : List Str) (W : WX) (ta : TA) : TS := fun _ σ H => tMkE C fs ta σ H fun cls d H' => W cls d σ H'
section
variable {K : PySem.W.Frag} {r : En} {m m1 m2 : Mu} {k : D → Mu → Prop} {ks : KS} {x : XS} {S : SpX}
theorem gx_raise {C : Addr} {fs : List Str} {ta : TA} (h : wA K ta r m fun ds m1 => ds.length = fs.length ∧ x (.ref C) (fs.zip ds) r m1) : gS (rlX K x) K (fun W => tRaiseE C fs W ta) r m ks := fun W E σ F H w e q p => by
  refine h σ F H _ w e fun ds m1 vs F1 H1 h1 w1 s1 i1 => ⟨i1.len.symm.trans h1.1, fun d hd => ?_⟩
  have s2 := Stp.newF (u := .xd (fs.zip vs)) w1 hd
  exact q (.ref C) (fs.zip ds) r m1 σ (some d) _ _ h1.2 (w1.newF hd) (s1.trans s2) (e.mono (s1.trans s2).same) (.inr ⟨d, _, rfl, upd_same, IsF.mono s2.same _ _ (IsF.zip i1)⟩)
theorem PoX.at_ {F H F1 H1 : Hp} {W : WX} {σ : L2.St} (q : PoX K m F H x W) (e : EnvOk K F σ r) (s : Stp m F H m1 F1 H1) : PoXE K m1 F1 H1 (fun cls fs m' => x cls fs r m') (fun cls d H' => W cls d σ H') :=
  fun cls fs m' d F' H' a b c i => q cls fs r m' σ d F' H' a b (s.trans c) (e.mono (s.trans c).same) i
theorem gx_call {ta : WX → TA} {dvs : List V} {dds : List D} (hd : ∀ F, IsL K F dds dvs) (h : gA (rlX K x) K ta r m fun xs m1 => S (xs ++ dds) m1 k (fun cls fs m' => x cls fs r m')) :
    gE (rlX K x) K (fun W => tCallSD (spX K S) dvs (WE W) (ta W)) r m k := fun W σ F H Q w e q p => by
  refine h W σ F H _ w e q fun xs m1 vs F1 H1 h1 w1 s1 i1 => ?_
  exact ⟨xs ++ dds, F1, m1, k, _, w1, i1.app (hd F1), h1, p.step s1, PoX.at_ q e s1⟩
theorem gx_meth {C : Addr} {mn : Str} {ta : WX → TE} {t : WX → TA} {dvs : List V} {dds : List D} (hd : ∀ F, IsL K F dds dvs)
    (h : gE (rlX K x) K ta r m fun o m1 => ∃ fs, InD m1 o C fs ∧ fs.lookup mn = none ∧ gA (rlX K x) K t r m1 fun xs m2 => S (o :: (xs ++ dds)) m2 k (fun cls fs m' => x cls fs r m')) :
    gE (rlX K x) K (fun W => tMethS C mn (spX K S) dvs (WE W) (ta W) (t W)) r m k := fun W σ F H Q w e q p => by
  refine h W σ F H _ w e q fun o m1 v F1 H1 h1 w1 s1 i1 => ?_
  obtain ⟨fs, hi, hl, hk⟩ := h1
  obtain ⟨a, dx, gs, rfl, h2, h3⟩ := hi.at_ w1 i1
  refine ⟨a, dx, gs, rfl, h2, h3.lookN hl, ?_⟩
  refine hk W σ F1 H1 _ w1 (e.mono s1.same) ((rlX K x).step q s1) fun xs m2 vs F2 H2 h2 w2 s2 i2 => ?_
  exact ⟨o :: (xs ++ dds), F2, m2, k, _, w2, ⟨_, _, rfl, Is.mono s2.same _ _ i1, i2.app (hd F2)⟩, h2, p.step (s1.trans s2), PoX.at_ q e (s1.trans s2)⟩
theorem gx_make {C : Addr} {t : WX → TA} {dvs : List V} {dds : List D} (hd : ∀ F, IsL K F dds dvs)
    (h : gA (rlX K x) K t r m fun xs m1 => ∀ a, m1 a = none → S (.ref a :: (xs ++ dds)) (updM m1 a (.ins C [])) (fun d m2 => d = .non ∧ ((∃ fs m3, m2 a = some (.ins C fs) ∧ Sub m3 (delM m2 a) ∧ k (.ins C fs) m3) ∨ k (.ref a) m2)) (fun cls fs m' => x cls fs r m')) :
    gE (rlX K x) K (fun W => tMakeS C (spX K S) dvs (WE W) (t W)) r m k := fun W σ F H Q w e q p => by
  refine h W σ F H _ w e q fun xs m1 vs F1 H1 h1 w1 s1 i1 => fun x' dx hx hdx hne => ?_
  have w2 : Wd K F1 (upd (upd H1 dx (.own x')) x' (.ins C dx [])) (updM m1 x' (.ins C [])) := by
    refine ⟨fun b u q => ?_, fun a o q => ?_⟩
    · have q' := w1.same b u q
      rw [upd_ne (ne_of_none q' hx), upd_ne (ne_of_none q' hdx)]; exact q'
    · by_cases ha : a = x'
      · subst ha; rw [updM_same] at q; cases q
        exact ⟨w1.freeF hx, dx, [], upd_same, rfl⟩
      · rw [updM_ne ha] at q
        refine ⟨(w1.st a o q).1, (w1.st a o q).2.mono (Same.refl _) fun u hu => ?_⟩
        rw [upd_ne ha, upd_ne (ne_of_none hu hdx)]; exact hu
  have s2 : Stp m1 F1 H1 (updM m1 x' (.ins C [])) F1 (upd (upd H1 dx (.own x')) x' (.ins C dx [])) := by
    refine ⟨Same.refl _, fun a o _ q => ?_, fun a hm q => ?_, fun a hm q => ?_⟩
    · rw [upd_ne (ne_of_none q hx), upd_ne (ne_of_none q hdx)]; exact q
    · by_cases ha : a = x'
      · rw [ha]; exact hx
      · rw [updM_ne ha] at q; exact absurd hm q
    · exact absurd hm q
  refine ⟨.ref x' :: (xs ++ dds), F1, _, _, _, w2, ⟨_, _, rfl, rfl, i1.app (hd F1)⟩, h1 x' (w1.free hx), fun d m3 v F3 H3 h3 w3 s3 i3 => ?_, PoX.at_ q e (s1.trans s2)⟩
  obtain ⟨rfl, h3⟩ := h3
  refine ⟨i3, ?_⟩
  rcases h3 with ⟨fs, m4, e1, e2, h4⟩ | h4
  · obtain ⟨_, dx', gs, g1, g2⟩ := w3.st x' _ e1
    have w4 := w3.freeze e1 g1
    have s4 := Stp.freeze (u := .ins C dx' gs) w3 e1
    exact p (.ins C fs) m4 _ _ H3 h4 (w4.less e2) ((((s1.trans s2).trans s3).trans s4).less e2) ⟨x', dx', gs, rfl, upd_same, IsF.mono s4.same _ _ g2⟩
  · exact p (.ref x') m3 _ F3 H3 h4 w3 ((s1.trans s2).trans s3) rfl
theorem gx_same {C : Addr} {ta tb : WX → TE} (h : gE (rlX K x) K ta r m fun o m1 => gE (rlX K x) K tb r m1 fun y m2 => ∃ fs gs, InD m2 o C fs ∧ InD m2 y C gs ∧ S [o, y] m2 k (fun cls fs m' => x cls fs r m')) :
    gE (rlX K x) K (fun W => tOpS (rSameS C (spX K S) (WE W)) (ta W) (tb W)) r m k := fun W σ F H Q w e q p => by
  refine h W σ F H _ w e q fun o m1 vx F1 H1 h1 w1 s1 i1 => ?_
  refine h1 W σ F1 H1 _ w1 (e.mono s1.same) ((rlX K x).step q s1) fun y m2 vy F2 H2 h2 w2 s2 i2 => ?_
  obtain ⟨fs, gs, d1, d2, h2⟩ := h2
  have i1' := Is.mono s2.same _ _ i1
  obtain ⟨a, dx, fs', rfl, a1, a2⟩ := d1.at_ w2 i1'
  obtain ⟨b, dy, gs', rfl, b1, b2⟩ := d2.at_ w2 i2
  exact ⟨a, dx, fs', b, dy, gs', rfl, rfl, a1, b1, [o, y], F2, m2, k, _, w2, ⟨_, _, rfl, i1', _, _, rfl, i2, rfl⟩, h2, p.step (s1.trans s2), PoX.at_ q e (s1.trans s2)⟩
theorem gx_augSame {C : Addr} {i : Nat} {te : WX → TE} {d0 : D} (hr : r[i]? = some (some d0)) (h : gE (rlX K x) K te r m fun y m1 => ∃ fs gs, InD m1 d0 C fs ∧ InD m1 y C gs ∧ S [d0, y] m1 (fun z m2 => ks.nx (r.set i (some z)) m2) (fun cls fs m' => x cls fs r m')) :
    gS (rlX K x) K (fun W => tAugE i (te W) (rSameS C (spX K S) (WE W))) r m ks := fun W E σ F H w e q p => by
  obtain ⟨v, hv, hv2⟩ := e.2 i _ hr
  refine ⟨v, hv, ?_⟩
  refine h W σ F H _ w e q fun y m1 u F1 H1 h1 w1 s1 i1 => ?_
  obtain ⟨fs, gs, d1, d2, h2⟩ := h1
  have i0 := Is.mono s1.same _ _ hv2
  obtain ⟨a, dx, fs', rfl, a1, a2⟩ := d1.at_ w1 i0
  obtain ⟨b, dy, gs', rfl, b1, b2⟩ := d2.at_ w1 i1
  refine ⟨a, dx, fs', b, dy, gs', rfl, rfl, a1, b1, [d0, y], F1, m1, _, _, w1, ⟨_, _, rfl, i0, _, _, rfl, i1, rfl⟩, h2, fun z m2 vz F2 H2 h2 w2 s2 i2 => ?_, PoX.at_ q e s1⟩
  exact p.nx _ m2 _ F2 H2 h2 w2 (s1.trans s2) ((e.mono (s1.trans s2).same).set i i2)
end
/-! ### try .. except .. as -/
theorem EnvOk.setN {K : PySem.W.Frag} {F : Hp} {σ : L2.St} {r : En} (i : Nat) (h : EnvOk K F σ r) : EnvOk K F (σ.set i none) (r.set i none) := by
  refine ⟨by rw [List.length_set, List.length_set]; exact h.1, fun j d q => ?_⟩
  by_cases hj : i = j
  · subst hj
    rw [List.getElem?_set] at q
    split at q
    · split at q <;> cases q
    · simp at *
  · rw [List.getElem?_set_ne hj] at q ⊢
    exact h.2 j d q
def tTryAs (K : PySem.W.Frag) (c : Value) (i : Nat) (tb : WX → TS) (ts : Addr → Value → Option Addr → TS) (W : WX) : TS := fun D σ H => tb (wAs K c i ts W D) D σ H
/-- behind the suite the name is gone -/
def ksN (i : Nat) (k : KS) : KS := { nx := fun r m => k.nx (r.set i none) m, rt := k.rt, bk := fun r m => k.bk (r.set i none) m, ct := fun r m => k.ct (r.set i none) m }
section
variable {K : PySem.W.Frag} {r : En} {m m1 m2 : Mu} {ks : KS} {x : XS}
theorem gx_try {c : Value} {i : Nat} {tb : WX → TS} {ts : Addr → Value → Option Addr → TS}
    (h : gS (rlX K fun cls fs r1 m1 => ∃ b, PySem.W.exmOne K cls c = some b ∧ (b = true → ∀ a, m1 a = none → gS (rlF K fs) K (fun d => ts a cls d) (r1.set i (some (.ref a))) m1 (ksN i ks)) ∧ (b = false → x cls fs r1 m1)) K tb r m ks) :
    gS (rlX K x) K (fun W => tTryAs K c i tb ts W) r m ks := fun W E σ F H w e q p => by
  refine h _ E σ F H w e (fun cls fs r1 m1 σ1 d F1 H1 h1 w1 s1 e1 i1 => ?_) p
  obtain ⟨b, hb, hy, hn⟩ := h1
  refine ⟨b, hb, fun hbt a ha => ?_, fun hbf => q cls fs r1 m1 σ1 d F1 H1 (hn hbf) w1 s1 e1 i1⟩
  have p1 := p.step s1
  refine hy hbt a (w1.free ha) d _ _ F1 H1 w1 (e1.set i rfl) i1 ⟨fun r2 m2 σ2 F2 H2 h2 w2 s2 e2 => p1.nx _ m2 _ F2 H2 h2 w2 s2 (e2.setN i), p1.rt, fun r2 m2 σ2 F2 H2 h2 w2 s2 e2 => p1.bk _ m2 _ F2 H2 h2 w2 s2 (e2.setN i), fun r2 m2 σ2 F2 H2 h2 w2 s2 e2 => p1.ct _ m2 _ F2 H2 h2 w2 s2 (e2.setN i)⟩
/-- .. in a def that raises nothing -/
theorem s_try {c : Value} {i : Nat} {tb : WX → TS} {ts : Addr → Value → Option Addr → TS} {W : WX}
    (h : gS (rlX K fun cls fs r1 m1 => PySem.W.exmOne K cls c = some true ∧ ∀ a, m1 a = none → gS (rlF K fs) K (fun d => ts a cls d) (r1.set i (some (.ref a))) m1 (ksN i ks)) K tb r m ks) :
    wS K (tTryAs K c i tb ts W) r m ks := fun E σ F H w e p => by
  refine h _ E σ F H w e (fun cls fs r1 m1 σ1 d F1 H1 h1 w1 s1 e1 i1 => ?_) p
  obtain ⟨hb, hy⟩ := h1
  refine ⟨true, hb, fun hbt a ha => ?_, fun hbf => nomatch hbf⟩
  have p1 := p.step s1
  refine hy a (w1.free ha) d _ _ F1 H1 w1 (e1.set i rfl) i1 ⟨fun r2 m2 σ2 F2 H2 h2 w2 s2 e2 => p1.nx _ m2 _ F2 H2 h2 w2 s2 (e2.setN i), p1.rt, fun r2 m2 σ2 F2 H2 h2 w2 s2 e2 => p1.bk _ m2 _ F2 H2 h2 w2 s2 (e2.setN i), fun r2 m2 σ2 F2 H2 h2 w2 s2 e2 => p1.ct _ m2 _ F2 H2 h2 w2 s2 (e2.setN i)⟩
/-- e.f in the suite -/
theorem gf_fld {a C : Addr} {cls : Value} {f : Str} {te : TE} {fs : List (Str × D)} {k : D → Mu → Prop} {v : D} (hc : cls = .ref C) (hf : fs.lookup f = some v) (h : wE K te r m fun o m1 => o = .ref a ∧ k v m1) :
    gE (rlF K fs) K (fun d => tXf a cls d C f te) r m k := fun d σ F H Q w e q p => by
  refine h σ F H _ w e fun o m1 vo F1 H1 h1 w1 s1 i1 => ?_
  obtain ⟨rfl, h1⟩ := h1
  obtain rfl : vo = .ref a := i1
  rcases q.mono s1.same with ⟨_, e0⟩ | ⟨dd, gs, rfl, g1, g2⟩
  · rw [e0] at hf; cases hf
  · obtain ⟨u, h3, h4⟩ := g2.look hf
    exact ⟨rfl, hc, dd, gs, u, rfl, w1.same _ _ g1, h3, p v m1 u F1 H1 h1 w1 s1 h4⟩
end
/-! ### defs that may raise -/
theorem okX_of {P : Program} {w : World} {K : PySem.W.Frag} {mg : Str → Option Value} {base : Heap} {x qual : Str} {params : Arguments} {body : List Stmt} {scope : Scope} {dvs : List V} {kws : List (Str × V)} {f : Addr} {fd : FuncData} {N ps : List Str} {kk : Nat} {S : SpX}
    (F : FunD K x qual params body scope dvs kws f fd) (Sc : FnScope N ps scope) (hl : ∀ ds m k x, S ds m k x → ds.length = ps.length)
    (hb : ∀ (cdv : Value) (A : Around) (outer : List Env) (s : Shared) (H : Hp) (E : XK), Room kk (A.deeper (envOfC qual scope s.heap.objs.size f cdv)) →
      ∃ t : WX → TS, (∀ W, Takes (cxOf (L2.CX P w) P w K mg base N qual scope f cdv A outer s H E) W → PassesOwn (model P w) (cxOf (L2.CX P w) P w K mg base N qual scope f cdv A outer s H E).A (cxOf (L2.CX P w) P w K mg base N qual scope f cdv A outer s H E).env (cxOf (L2.CX P w) P w K mg base N qual scope f cdv A outer s H E).xe →
        PSs (cxOf (L2.CX P w) P w K mg base N qual scope f cdv A outer s H E) body (t W)) ∧
        ∀ ds m k x, S ds m k x → gS (rlX K fun cls fs _ m' => x cls fs m') K t (startD N ds) m { nx := fun _ m' => k .non m', rt := k }) :
    FnOk P w K mg base (L2.CX P w) (kk + 1) f fd ps (spX K S) := by
  refine F.ok Sc (fun vs H Q E h => ?_) (fun cdv A outer s H vs Q E hr h => ?_)
  · obtain ⟨ds, F0, m, k, x, _, h2, h3, _, _⟩ := h
    rw [← h2.len]; exact hl ds m k x h3
  · obtain ⟨ds, F0, m, k, x, w1, h2, h3, p, px⟩ := h
    obtain ⟨t, ht, hw⟩ := hb cdv A outer s H E hr
    refine ⟨t (fun cls d _ H => E cls d H), ht _ (takes_of rfl rfl rfl rfl) (passes_of rfl), hw ds m k x h3 _ _ _ F0 H w1 (env_start h2) (fun cls fs r m' σ d F' H' a b c _ i => px cls fs m' d F' H' a b c i) ⟨fun r m' σ F' H' a b c _ => p .non m' .non F' H' a b c rfl, p, fun r m' σ F' H' a => a.elim, fun r m' σ F' H' a => a.elim⟩⟩
/-- a promise without exceptions, as one with them -/
def spOr (S : SpD) (S' : SpX) : SpX := fun ds m k x => S ds m k ∨ S' ds m k x
theorem okX_or {P : Program} {w : World} {K : PySem.W.Frag} {mg : Str → Option Value} {base : Heap} {f : Addr} {fd : FuncData} {ps : List Str} {kk : Nat} {S : SpD} {S' : SpX} (F : FnOk P w K mg base CX0 kk f fd ps (spOf K S)) (G : FnOk P w K mg base (L2.CX P w) kk f fd ps (spX K S')) :
    FnOk P w K mg base (L2.CX P w) kk f fd ps (spX K (spOr S S')) := by
  refine ⟨fun vs H Q E h => ?_, fun A outer s H args us vs Q E hr he hb hv h => ?_⟩
  · obtain ⟨ds, F0, m, k, x, w1, h2, h3, p, px⟩ := h
    rcases h3 with h3 | h3
    · exact F.len vs H Q E ⟨ds, F0, m, k, w1, h2, h3, p⟩
    · exact G.len vs H Q E ⟨ds, F0, m, k, x, w1, h2, h3, p, px⟩
  · obtain ⟨ds, F0, m, k, x, w1, h2, h3, p, px⟩ := h
    rcases h3 with h3 | h3
    · refine codeAny_mono (F.run A outer s H args us vs Q E hr he hb hv ⟨ds, F0, m, k, w1, h2, h3, p⟩) fun r s' z => ?_
      match r, z with
      | .ok (.ret u), z => exact z
    · exact G.run A outer s H args us vs Q E hr he hb hv ⟨ds, F0, m, k, x, w1, h2, h3, p, px⟩
end DL
end

section
set_option Elab.async false
set_option linter.all false
set_option maxRecDepth 100000
set_option maxHeartbeats 4000000
namespace DL
open PySem PySem.Spec PyProof.Rows L2 OW
section
variable {X : Cx} {C : Addr} {fs : List Str} {x : Str}
/-- raise E(..) -/
theorem psx_raise {a : Expr} {as : List Expr} {ta : TA} {W : WX} {p pos pos2 : Pos} {k : Nat} (hc : X.calm = true) (T : ErrOk X.prog X.w X.K X.mg X.base x C fs) (hr : Room k X.A) (tk : Takes X W) (ha : PA X (a :: as) ta) (hg : Gl X x) (hd : (x == ("__debug__" : Str)) = false := by decide)
    (he : starEach (a :: as) X.env = (false, eval a X.env) :: starEach as X.env := by rfl) (hpl : (backTo pos (starEach as X.env)).any (·.1) = false := by rfl) :
    PS X (.Raise (some (.Call (.Name x p) (a :: as) [] pos)) none pos2) (tRaiseE C fs W ta) := ps_raise hc tk (pmk_err T hr ha hg hd he hpl)
/-- a statement that is never reached -/
theorem pss_never {st : List Stmt} : PSs X st (fun _ _ _ => False) := ⟨fun _ _ _ _ _ _ h => h.elim⟩
theorem psx_try {n : Str} {c : Value} {i : Nat} {body suite : List Stmt} {b₀ : Stmt} {np pos pos' : Pos} {tb : WX → TS} {ts : Addr → Value → Option Addr → TS} {Wout : WX} (hs : X.stack = X.env :: X.outer) (hf : X.env.frame = some X.env.locals) (hN : X.N.Nodup) (hi : X.N[i]? = some n) (hln : X.env.kindOf n = some .local) (hc : Names X x c) (tk : Takes X Wout)
    (hb : ∀ (W : WX) (pn : List (Addr × Obj)) (xe : Value → Shared → Prop), Takes (X.tr pn xe) W → PassesOwn (model X.prog X.w) X.A X.env xe → PSs (X.tr pn xe) body (tb W))
    (hsu : ∀ (a : Addr) (oe : Obj) (cls : Value) (d : Option Addr) (pn : List (Addr × Obj)), Zc cls d oe → (∃ vs, oe.data = .fields vs) → PSs (X.suite a ((a, oe) :: pn)) (b₀ :: suite) (ts a cls d)) :
    PS X (.Try body [.ExceptHandler (some (.Name x np)) (some n) (b₀ :: suite) pos'] [] [] pos) (tTryAs X.K c i tb ts Wout) := ps_try_as hs hf hN hi hln hc tk hb hsu
theorem takes_no : Takes X (fun _ _ _ _ => False) := fun _ _ ⟨_, _, _, _, _, _, _, _, _, _, _, _, _, _, _, _, z⟩ => z.elim
end
/-- a def that may raise, with its promise by data, and how it is bound -/
structure FnXD (P : Program) (w : World) (K : PySem.W.Frag) (mg : Str → Option Value) (base : Heap) (k : Nat) (f : Addr) (ps : List Str) (S : SpX) : Prop where
  ok : ∃ fd, FnOk P w K mg base (L2.CX P w) k f fd ps (spX K S) ∧ Binds K fd ps []
  kp : PySem.W.keepIn K (.ref f) = true
theorem fnx_of1 {P : Program} {w : World} {K : PySem.W.Frag} {mg : Str → Option Value} {base : Heap} {x qual : Str} {params : Arguments} {body : List Stmt} {scope : Scope} {kws : List (Str × V)} {f : Addr} {N ps : List Str} {kk : Nat} {S : SpX}
    (hF : ∃ fd, FunD K x qual params body scope [] kws f fd) (Sc : FnScope N ps scope) (hl : ∀ ds m k x, S ds m k x → ds.length = ps.length)
    (hbi : ∀ (kV doc pm : Value) (an : Option Addr) (cdv ct : Value) (us : List Value), us.length = ps.length → bindArgs (PySem.W.fnOf x qual params body scope .none kV doc pm an cdv ct) ⟨us, []⟩ = pure (ps.zip us))
    (hb : ∀ (cdv : Value) (A : Around) (outer : List Env) (s : Shared) (H : Hp) (E : XK), Room kk (A.deeper (envOfC qual scope s.heap.objs.size f cdv)) →
      ∃ t : WX → TS, (∀ W, Takes (cxOf (L2.CX P w) P w K mg base N qual scope f cdv A outer s H E) W → PassesOwn (model P w) (cxOf (L2.CX P w) P w K mg base N qual scope f cdv A outer s H E).A (cxOf (L2.CX P w) P w K mg base N qual scope f cdv A outer s H E).env (cxOf (L2.CX P w) P w K mg base N qual scope f cdv A outer s H E).xe →
        PSs (cxOf (L2.CX P w) P w K mg base N qual scope f cdv A outer s H E) body (t W)) ∧
        ∀ ds m k x, S ds m k x → gS (rlX K fun cls fs _ m' => x cls fs m') K t (startD N ds) m { nx := fun _ m' => k .non m', rt := k }) :
    FnXD P w K mg base (kk + 1) f ps S := by
  obtain ⟨fd, F⟩ := hF
  exact ⟨⟨fd, okX_of F Sc hl hb, F.bindsN hbi⟩, F.kp⟩
/-- the whole promise of a def: without exceptions, or with them -/
theorem fnx_or {P : Program} {w : World} {K : PySem.W.Frag} {mg : Str → Option Value} {base : Heap} {f : Addr} {ps : List Str} {kk : Nat} {S : SpD} {S' : SpX} {fd : FuncData} (F : FnOk P w K mg base CX0 kk f fd ps (spOf K S)) {fd' : FuncData} (G : FnOk P w K mg base (L2.CX P w) kk f fd' ps (spX K S')) (e : fd' = fd) :
    FnOk P w K mg base (L2.CX P w) kk f fd ps (spX K (spOr S S')) := by
  subst e
  exact okX_or F G
end DL
end

section
set_option Elab.async false
set_option linter.all false
set_option maxRecDepth 100000
set_option maxHeartbeats 2000000
/-! ### static methods that may raise; xs.extend(ys) -/
namespace OW
open PySem PySem.Spec PyProof.Rows L2
section
variable {X : Cx} {CX : CXT} {k : Nat} {C g p : Addr} {fd : FuncData} {ps : List Str} {sp : Sp} {dvs : List V} {ds : List Value} {E : L2.St → XK} {mn : Str} {pos apos : Pos} {e o : Expr} {es : List Expr} {ta : TE} {t : TA}
def tStatS (C : Addr) (sp : Sp) (dvs : List V) (E : L2.St → XK) (ta : TE) (t : TA) : TE := fun σ H Q => ta σ H fun x H1 => x = .ref C ∧ t σ H1 fun vs H2 => sp (vs ++ dvs) H2 Q (E σ)
theorem pe_statS {pl : Sem Bool} (he : PE X o ta) (c : FX.StM X.K C mn p g) (F : FnOk X.prog X.w X.K X.mg X.base CX k g fd ps sp) (hr : Room k X.A) (hb : Binds X.K fd ps ds) (hd : Vals dvs ds) (hx : ∀ σ, PassesAt CX X σ (E σ)) (ha : PA X (e :: es) t)
    (hst : starEach (e :: es) X.env = (false, eval e X.env) :: starEach es X.env := by rfl) (hpl : (backTo pos (starEach es X.env)).any (·.1) = false := by rfl)
    (ht : eval (.Call (.Attribute o mn apos) (e :: es) [] pos) X.env = (do
      let ov ← eval o X.env
      standAt apos.atName
      let (f, first) ← holding [ov] (getMethod ov mn pl)
      callWith pos f first (backTo pos (starEach (e :: es) X.env)) (backToKw pos (keywordEach [] X.env))) := by rfl) :
    PE X (.Call (.Attribute o mn apos) (e :: es) [] pos) (tStatS C sp dvs E ta t) := by
  refine ⟨fun pins s σ H Q I h => ?_⟩
  refine PySem.W.methodCall_KW (pl := pl) (thn (he.run pins s σ H _ I h) fun u s1 ⟨x, H1, I1, rx, ex, q⟩ => ?_) ht
  subst ex
  obtain rfl : u = Value.ref C := rx
  obtain ⟨rest, hp⟩ := c.rc
  refine PySem.W.method_cls I1.kIn c.ga (PySem.W.cls_bind I1.kIn c.rd c.at_ ?_)
  refine wpAny_call (PySem.W.sm_get (s := { s1 with toks := s1.toks + 1 }) I1.kIn hp (PySem.W.handed_on rfl ?_))
  have I2 := I1.tok (s1.toks + 1)
  refine PySem.W.callWith_K (first := []) (h₀ := X.base) I.ok.mod.kin c.kp (thn (ha.run pos pins _ σ H1 _ I2 q) fun us s2 ⟨vs, H2, I3, r, q2⟩ => ⟨I3.kIn, ?_⟩) hst hpl
  exact run_fnSD (us := us) (vs := vs) F hr hb hd (hx σ) I3 r q2
end
end OW
namespace DL
open PySem PySem.Spec PyProof.Rows L2 OW
section
variable {K : PySem.W.Frag} {r : En} {m : Mu} {k : D → Mu → Prop} {x : XS} {S : SpX}
theorem gx_stat {C : Addr} {ta : WX → TE} {t : WX → TA} {dvs : List V} {dds : List D} (hd : ∀ F, IsL K F dds dvs)
    (h : gE (rlX K x) K ta r m fun o m1 => o = .ref C ∧ gA (rlX K x) K t r m1 fun xs m2 => S (xs ++ dds) m2 k (fun cls fs m' => x cls fs r m')) :
    gE (rlX K x) K (fun W => tStatS C (spX K S) dvs (WE W) (ta W) (t W)) r m k := fun W σ F H Q w e q p => by
  refine h W σ F H _ w e q fun o m1 v F1 H1 h1 w1 s1 i1 => ?_
  obtain ⟨rfl, hk⟩ := h1
  refine ⟨i1, ?_⟩
  refine hk W σ F1 H1 _ w1 (EnvOk.mono s1.same e) ((rlX K x).step q s1) fun xs m2 vs F2 H2 h2 w2 s2 i2 => ?_
  exact ⟨xs ++ dds, F2, m2, k, _, w2, i2.app (hd F2), h2, p.step (s1.trans s2), PoX.at_ q e (s1.trans s2)⟩
end
section
variable {K : PySem.W.Frag} {r : En} {m : Mu} {k : KS}
/-- xs.extend(ys), both lists that may change -/
theorem s_ext {ta te : TE} (h : wE K ta r m fun x m1 => ∃ a ys, x = .ref a ∧ m1 a = some (.lst ys) ∧ wE K te r m1 fun d m2 => ∃ b xs zs, d = .ref b ∧ m2 a = some (.lst xs) ∧ m2 b = some (.lst zs) ∧ xs.length + zs.length ≤ 100000 ∧ k.nx r (updM m2 a (.lst (xs ++ zs)))) :
    wS K (tDrop (tBM K "list" rExtend ta (tCons te tNil))) r m k := fun E σ F H w e p => by
  refine h σ F H _ w e fun x m1 v F1 H1 h1 w1 s1 i1 => ?_
  obtain ⟨a, ys, rfl, hy, h1⟩ := h1
  obtain rfl : v = .ref a := i1
  obtain ⟨_, us, q1, _⟩ := w1.st a _ hy
  refine ⟨.inl ⟨rfl, us, SqL.of q1⟩, h1 σ F1 H1 _ w1 (EnvOk.mono s1.same e) fun d m2 v2 F2 H2 h2 w2 s2 i2 => ?_⟩
  obtain ⟨b, xs, zs, rfl, ea, eb, hl, hk⟩ := h2
  obtain rfl : v2 = .ref b := i2
  obtain ⟨_, ws, q3, q4⟩ := w2.st a _ ea
  obtain ⟨_, ys2, q5, q6⟩ := w2.st b _ eb
  refine ⟨a, b, ws, ys2, rfl, rfl, q3, q5, by rw [← q4.len, ← q6.len, sizeLine_eq]; exact Nat.le_trans hl (by decide), ?_⟩
  have hm : MIs K F2 (upd H2 a (.lst (ws ++ ys2))) a (.lst (xs ++ zs)) := ⟨_, upd_same, q4.app q6⟩
  exact p.nx r _ σ F2 _ hk (w2.write ea hm) ((s1.trans s2).trans (Stp.write ea)) (EnvOk.mono (s1.trans s2).same e)
end
/-! ### == of empty dicts -/
section
variable {X : Cx} {R R' : EqR} {n : Nat}
def dcR : EqR := fun x y r => x = .raw (.dK []) ∧ y = .raw (.dK []) ∧ r = true
theorem RcB.or (h : RcB X n R) (h' : RcB X n R') : RcB X n (orR R R') := fun A pins s σ H x y u v r sb I rx ry d => by
  obtain ⟨dx, dy, F, h1, h2, h3, d | d⟩ := d
  · exact h A pins s σ H x y u v r sb I rx ry ⟨dx, dy, F, h1, h2, h3, d⟩
  · exact h' A pins s σ H x y u v r sb I rx ry ⟨dx, dy, F, h1, h2, h3, d⟩
theorem rcB_dc : RcB X 0 dcR := by
  intro A pins s σ H x y u v r sb I rx ry d
  obtain ⟨dx, dy, F, sm, ix, iy, rfl, rfl, rfl⟩ := d
  obtain ⟨a, rfl, h1⟩ := ix
  obtain ⟨b, rfl, h2⟩ := iy
  obtain rfl : u = .ref a := rx
  obtain rfl : v = .ref b := ry
  obtain ⟨_, na, va, ka, da⟩ := I.hok a _ (sm _ _ h1)
  obtain ⟨_, nb, vb, kb, db⟩ := I.hok b _ (sm _ _ h2)
  cases ka
  cases kb
  exact PySem.W.rcP_dicts (r := true) na nb da db sb.room.units0 (fun _ => .nil) _ _ ⟨rfl, H, I, Ext.rfl'⟩
end
end DL
end

section
set_option Elab.async false
set_option linter.all false
set_option maxRecDepth 100000
set_option maxHeartbeats 2000000
namespace DL
open PySem PySem.Spec PyProof.Rows L2
section
variable {K : PySem.W.Frag} {r : En} {m : Mu} {k : D → Mu → Prop}
theorem cut_take (vs : List V) (i : Nat) : cutV vs none (some (i : Int)) = vs.take i := by
  unfold cutV
  rw [HT.sIx_nat, HT.sIx_none, List.drop_zero, Nat.sub_zero]
  rcases Nat.le_total i vs.length with h | h
  · rw [Nat.min_eq_left h]
  · rw [Nat.min_eq_right h, List.take_of_length_le (Nat.le_refl _), List.take_of_length_le h]
/-- xs[:i] -/
theorem e_sl2 {te tu : TE} (h : wE K te r m fun x m1 => ∃ xs, x = .lst xs ∧ wE K tu r m1 fun l m2 => ∃ i : Nat, l = .int (i : Int) ∧ k (.lst (xs.take i)) m2) : wE K (tSl (rSlL K) te tNoPart (tPart tu)) r m k := fun σ F H Q w e p => by
  refine h σ F H _ w e fun x m1 vx F1 H1 h1 w1 s1 i1 => ?_
  obtain ⟨xs, rfl, h1⟩ := h1
  refine h1 σ F1 H1 _ w1 (EnvOk.mono s1.same e) fun l m2 vl F2 H2 h2 w2 s2 i2 => ?_
  obtain ⟨i, rfl, q⟩ := h2
  refine ⟨(i : Int), i2, ?_⟩
  obtain ⟨a, us, rfl, g1, g2⟩ := Is.mono s2.same _ _ i1
  refine ⟨a, us, rfl, w2.same.seq g1, fun b hb => ?_⟩
  rw [cut_take]
  have s3 := Stp.newF (u := .lst (us.take i)) w2 hb
  exact p (.lst (xs.take i)) m2 _ _ _ q (w2.newF hb) ((s1.trans s2).trans s3) ⟨b, _, rfl, SqL.of upd_same, IsL.mono s3.same _ _ (IsL.take i g2)⟩
/-- t[:i] -/
theorem e_slT {te tu : TE} (h : wE K te r m fun x m1 => ∃ xs, x = .tup xs ∧ wE K tu r m1 fun l m2 => ∃ i : Nat, l = .int (i : Int) ∧ k (.tup (xs.take i)) m2) : wE K (tSl (rSlA K) te tNoPart (tPart tu)) r m k := fun σ F H Q w e p => by
  refine h σ F H _ w e fun x m1 vx F1 H1 h1 w1 s1 i1 => ?_
  obtain ⟨xs, rfl, h1⟩ := h1
  refine h1 σ F1 H1 _ w1 (EnvOk.mono s1.same e) fun l m2 vl F2 H2 h2 w2 s2 i2 => ?_
  obtain ⟨i, rfl, q⟩ := h2
  refine ⟨(i : Int), i2, ?_⟩
  have ib := Is.mono s2.same _ _ i1
  obtain ⟨a, us, rfl, g1, g2⟩ := ib
  refine ⟨a, us, rfl, Same.tq w2.same g1, fun hw => ?_, fun _ b hb => ?_⟩
  · have hi : us.length ≤ i := by
      have := hw.2
      rw [HT.sIx_nat] at this
      omega
    have e2 : xs.take i = xs := List.take_of_length_le (by rw [g2.len]; exact hi)
    rw [e2] at q
    exact p (.tup xs) m2 _ _ _ q w2 (s1.trans s2) ⟨a, us, rfl, g1, g2⟩
  · rw [cut_take]
    have s3 := Stp.newF (u := .tup (us.take i)) w2 hb
    exact p (.tup (xs.take i)) m2 _ _ _ q (w2.newF hb) ((s1.trans s2).trans s3) ⟨b, _, rfl, SqT.of upd_same, IsL.mono s3.same _ _ (IsL.take i g2)⟩
/-- t + u -/
theorem r_catA {xs ys : List D} (hl : xs.length + ys.length ≤ 100000) (q : k (.tup (xs ++ ys)) m) : wR K (rCatA K) (.tup xs) (.tup ys) m k := fun vx vy F H Q w ix iy p => by
  obtain ⟨a, us, rfl, g1, g2⟩ := ix
  obtain ⟨b, vs, rfl, g3, g4⟩ := iy
  refine ⟨a, b, us, vs, rfl, rfl, Same.tq w.same g1, Same.tq w.same g3, by rw [← g2.len, ← g4.len, sizeLine_eq]; exact Nat.le_trans hl (by decide), fun e => ?_, fun _ e => ?_, fun _ _ c hc => ?_⟩
  · subst e
    have : xs = [] := List.length_eq_zero_iff.mp g2.len
    subst this
    exact p (.tup ys) m _ F H q w Stp.refl ⟨b, vs, rfl, g3, g4⟩
  · subst e
    have : ys = [] := List.length_eq_zero_iff.mp g4.len
    subst this
    rw [List.append_nil] at q
    exact p (.tup xs) m _ F H q w Stp.refl ⟨a, us, rfl, g1, g2⟩
  · have s3 := Stp.newF (u := .tup (us ++ vs)) w hc
    exact p (.tup (xs ++ ys)) m _ _ _ q (w.newF hc) s3 ⟨c, _, rfl, SqT.of upd_same, IsL.mono s3.same _ _ (g2.app g4)⟩
/-- max of a list of ints -/
theorem c_max {ns : List Int} {xs : List D} (hx : xs = ns.map D.int) (h0 : 0 < ns.length) (q : ∀ n, n ∈ ns → (∀ y, y ∈ ns → y ≤ n) → k (.int n) m) : wC K (rMax K) [.lst xs] m k := fun vs F H Q w iv p => by
  subst hx
  obtain ⟨v, t, rfl, ⟨a, us, rfl, h1, h2⟩, rfl⟩ := iv
  have e : us = ns.map V.int := by
    clear q h0 h1
    induction ns generalizing us with
    | nil => exact h2
    | cons n ns ih =>
      obtain ⟨v, r, rfl, i1, i2⟩ := h2
      obtain rfl : v = .int n := i1
      rw [List.map_cons, ih _ i2]
  subst e
  exact ⟨a, ns, rfl, w.same.seq h1, h0, fun n hn hm => p.now w (q n hn hm) rfl⟩
/-- a, b, .. = xs, xs a list -/
theorem g_lst {n : Nat} {t : TGs} {xs : List D} {ke : En → Mu → Prop} (hl : xs.length = n) (h : wGs K t xs r m ke) : wG K (gLst K n t) (.lst xs) r m ke := fun v σ F H Q w iv e p => by
  obtain ⟨a, us, rfl, g1, g2⟩ := iv
  exact ⟨a, us, rfl, w.same.seq g1, by rw [← g2.len]; exact hl, h us σ F H Q w g2 e p⟩
end
section
variable {K : PySem.W.Frag} {r : En} {m : Mu} {k : KS}
def rIns : V → List V → Hp → VK → Prop := fun x vs H Q => ∃ (l : Addr) (xs : List V) (i : Int) (y : V), x = .ref l ∧ vs = [.int i, y] ∧ H l = some (.lst xs) ∧ xs.length < sizeLine ∧ 0 ≤ i ∧ i < 2 ^ 63 ∧ Q .non (upd H l (.lst (xs.take i.toNat ++ [y] ++ xs.drop i.toNat)))
theorem mt_ins {X : Cx} : MtR X "list.insert" rIns := mt_insert
/-- xs.insert(i, e) -/
theorem s_ins {ta ti te : TE} (h : wE K ta r m fun x m1 => ∃ a ys, x = .ref a ∧ m1 a = some (.lst ys) ∧ wE K ti r m1 fun j m2 => ∃ i : Nat, j = .int (i : Int) ∧ i < 100000 ∧ wE K te r m2 fun d m3 => ∃ xs, m3 a = some (.lst xs) ∧ xs.length < 100000 ∧ k.nx r (updM m3 a (.lst (xs.take i ++ [d] ++ xs.drop i)))) :
    wS K (tDrop (tBM K "list" rIns ta (tCons ti (tCons te tNil)))) r m k := fun E σ F H w e p => by
  refine h σ F H _ w e fun x m1 v F1 H1 h1 w1 s1 i1 => ?_
  obtain ⟨a, ys, rfl, hy, h1⟩ := h1
  obtain rfl : v = .ref a := i1
  obtain ⟨_, us, q1, _⟩ := w1.st a _ hy
  refine ⟨.inl ⟨rfl, us, SqL.of q1⟩, h1 σ F1 H1 _ w1 (EnvOk.mono s1.same e) fun j m2 v2 F2 H2 h2 w2 s2 i2 => ?_⟩
  obtain ⟨i, rfl, hi, h2⟩ := h2
  obtain rfl : v2 = .int (i : Int) := i2
  refine h2 σ F2 H2 _ w2 (EnvOk.mono (s1.trans s2).same e) fun d m3 v3 F3 H3 h3 w3 s3 i3 => ?_
  obtain ⟨xs, ea, hl, hk⟩ := h3
  obtain ⟨_, ws, q3, q4⟩ := w3.st a _ ea
  refine ⟨a, ws, (i : Int), v3, rfl, rfl, q3, by rw [← q4.len, sizeLine_eq]; exact Nat.lt_of_lt_of_le hl (by decide), by omega, by omega, ?_⟩
  rw [Int.toNat_natCast]
  have hm : MIs K F3 (upd H3 a (.lst (ws.take i ++ [v3] ++ ws.drop i))) a (.lst (xs.take i ++ [d] ++ xs.drop i)) := ⟨_, upd_same, ((IsL.take i q4).app (.one i3)).app (IsL.drop i q4)⟩
  exact p.nx r _ σ F3 _ hk (w3.write ea hm) (((s1.trans s2).trans s3).trans (Stp.write ea)) (EnvOk.mono ((s1.trans s2).trans s3).same e)
/-- xs.clear() -/
theorem s_clr {ta : TE} (h : wE K ta r m fun x m1 => ∃ a xs, x = .ref a ∧ m1 a = some (.lst xs) ∧ k.nx r (updM m1 a (.lst []))) : wS K (tDrop (tBM0 K "list" rClear ta)) r m k := fun E σ F H w e p => by
  refine h σ F H _ w e fun x m1 v F1 H1 h1 w1 s1 i1 => ?_
  obtain ⟨a, xs, rfl, ea, hk⟩ := h1
  obtain rfl : v = .ref a := i1
  obtain ⟨_, us, q1, _⟩ := w1.st a _ ea
  refine ⟨.inl ⟨rfl, us, SqL.of q1⟩, a, us, rfl, rfl, q1, ?_⟩
  have hm : MIs K F1 (upd H1 a (.lst [])) a (.lst []) := ⟨_, upd_same, rfl⟩
  exact p.nx r _ σ F1 _ hk (w1.write ea hm) (s1.trans (Stp.write ea)) (EnvOk.mono s1.same e)
end
section
variable {K : PySem.W.Frag} {r : En} {m : Mu} {k : D → Mu → Prop}
/-- xs.pop() -/
theorem e_pop {ta : TE} (h : wE K ta r m fun x m1 => ∃ a xs d, x = .ref a ∧ m1 a = some (.lst (xs ++ [d])) ∧ k d (updM m1 a (.lst xs))) : wE K (tBM0 K "list" rPop ta) r m k := fun σ F H Q w e p => by
  refine h σ F H _ w e fun x m1 v F1 H1 h1 w1 s1 i1 => ?_
  obtain ⟨a, xs, d, rfl, ea, hk⟩ := h1
  obtain rfl : v = .ref a := i1
  obtain ⟨_, us, q1, q2⟩ := w1.st a _ ea
  have hl := q2.len
  rw [List.length_append, List.length_singleton] at hl
  obtain ⟨v, hv, iv⟩ := q2.get' (i := xs.length) (d := d) (by simp)
  refine ⟨.inl ⟨rfl, us, SqL.of q1⟩, a, us, v, rfl, rfl, q1, by rw [← hl]; exact hv, ?_⟩
  have e3 : us.dropLast = us.take xs.length := by rw [List.dropLast_eq_take, ← hl]; rfl
  have i4 := IsL.take xs.length q2
  rw [List.take_left] at i4
  have hm : MIs K F1 (upd H1 a (.lst us.dropLast)) a (.lst xs) := ⟨_, upd_same, by rw [e3]; exact i4⟩
  exact p d _ v F1 _ hk (w1.write ea hm) (s1.trans (Stp.write ea)) iv
end
end DL
end

section
set_option Elab.async false
set_option linter.all false
set_option maxRecDepth 100000
set_option maxHeartbeats 2000000
namespace DL
open PySem PySem.Spec PyProof.Rows L2
section
variable {K : PySem.W.Frag} {r : En} {m : Mu} {k : D → Mu → Prop} {F0 : Hp}
theorem walks_enumL {a : Addr} {vs : List V} {xs : List D} (h : SqL K F0 a vs) (hi : IsL K F0 xs vs) : Walks K (Ite K a) (EN.enumD xs) F0 := fun i F H m s w => by
  have hq : SqL K H a vs := (s.trans w.same).seq h
  have hl := hi.len
  rw [EN.enumD_len]
  refine ⟨fun hlt => ⟨⟨vs, vs[i]'(by omega), hq, List.getElem?_eq_getElem (by omega)⟩, fun v H' y => ?_⟩, fun hle => ⟨vs, hq, by omega⟩⟩
  obtain ⟨T, x, rfl, hT, rfl, f1⟩ := y
  refine ⟨upd F T (.tup [.int (i : Nat), x]), w.newF hT, Stp.newF w hT, fun d hd => ?_⟩
  obtain ⟨dx, e1, rfl⟩ := EN.enumD_get hd
  obtain ⟨d1, g1, g2⟩ := hi.get (f1 vs hq)
  rw [e1] at g1; cases g1
  have sm := (Stp.newF (u := .tup [.int (i : Nat), x]) w hT).same
  exact ⟨T, _, rfl, SqT.of upd_same, _, _, rfl, rfl, x, [], rfl, Is.mono (s.trans sm) _ _ g2, rfl⟩
/-- enumerate of a list -/
theorem i_enumL {ki : List D → Mu → Prop} {ta : TA} (h : wA K ta r m fun ds m1 => ∃ xs, ds = [.lst xs] ∧ ki (EN.enumD xs) m1) : wI K (iEnum K ta) r m ki := fun σ F H R w e p => by
  refine h σ F H _ w e fun ds m1 vs F1 H1 h1 w1 s1 i1 => ?_
  obtain ⟨xs, rfl, h1⟩ := h1
  obtain ⟨v, t, rfl, ⟨a, us, rfl, h2, h3⟩, rfl⟩ := i1
  exact ⟨a, us, rfl, w1.same.seq h2, p _ m1 F1 H1 _ h1 w1 s1 (walks_enumL h2 h3)⟩
/-- data that does not lean on the heap -/
def Flat (d : D) : Prop := (∃ b, d = .bl b) ∨ ∃ i, d = .int i
theorem Flat.is {F F' : Hp} {d : D} {v : V} (h : Flat d) (i : Is K F d v) : Is K F' d v := by
  rcases h with ⟨b, rfl⟩ | ⟨j, rfl⟩ <;> exact i
/-- an expression that reads a list that may change, and tells a truth or an int: while it runs, the list is data -/
theorem e_bor {t : TE} {i : Nat} {a : Addr} {xs : List D} (hr : r[i]? = some (some (.ref a))) (hm : m a = some (.lst xs)) (h : wE K t (r.set i (some (.lst xs))) (fun _ => none) fun d _ => Flat d ∧ k d m) : wE K t r m k := fun σ F H Q w e p => by
  obtain ⟨fa, us, g1, g2⟩ := w.st a _ hm
  have sm : Same F (upd F a (.lst us)) := fun b u q => by
    have : b ≠ a := fun z => by rw [z, fa] at q; cases q
    rw [upd_ne this]; exact q
  have w2 : Wd K (upd F a (.lst us)) H (fun _ => none) := by
    refine ⟨fun b u q => ?_, fun b o q => by cases q⟩
    by_cases hb : b = a
    · subst hb; rw [upd_same] at q; rw [← q]; exact g1
    · rw [upd_ne hb] at q; exact w.same b u q
  have e2 : EnvOk K (upd F a (.lst us)) σ (r.set i (some (.lst xs))) := by
    obtain ⟨v0, q1, q2⟩ := e.2 i _ hr
    refine (EnvOk.mono sm e).put i (fun v hv => ?_) ⟨v0, q1⟩
    rw [q1] at hv
    cases hv
    obtain rfl : v0 = .ref a := q2
    exact ⟨a, us, rfl, SqL.of upd_same, IsL.mono sm _ _ g2⟩
  refine h σ _ H _ w2 e2 fun d m2 v F2 H2 h2 w3 s3 i3 => ?_
  have fr : ∀ b u, H b = some u → H2 b = some u := fun b u q => s3.frame b u rfl q
  refine p d m v F H2 h2.2 ⟨fun b u q => fr b u (w.same b u q), fun b o q => ⟨(w.st b o q).1, (w.st b o q).2.mono (Same.refl _) fun u hu => fr b u hu⟩⟩ ⟨Same.refl _, fun b u _ q => fr b u q, fun b q q' => absurd q q', fun b q q' => absurd q q'⟩ (h2.1.is i3)
/-- the same for a test -/
theorem t_bor {t : TT} {kt : Bool → Mu → Prop} {i : Nat} {a : Addr} {xs : List D} (hr : r[i]? = some (some (.ref a))) (hm : m a = some (.lst xs)) (h : wT K t (r.set i (some (.lst xs))) (fun _ => none) fun d _ => kt d m) : wT K t r m kt := fun σ F H Q w e p => by
  obtain ⟨fa, us, g1, g2⟩ := w.st a _ hm
  have sm : Same F (upd F a (.lst us)) := fun b u q => by
    have : b ≠ a := fun z => by rw [z, fa] at q; cases q
    rw [upd_ne this]; exact q
  have w2 : Wd K (upd F a (.lst us)) H (fun _ => none) := by
    refine ⟨fun b u q => ?_, fun b o q => by cases q⟩
    by_cases hb : b = a
    · subst hb; rw [upd_same] at q; rw [← q]; exact g1
    · rw [upd_ne hb] at q; exact w.same b u q
  have e2 : EnvOk K (upd F a (.lst us)) σ (r.set i (some (.lst xs))) := by
    obtain ⟨v0, q1, q2⟩ := e.2 i _ hr
    refine (EnvOk.mono sm e).put i (fun v hv => ?_) ⟨v0, q1⟩
    rw [q1] at hv
    cases hv
    obtain rfl : v0 = .ref a := q2
    exact ⟨a, us, rfl, SqL.of upd_same, IsL.mono sm _ _ g2⟩
  refine h σ _ H _ w2 e2 fun d m2 F2 H2 h2 w3 s3 => ?_
  have fr : ∀ b u, H b = some u → H2 b = some u := fun b u q => s3.frame b u rfl q
  exact p d m F H2 h2 ⟨fun b u q => fr b u (w.same b u q), fun b o q => ⟨(w.st b o q).1, (w.st b o q).2.mono (Same.refl _) fun u hu => fr b u hu⟩⟩ ⟨Same.refl _, fun b u _ q => fr b u q, fun b q q' => absurd q q', fun b q q' => absurd q q'⟩
/-- xs + ys, a list that may change -/
theorem r_catM {xs ys : List D} (hl : xs.length + ys.length ≤ 100000) (q : ∀ b, m b = none → k (.ref b) (updM m b (.lst (xs ++ ys)))) : wR K (rCatS K) (.lst xs) (.lst ys) m k := fun vx vy F H Q w ix iy p => by
  obtain ⟨a, us, rfl, g1, g2⟩ := ix
  obtain ⟨b, vs, rfl, g3, g4⟩ := iy
  refine ⟨a, b, us, vs, rfl, rfl, w.same.seq g1, w.same.seq g3, by rw [← g2.len, ← g4.len, sizeLine_eq]; exact Nat.le_trans hl (by decide), fun c hc => ?_⟩
  exact p (.ref c) _ _ F _ (q c (w.free hc)) (w.newM hc (g2.app g4)) (Stp.newM hc) rfl
end
/-! ### a part of the store is forgotten -/
section
variable {K : PySem.W.Frag} {r : En} {m m2 m' : Mu} {F H F' H' : Hp}
theorem Stp.more (s : Sub m2 m) (t : Stp m2 F H m' F' H') : Stp m F H m' F' H' := by
  have z : ∀ a, m a = none → m2 a = none := fun a h => by
    cases e : m2 a with
    | none => rfl
    | some o => rw [s a o e] at h; cases h
  refine ⟨t.same, fun a u h => t.frame a u (z a h), fun a h h' => t.new a (z a h) h', fun a h h' => ?_⟩
  rcases t.fnew a h h' with q | q
  · exact .inl q
  · exact .inr fun e => q (z a e)
/-- the list that was read for extend is forgotten -/
theorem sub_ext {p b : Addr} {o o' u : MO} (h : updM m p o b = none) : Sub (updM m p o') (updM (updM (updM m p o) b u) p o') := fun a x e => by
  by_cases ha : a = p
  · subst ha; rw [updM_same] at e ⊢; exact e
  · rw [updM_ne ha] at e ⊢
    by_cases hb : a = b
    · subst hb; rw [updM_ne ha, e] at h; cases h
    · rw [updM_ne hb, updM_ne ha]; exact e
theorem wE.drop {t : TE} {k : D → Mu → Prop} (s : Sub m2 m) (h : wE K t r m2 k) : wE K t r m k := fun σ F H Q w e p => h σ F H Q (w.less s) e fun d m' v F' H' a b c i => p d m' v F' H' a b (Stp.more s c) i
theorem wG.drop {g : TG} {x : D} {k : En → Mu → Prop} (s : Sub m2 m) (h : wG K g x r m2 k) : wG K g x r m k := fun v σ F H Q w i e p => h v σ F H Q (w.less s) i e fun r' m' σ' F' H' a b c i' => p r' m' σ' F' H' a b (Stp.more s c) i'
theorem wS.drop {t : TS} {k : KS} (s : Sub m2 m) (h : wS K t r m2 k) : wS K t r m k := fun E σ F H w e p => h E σ F H (w.less s) e
  ⟨fun r' m' σ' F' H' a b c i' => p.nx r' m' σ' F' H' a b (Stp.more s c) i', fun d m' v F' H' a b c i => p.rt d m' v F' H' a b (Stp.more s c) i, fun r' m' σ' F' H' a b c i' => p.bk r' m' σ' F' H' a b (Stp.more s c) i', fun r' m' σ' F' H' a b c i' => p.ct r' m' σ' F' H' a b (Stp.more s c) i'⟩
theorem s_seqI {t u : TS} {k : KS} (J : En → Mu → Prop) (h1 : wS K t r m { k with nx := J }) (h2 : ∀ r1 m1, J r1 m1 → wS K u r1 m1 k) : wS K (tSeq t u) r m k := s_seq (wS.mono h1 (fun d m' z => h2 d m' z) (fun _ _ z => z) (fun _ _ z => z) (fun _ _ z => z))
end
/-! ### == [] and != [] -/
section
variable {X : Cx} {K : PySem.W.Frag} {m : Mu} {k : D → Mu → Prop}
def noR : EqR := fun _ _ _ => False
theorem eqB_no {n : Nat} : EqB X n noR := fun A pins s σ H x y u v r sb I rx ry d => by
  obtain ⟨dx, dy, F, h1, h2, h3, d⟩ := d
  exact d.elim
theorem rc_nil : RcB X 1 (seqR noR) := rcB_seq (n := 0) eqB_no
def nlR : EqR := fun x y r => ∃ xs ys, x = .lst xs ∧ y = .lst ys ∧ EqLs noR xs ys r
theorem rn_nil : RnB X 1 nlR := rnB_list (n := 0) eqB_no
theorem eqls_nil {xs : List D} (h : norL xs = true) : EqLs noR xs [] (xs.isEmpty) := by
  cases xs with
  | nil => exact .nil
  | cons x xs => exact .nr h
theorem r_eqN {xs : List D} (h : norL xs = true) (q : k (.bl xs.isEmpty) m) : wR K (rEqB K (seqR noR)) (.lst xs) (.lst []) m k := r_eqB (r := xs.isEmpty) ⟨xs, [], .inl ⟨rfl, rfl⟩, eqls_nil h⟩ q
theorem r_neN {xs : List D} (h : norL xs = true) (q : k (.bl (!xs.isEmpty)) m) : wR K (rNeB K nlR) (.lst xs) (.lst []) m k := r_neB (r := xs.isEmpty) ⟨xs, [], rfl, rfl, eqls_nil h⟩ q
theorem norL_mem : ∀ {xs : List D}, (∀ x ∈ xs, nor x = true) → norL xs = true
  | [], _ => rfl
  | x :: xs, h => by
    have h1 := h x (by simp)
    have h2 : norL xs = true := norL_mem fun y hy => h y (List.mem_cons_of_mem _ hy)
    show (nor x && norL xs) = true
    rw [h1, h2]; rfl
theorem mt_popN : MtR X "list.pop" rPop := mt_pop
theorem mt_clrN : MtR X "list.clear" rClear := mt_clear
theorem sl_tupAK (hK : X.K = K) : SlR X (rSlA K) := by subst hK; exact sl_tupA
theorem op_catAK (hK : X.K = K := by rfl) : OpR X (binaryOp .Add) (rCatA K) := by subst hK; exact op_catA
theorem cr_maxN {X : Cx} (hc : X.calm = true) : CallR X (.builtin "max") (rMax X.K) := cr_max hc
end
end DL
end

section
set_option Elab.async false
set_option linter.all false
set_option maxRecDepth 100000
set_option maxHeartbeats 4000000
namespace LW
open PySem PySem.Spec PyProof.Rows L2 DL
/-! ### ints of any size -/
def CDivZ (_ j : Int) : Prop := j ≠ 0 ∧ j.natAbs.log2 < 9000
theorem op_fdivZ {X : Cx} : OpR X (binaryOp .FloorDiv) (rI CDivZ fun i j => .int (i.fdiv j)) := opI fun i j _ _ _ _ _ hc q => floordiv_int hc.1 q (.inl (PyProof.noPylong_of_log2 hc.2))
theorem log2_lt {n b : Nat} (h : n < 2 ^ b) (hb : 0 < b) : n.log2 < b := PySem.Flt.log2_lt_of hb h
/-- a def with its promise by data, and how it is bound -/
structure Fn (P : Program) (w : World) (K : PySem.W.Frag) (mg : Str → Option Value) (base : Heap) (k : Nat) (f : Addr) (ps : List Str) (S : SpD) : Prop where
  ok : ∃ fd, FnOk P w K mg base CX0 k f fd ps (spOf K S) ∧ Binds K fd ps []
  kp : PySem.W.keepIn K (.ref f) = true
section
variable {P : Program} {w : World} {K : PySem.W.Frag} {mg : Str → Option Value} {base : Heap}
theorem fn_of1 {x qual : Str} {params : Arguments} {body : List Stmt} {scope : Scope} {kws : List (Str × V)} {f : Addr} {N ps : List Str} {kk : Nat} {S : SpD}
    (hF : ∃ fd, FunD K x qual params body scope [] kws f fd) (Sc : FnScope N ps scope) (hl : ∀ ds m k, S ds m k → ds.length = ps.length)
    (hbi : ∀ (kV doc pm : Value) (an : Option Addr) (cdv ct : Value) (us : List Value), us.length = ps.length → bindArgs (PySem.W.fnOf x qual params body scope .none kV doc pm an cdv ct) ⟨us, []⟩ = pure (ps.zip us))
    (hb : ∀ (cdv : Value) (A : Around) (outer : List Env) (s : Shared) (H : Hp) (E : XK), Room kk (A.deeper (envOfC qual scope s.heap.objs.size f cdv)) →
      ∃ t, PSs (cxOf CX0 P w K mg base N qual scope f cdv A outer s H E).nox body t ∧ ∀ ds m k, S ds m k → wS K t (startD N ds) m { nx := fun _ m' => k .non m', rt := k }) :
    Fn P w K mg base (kk + 1) f ps S := by
  obtain ⟨fd, F⟩ := hF
  exact ⟨⟨fd, ok_of F Sc hl hb, F.bindsN hbi⟩, F.kp⟩
/-! ### common_divisor -/
def S_gcd : SpD := fun ds m k => ∃ a b : Int, ds = [.int a, .int b] ∧ k (.int (Int.gcd a b)) m
theorem sc_gcd : FnScope ["one", "other"] ["one", "other"] (defScope s_common_divisor) := ⟨rfl, rfl, rfl, by decide +kernel, rfl, by decide +kernel, by decide +kernel⟩
theorem fmod_def' (a b : Int) : a.fmod b = a - b * a.fdiv b := by
  have := Int.mul_fdiv_add_fmod a b
  omega
theorem gcd_step (a b : Int) (h : b ≠ 0) : Int.gcd b (a.fmod b) = Int.gcd a b := by
  rw [fmod_def', Int.gcd_comm a b]
  have e : a - b * a.fdiv b = a + b * (-(a.fdiv b)) := by rw [Int.mul_neg]; omega
  rw [e, Int.gcd_add_mul_left_right]
theorem fmod_lt (a b : Int) (h : b ≠ 0) : (a.fmod b).natAbs < b.natAbs := by
  rcases Int.lt_or_gt_of_ne h with hb | hb
  · have e := Int.neg_fmod_neg a b
    have h1 := Int.fmod_nonneg_of_pos (-a) (b := -b) (by omega)
    have h2 := Int.fmod_lt_of_pos (-a) (b := -b) (by omega)
    omega
  · have h1 := Int.fmod_nonneg_of_pos a hb
    have h2 := Int.fmod_lt_of_pos a hb
    omega
theorem fn_gcd (T : Txt K mg) : Fn P w K mg base 1 (He.ga K "common_divisor") ["one", "other"] S_gcd := by
  refine fn_of1 (kk := 0) T.F_common_divisor sc_gcd (fun ds m k h => by obtain ⟨a, b, rfl, _⟩ := h; rfl) (fun _ _ _ _ _ _ us hl => match us, hl with | [_, _], _ => rfl) ?_
  intro cdv A outer s H E hr
  refine ⟨_, pss_cons (ps_while PassesOwn.never (pt_cmpR op_ne (pv 1) pe_int (nomark _)) (pss_one (ps_par (i := 0) (j := 1) rfl sc_gcd.nd rfl rfl (by decide) rfl rfl (pa_cons (pv 1) (pa_cons (pe_op op_modN (pv 0) (pv 1)) pa_nil)) (by rfl))))
    (pss_one (ps_ret (pe_callB call_abs rfl T.n_abs (by decide +kernel) (pa_cons (pv 0) pa_nil)))), ?_⟩
  intro ds m k hS
  obtain ⟨a, b, rfl, hk⟩ := hS
  try dsimp only [cxOf, Cx.nox, Cx.wish]
  refine s_seq (s_while (fun n r' m' => m' = m ∧ ∃ x y : Int, r' = [some (.int x), some (.int y)] ∧ n = y.natAbs ∧ Int.gcd x y = Int.gcd a b) b.natAbs ⟨rfl, a, b, rfl, rfl, rfl⟩ ?_)
  rintro n r' m' ⟨rfl, x, y, rfl, rfl, hg⟩
  refine t_test (e_op (e_var rfl (e_int (rne ⟨_, rfl, ?_⟩))))
  by_cases hy : y = 0
  · subst hy
    refine s_ret (e_cb (a_cons (e_var rfl (a_nil (c_abs ?_)))))
    show k (.int _) m'
    rw [Int.gcd_zero_right] at hg
    rw [show (if x < 0 then -x else x) = (Int.gcd a b : Int) by rw [← hg]; split <;> omega]
    exact hk
  · rw [decide_eq_false hy]
    refine s_par (a_cons (e_var rfl (a_cons (e_op (e_var rfl (e_var rfl (ri hy (a_nil ⟨_, _, rfl, ?_⟩))))))))
    exact ⟨(x.fmod y).natAbs, fmod_lt x y hy, rfl, y, x.fmod y, rfl, rfl, (gcd_step x y hy).trans hg⟩
end
end LW
end

section
set_option Elab.async false
set_option linter.all false
set_option maxRecDepth 100000
set_option maxHeartbeats 4000000
namespace LW
open PySem PySem.Spec PyProof.Rows L2 DL MA
/-! ### steps over data -/
local macro_rules | `(tactic| walk_at "d1") => `(tactic| first
  | (with_reducible refine s_seq ?_) | (with_reducible refine s_set ?_) | (with_reducible refine s_ret ?_) | (with_reducible refine s_if ?_) | (with_reducible refine s_fld ?_) | (with_reducible refine s_next ?_) | (with_reducible refine s_par ?_)
  | (with_reducible refine e_var rfl ?_) | (with_reducible refine e_int ?_) | (with_reducible refine e_bl ?_) | (with_reducible refine e_non ?_) | (with_reducible refine e_str ?_) | (with_reducible refine e_ty ?_) | (with_reducible refine e_ref ?_)
  | (with_reducible refine e_op ?_) | (with_reducible refine e_un ?_) | (with_reducible refine e_cb ?_) | (with_reducible refine e_if ?_) | (with_reducible refine e_andV ?_) | (with_reducible refine e_orV ?_) | (with_reducible refine e_notV ?_) | (with_reducible refine e_fld ?_)
  | (with_reducible refine e_call0 ?_) | (with_reducible refine e_meth0 ?_) | (with_reducible refine e_make (dds := []) nilD ?_) | (with_reducible refine e_stat0 ?_)
  | (with_reducible refine a_nil ?_) | (with_reducible refine a_cons ?_) | (with_reducible refine e_lst ?_) | (with_reducible refine e_tup ?_)
  | (with_reducible refine t_test ?_) | (with_reducible refine t_B ?_) | (with_reducible refine t_and ?_) | (with_reducible refine t_or ?_) | (with_reducible refine t_not ?_)
  | (with_reducible refine ri0 ?_) | (with_reducible refine rb0 ?_) | (with_reducible refine req ?_) | (with_reducible refine rne ?_) | (with_reducible refine reqb ?_) | (with_reducible refine ui ?_)
  | (with_reducible refine c_abs ?_) | (with_reducible refine c_int1 ?_) | (with_reducible refine c_bool1 ?_)
  | (with_reducible refine Exists.intro _ (And.intro rfl ?_)))
local macro_rules | `(tactic| walk_at "d") => `(tactic| repeat (walk_at "d1"; try dsimp only))
section
variable {P : Program} {w : World} {K : PySem.W.Frag} {mg : Str → Option Value} {base : Heap}
/-! ### shares -/
abbrev CS (K : PySem.W.Frag) : Addr := He.ga K "Share"
abbrev shF (q : Rat) : List (Str × D) := [("top", .int q.num), ("bottom", .int (q.den : Int))]
abbrev shD (K : PySem.W.Frag) (q : Rat) : D := .ins (CS K) (shF q)
theorem sc_Share_init : FnScope ["self", "top", "bottom", "part"] ["self", "top", "bottom"] (defScope s_Share_init) := ⟨rfl, rfl, rfl, by decide +kernel, rfl, by decide +kernel, by decide +kernel⟩
def S_Share_init (K : PySem.W.Frag) : SpD := fun ds m k => ∃ a t b, ds = [.ref a, .int t, .int b] ∧ m a = some (.ins (CS K) []) ∧ b ≠ 0 ∧ b.natAbs < 2 ^ 8999 ∧ k .non (updM m a (.ins (CS K) (shF (Rat.divInt t b))))
theorem ok_Share_init (T : Txt K mg) (O : Fn P w K mg base 1 (He.ga K "common_divisor") ["one", "other"] S_gcd) : ∃ fd, FnOk P w K mg base CX0 2 (He.ma K (CS K) "__init__") fd ["self", "top", "bottom"] (spOf K (S_Share_init K)) ∧ Binds K fd ["self", "top", "bottom"] [] ∧ ∃ ds, Vals [.int 1] ds ∧ Binds K fd ["self", "top", "bottom"] ds := by
  obtain ⟨⟨_, G_common_divisor, b_common_divisor⟩, k_common_divisor⟩ := O
  obtain ⟨fd, F⟩ := T.F_Share_init
  refine ⟨fd, ok_of (kk := 1) F sc_Share_init (fun ds m k h => by obtain ⟨a, t, b, rfl, _⟩ := h; rfl) ?_, ?_, ?_⟩
  · intro cdv A outer s H E hr
    refine ⟨_, (pss_cons (ps_if (pt_cmpR op_eq (pv 2) pe_int (nomark _)) (pss_one ps_never) pss_nil)
      (pss_cons (ps_set (i := 3) sc_Share_init.nd rfl (.inl rfl) (pe_call G_common_divisor (hr.mono (by decide)) rfl T.g_common_divisor k_common_divisor b_common_divisor .nil pass0 (pa_cons (pv 1) (pa_cons (pv 2) pa_nil))))
      (pss_cons (ps_if (pt_cmpR op_lt (pv 2) pe_int (nomark _)) (pss_one (ps_set (i := 3) sc_Share_init.nd rfl (.inl rfl) (pe_un un_neg (pv 3)))) pss_nil)
      (pss_cons (ps_fld (pv 0) (pe_op op_fdivZ (pv 1) (pv 3)) rfl)
      (pss_one (ps_fld (pv 0) (pe_op op_fdivZ (pv 2) (pv 3)) rfl)))))), ?_⟩
    intro ds m k hS
    obtain ⟨a, t, b, rfl, hm, hb, hz, hk⟩ := hS
    try dsimp only [cxOf, Cx.nox, Cx.wish]
    walk_at "d"
    rw [if_neg (by simpa using hb)]
    walk_at "d"
    refine ⟨t, b, rfl, ?_⟩
    walk_at "d"
    have hp := part_le t b hb
    have hpz : CDivZ t (if b < 0 then -((Int.gcd t b : Nat) : Int) else ((Int.gcd t b : Nat) : Int)) := ⟨hp.2, log2_lt (Nat.lt_of_le_of_lt hp.1 (Nat.lt_trans hz (Nat.pow_lt_pow_right (by decide) (by decide)))) (by decide)⟩
    have e1 := share_num t b hb
    have e2 := share_den t b hb
    by_cases hneg : b < 0
    · rw [if_pos hneg] at hpz e1 e2
      rw [if_pos (by simpa using hneg)]
      walk_at "d"
      refine ri hpz ?_
      walk_at "d"
      refine ⟨a, CS K, [], rfl, hm, T.c_Share, T.a_Share_top, by decide, ?_⟩
      walk_at "d"
      refine ri hpz ?_
      walk_at "d"
      refine ⟨a, CS K, _, rfl, updM_same, T.c_Share, T.a_Share_bottom, (by show 1 < 1000; decide), ?_⟩
      rw [updM_updM, e1, e2]
      exact hk
    · rw [if_neg hneg] at hpz e1 e2
      rw [if_neg (by simpa using hneg)]
      walk_at "d"
      refine ri hpz ?_
      walk_at "d"
      refine ⟨a, CS K, [], rfl, hm, T.c_Share, T.a_Share_top, by decide, ?_⟩
      walk_at "d"
      refine ri hpz ?_
      walk_at "d"
      refine ⟨a, CS K, _, rfl, updM_same, T.c_Share, T.a_Share_bottom, (by show 1 < 1000; decide), ?_⟩
      rw [updM_updM, e1, e2]
      exact hk
  · obtain ⟨ds, hv, hb⟩ := F.binds1 (ps := ["self", "top", "bottom"]) 3 1 (by simp) rfl fun Tt kV doc pm an cdv ct us its h1 h2 => match us, its, h1, h2 with | [_, _, _], [_], _, _ => ⟨_, rfl, rfl⟩
    cases hv
    exact hb
  · exact F.binds1 (ps := ["self", "top", "bottom"]) 2 0 (by simp) rfl fun Tt kV doc pm an cdv ct us its h1 h2 => match us, its, h1, h2 with | [_, _], [_], _, _ => ⟨_, rfl, rfl⟩
/-! ### what is a number -/
structure TyA (K : PySem.W.Frag) (t : Value) (i n : Bool) : Prop where
  ki : ∃ a b, PySem.W.kitOne K t (.type "int") = some a ∧ PySem.W.kitOne K t (.type "bool") = some b ∧ (a && !b) = i
  ks : ∃ c, PySem.W.kitOne K t (.ref (CS K)) = some c ∧ (i || c) = n
theorem tya_int (T : Txt K mg) : TyA K (.type "int") true true := ⟨⟨true, false, kit_ty (by decide +kernel), kit_ty (by decide +kernel), rfl⟩, ⟨false, T.kt_int_Share, rfl⟩⟩
theorem tya_bool (T : Txt K mg) : TyA K (.type "bool") false false := ⟨⟨true, true, kit_ty (by decide +kernel), kit_ty (by decide +kernel), rfl⟩, ⟨false, T.kt_bool_Share, rfl⟩⟩
theorem tya_str (T : Txt K mg) : TyA K (.type "str") false false := ⟨⟨false, false, kit_ty (by decide +kernel), kit_ty (by decide +kernel), rfl⟩, ⟨false, T.kt_str_Share, rfl⟩⟩
theorem tya_none (T : Txt K mg) : TyA K (.type "NoneType") false false := ⟨⟨false, false, kit_ty (by decide +kernel), kit_ty (by decide +kernel), rfl⟩, ⟨false, T.kt_NoneType_Share, rfl⟩⟩
theorem tya_list (T : Txt K mg) : TyA K (.type "list") false false := ⟨⟨false, false, kit_ty (by decide +kernel), kit_ty (by decide +kernel), rfl⟩, ⟨false, T.kt_list_Share, rfl⟩⟩
theorem tya_tuple (T : Txt K mg) : TyA K (.type "tuple") false false := ⟨⟨false, false, kit_ty (by decide +kernel), kit_ty (by decide +kernel), rfl⟩, ⟨false, T.kt_tuple_Share, rfl⟩⟩
theorem tya_dict (T : Txt K mg) : TyA K (.type "dict") false false := ⟨⟨false, false, kit_ty (by decide +kernel), kit_ty (by decide +kernel), rfl⟩, ⟨false, T.kt_dict_Share, rfl⟩⟩
theorem tya_Share (T : Txt K mg) : TyA K (.ref (CS K)) false true := ⟨⟨false, false, T.kb_Share_int, T.kb_Share_bool, rfl⟩, ⟨true, T.kk_Share_Share, rfl⟩⟩
theorem sc_is_integer : FnScope ["thing"] ["thing"] (defScope s_is_integer) := ⟨rfl, rfl, rfl, by decide +kernel, rfl, by decide +kernel, by decide +kernel⟩
def S_is_integer (K : PySem.W.Frag) : SpD := fun ds m k => ∃ d t i n, ds = [d] ∧ TI2 K m d t ∧ TyA K t i n ∧ k (.bl i) m
theorem fn_is_integer (T : Txt K mg) : Fn P w K mg base 1 (He.ga K "is_integer") ["thing"] (S_is_integer K) := by
  refine fn_of1 (kk := 0) T.F_is_integer sc_is_integer (fun ds m k h => by obtain ⟨d, t, i, n, rfl, _⟩ := h; rfl) (fun _ _ _ _ _ _ us hl => match us, hl with | [_], _ => rfl) ?_
  intro cdv A outer s H E hr
  refine ⟨_, (pss_one (ps_ret (pe_and (pe_callB call_isi rfl T.n_isinstance (by decide +kernel) (pa_cons (pv 0) (pa_cons (pe_bltn (v := .ty "int") rfl T.n_int (by decide +kernel) rfl) pa_nil))) (pe_one (pe_not (pe_callB call_isi rfl T.n_isinstance (by decide +kernel) (pa_cons (pv 0) (pa_cons (pe_bltn (v := .ty "bool") rfl T.n_bool (by decide +kernel) rfl) pa_nil)))))))), ?_⟩
  intro ds m k hS
  obtain ⟨d, t, i, n, rfl, ht, ⟨⟨a, b, h1, h2, rfl⟩, _⟩, hk⟩ := hS
  try dsimp only [cxOf, Cx.nox, Cx.wish]
  walk_at "d"
  refine c_isi (.inl ⟨_, rfl, rfl⟩) ht h1 ?_
  walk_at "d"
  cases a with
  | false => exact hk
  | true =>
    rw [if_pos rfl]
    walk_at "d"
    refine c_isi (.inl ⟨_, rfl, rfl⟩) ht h2 ?_
    walk_at "d"
    exact hk
theorem sc_is_number : FnScope ["thing"] ["thing"] (defScope s_is_number) := ⟨rfl, rfl, rfl, by decide +kernel, rfl, by decide +kernel, by decide +kernel⟩
def S_is_number (K : PySem.W.Frag) : SpD := fun ds m k => ∃ d t i n, ds = [d] ∧ TI2 K m d t ∧ TyA K t i n ∧ k (.bl n) m
theorem fn_is_number (T : Txt K mg) (O : Fn P w K mg base 1 (He.ga K "is_integer") ["thing"] (S_is_integer K)) : Fn P w K mg base 2 (He.ga K "is_number") ["thing"] (S_is_number K) := by
  obtain ⟨⟨_, G_is_integer, b_is_integer⟩, k_is_integer⟩ := O
  refine fn_of1 (kk := 1) T.F_is_number sc_is_number (fun ds m k h => by obtain ⟨d, t, i, n, rfl, _⟩ := h; rfl) (fun _ _ _ _ _ _ us hl => match us, hl with | [_], _ => rfl) ?_
  intro cdv A outer s H E hr
  refine ⟨_, (pss_one (ps_ret (pe_or (pe_call G_is_integer (hr.mono (by decide)) rfl T.g_is_integer k_is_integer b_is_integer .nil pass0 (pa_cons (pv 0) pa_nil)) (pe_one (pe_callB call_isi rfl T.n_isinstance (by decide +kernel) (pa_cons (pv 0) (pa_cons (pe_glob (v := .ref _) rfl T.g_Share rfl) pa_nil))))))), ?_⟩
  intro ds m k hS
  obtain ⟨d, t, i, n, rfl, ht, hT, hk⟩ := hS
  try dsimp only [cxOf, Cx.nox, Cx.wish]
  walk_at "d"
  refine ⟨d, t, i, n, rfl, ht, hT, ?_⟩
  walk_at "d"
  obtain ⟨_, c, h3, rfl⟩ := hT
  cases i with
  | true => exact hk
  | false =>
    rw [if_neg (by decide)]
    walk_at "d"
    refine c_isi (.inr ⟨_, rfl, rfl⟩) ht h3 ?_
    walk_at "d"
    exact hk
/-! ### numbers as shares -/
inductive Num (K : PySem.W.Frag) : D → Rat → Prop where
  | int (i : Int) : Num K (.int i) (i : Rat)
  | sh (q : Rat) : Num K (shD K q) q
theorem Num.ti (T : Txt K mg) {d : D} {q : Rat} (h : Num K d q) (m : Mu) : ∃ t i, TI2 K m d t ∧ TyA K t i true := by
  cases h with
  | int i => exact ⟨_, _, .int i, tya_int T⟩
  | sh q => exact ⟨_, _, .ins (.inl rfl) T.i_Share, tya_Share T⟩
/-- Share(..) by data -/
def PoolShare (P : Program) (w : World) (K : PySem.W.Frag) (mg : Str → Option Value) (base : Heap) : Prop := ∃ fd, FnOk P w K mg base CX0 2 (He.ma K (CS K) "__init__") fd ["self", "top", "bottom"] (spOf K (S_Share_init K)) ∧ Binds K fd ["self", "top", "bottom"] [] ∧ ∃ ds, Vals [.int 1] ds ∧ Binds K fd ["self", "top", "bottom"] ds
theorem e_Share2 {r : En} {m : Mu} {k : D → Mu → Prop} {ta tb : TE} {E : XK} (h : wE K ta r m fun x m1 => wE K tb r m1 fun y m2 => ∃ t b, x = .int t ∧ y = .int b ∧ b ≠ 0 ∧ b.natAbs < 2 ^ 8999 ∧ k (shD K (Rat.divInt t b)) m2) :
    wE K (tMake (CS K) (spOf K (S_Share_init K)) [] E (tCons ta (tCons tb tNil))) r m k := by
  refine e_make (dds := []) nilD (a_cons (h.mono fun x m1 h1 => a_cons (h1.mono fun y m2 h2 => a_nil ?_)))
  obtain ⟨t, b, rfl, rfl, hb, hz, hk⟩ := h2
  intro a ha
  refine ⟨a, t, b, rfl, updM_same, hb, hz, rfl, .inl ⟨shF (Rat.divInt t b), m2, updM_same, ?_, hk⟩⟩
  rw [updM_updM, del_upd ha]
  exact Sub.refl
theorem divInt_one (t : Int) : Rat.divInt t 1 = (t : Rat) := by
  rw [show (1 : Int) = ((1 : Nat) : Int) from rfl, Rat.divInt_ofNat, Rat.mkRat_one]
theorem e_Share1 {r : En} {m : Mu} {k : D → Mu → Prop} {ta : TE} {E : XK} (h : wE K ta r m fun x m1 => ∃ t : Int, x = .int t ∧ k (shD K (t : Rat)) m1) :
    wE K (tMake (CS K) (spOf K (S_Share_init K)) [.int 1] E (tCons ta tNil)) r m k := by
  refine e_make (dds := [.int 1]) (fun F => ⟨.int 1, [], rfl, rfl, rfl⟩) (a_cons (h.mono fun x m1 h1 => a_nil ?_))
  obtain ⟨t, rfl, hk⟩ := h1
  intro a ha
  refine ⟨a, t, 1, rfl, updM_same, by decide, Nat.one_lt_two_pow (by decide), rfl, .inl ⟨shF (Rat.divInt t 1), m1, updM_same, ?_, by rw [divInt_one]; exact hk⟩⟩
  rw [updM_updM, del_upd ha]
  exact Sub.refl
theorem sc_as_share : FnScope ["number"] ["number"] (defScope s_as_share) := ⟨rfl, rfl, rfl, by decide +kernel, rfl, by decide +kernel, by decide +kernel⟩
def S_as_share (K : PySem.W.Frag) : SpD := fun ds m k => ∃ d q, ds = [d] ∧ Num K d q ∧ k (shD K q) m
theorem fn_as_share (T : Txt K mg) (O : PoolShare P w K mg base) : Fn P w K mg base 4 (He.ga K "as_share") ["number"] (S_as_share K) := by
  obtain ⟨_, G_Share_init, b_Share_init, _, v1_Share_init, b1_Share_init⟩ := O
  refine fn_of1 (kk := 3) T.F_as_share sc_as_share (fun ds m k h => by obtain ⟨d, q, rfl, _⟩ := h; rfl) (fun _ _ _ _ _ _ us hl => match us, hl with | [_], _ => rfl) ?_
  intro cdv A outer s H E hr
  refine ⟨_, (pss_cons (ps_if (pt_val (pe_callB call_isi rfl T.n_isinstance (by decide +kernel) (pa_cons (pv 0) (pa_cons (pe_glob (v := .ref _) rfl T.g_Share rfl) pa_nil)))) (pss_one (ps_ret (pv 0))) pss_nil)
      (pss_one (ps_ret (pe_make T.k_Share G_Share_init (hr.mono (by decide)) rfl T.g_Share b1_Share_init v1_Share_init pass0 (pa_cons (pv 0) pa_nil))))), ?_⟩
  intro ds m k hS
  obtain ⟨d, q, rfl, hn, hk⟩ := hS
  try dsimp only [cxOf, Cx.nox, Cx.wish]
  walk_at "d"
  cases hn with
  | int i =>
    refine c_isi (.inr ⟨_, rfl, rfl⟩) (.int i) T.kt_int_Share ?_
    walk_at "d"
    rw [if_neg (by decide)]
    walk_at "d"
    refine e_Share1 ?_
    walk_at "d"
    exact hk
  | sh q =>
    refine c_isi (.inr ⟨_, rfl, rfl⟩) (.ins (.inl rfl) T.i_Share) T.kk_Share_Share ?_
    walk_at "d"
    rw [if_pos rfl]
    walk_at "d"
    exact hk
/-! ### the methods of shares -/
theorem fld_top (T : Txt K mg) {r : En} {m : Mu} {k : D → Mu → Prop} {ta : TE} (h : wE K ta r m fun x m1 => ∃ q, x = shD K q ∧ k (.int q.num) m1) : wE K (tFld K ta "top") r m k :=
  e_fld (h.mono fun x m1 ⟨q, e, hk⟩ => ⟨CS K, shF q, _, .inl e, T.c_Share, T.a_Share_top, rfl, hk⟩)
theorem fld_bottom (T : Txt K mg) {r : En} {m : Mu} {k : D → Mu → Prop} {ta : TE} (h : wE K ta r m fun x m1 => ∃ q, x = shD K q ∧ k (.int (q.den : Int)) m1) : wE K (tFld K ta "bottom") r m k :=
  e_fld (h.mono fun x m1 ⟨q, e, hk⟩ => ⟨CS K, shF q, _, .inl e, T.c_Share, T.a_Share_bottom, rfl, hk⟩)
theorem isnum_num (T : Txt K mg) {m : Mu} {k : D → Mu → Prop} {d : D} {q : Rat} (hn : Num K d q) (hk : k (.bl true) m) : S_is_number K [d] m k := by
  obtain ⟨t, i, h1, h2⟩ := hn.ti T m
  exact ⟨d, t, i, true, rfl, h1, h2, hk⟩
theorem assh_num {m : Mu} {k : D → Mu → Prop} {d : D} {q : Rat} (hn : Num K d q) (hk : k (shD K q) m) : S_as_share K [d] m k := ⟨d, q, rfl, hn, hk⟩
local macro_rules | `(tactic| walk_at "d1") => `(tactic| first
  | (with_reducible refine fld_top (by assumption) ?_) | (with_reducible refine fld_bottom (by assumption) ?_)
  | (with_reducible refine isnum_num (by assumption) (by assumption) ?_) | (with_reducible refine assh_num (by assumption) ?_) | (with_reducible refine isnum_num (by assumption) (Num.sh _) ?_) | (with_reducible refine assh_num (Num.sh _) ?_) | (with_reducible refine isnum_num (by assumption) (Num.int _) ?_) | (with_reducible refine assh_num (Num.int _) ?_)
  | (with_reducible refine e_Share1 ?_) | (with_reducible refine e_Share2 ?_))
structure Two (K : PySem.W.Frag) (d : D) (q p : Rat) : Prop where
  num : Num K d p
  sz : ∃ B C, Sz B q ∧ Sz C p ∧ B + C ≤ 8998
theorem Two.m1 {d : D} {q p : Rat} (h : Two K d q p) : CMulW q.num (p.den : Int) := by
  obtain ⟨B, C, h1, h2, h3⟩ := h.sz
  exact wide_mul (a := B + 1) (b := C + 1) (Nat.lt_trans h1.n (Nat.pow_lt_pow_right (by decide) (by omega))) (Nat.lt_trans h2.dn (Nat.pow_lt_pow_right (by decide) (by omega))) (by omega) (by omega) (by omega)
theorem Two.m2 {d : D} {q p : Rat} (h : Two K d q p) : CMulW p.num (q.den : Int) := by
  obtain ⟨B, C, h1, h2, h3⟩ := h.sz
  exact wide_mul (a := C + 1) (b := B + 1) (Nat.lt_trans h2.n (Nat.pow_lt_pow_right (by decide) (by omega))) (Nat.lt_trans h1.dn (Nat.pow_lt_pow_right (by decide) (by omega))) (by omega) (by omega) (by omega)
theorem Two.m3 {d : D} {q p : Rat} (h : Two K d q p) : CMulW (q.den : Int) (p.den : Int) := by
  obtain ⟨B, C, h1, h2, h3⟩ := h.sz
  exact wide_mul (a := B + 1) (b := C + 1) (Nat.lt_trans h1.dn (Nat.pow_lt_pow_right (by decide) (by omega))) (Nat.lt_trans h2.dn (Nat.pow_lt_pow_right (by decide) (by omega))) (by omega) (by omega) (by omega)
theorem Two.m4 {d : D} {q p : Rat} (h : Two K d q p) : CMulW q.num p.num := by
  obtain ⟨B, C, h1, h2, h3⟩ := h.sz
  exact wide_mul (a := B + 1) (b := C + 1) (Nat.lt_trans h1.n (Nat.pow_lt_pow_right (by decide) (by omega))) (Nat.lt_trans h2.n (Nat.pow_lt_pow_right (by decide) (by omega))) (by omega) (by omega) (by omega)
theorem Two.b {d : D} {q p : Rat} (h : Two K d q p) : ((q.den : Int) * (p.den : Int)) ≠ 0 ∧ ((q.den : Int) * (p.den : Int)).natAbs < 2 ^ 8999 := by
  obtain ⟨B, C, h1, h2, h3⟩ := h.sz
  exact ⟨by have := Int.mul_pos (den_pos' q) (den_pos' p); omega, Nat.lt_trans (mul_lt h1.dn h2.dn) (Nat.pow_lt_pow_right (by decide) (by omega))⟩
def S_bin (K : PySem.W.Frag) (f : Rat → Rat → Rat) : SpD := fun ds m k => ∃ q d p, ds = [shD K q, d] ∧ Two K d q p ∧ k (shD K (f q p)) m
def S_una (K : PySem.W.Frag) (f : Rat → Rat) : SpD := fun ds m k => ∃ q, ds = [shD K q] ∧ q.den < 2 ^ 8998 ∧ k (shD K (f q)) m
def S_cmp (K : PySem.W.Frag) (f : Rat → Rat → Bool) : SpD := fun ds m k => ∃ q d p, ds = [shD K q, d] ∧ Two K d q p ∧ k (.bl (f q p)) m
theorem S_bin_len {f : Rat → Rat → Rat} : ∀ ds m k, S_bin K f ds m k → ds.length = 2 := fun ds m k h => by obtain ⟨q, d, p, rfl, _⟩ := h; rfl
theorem S_cmp_len {f : Rat → Rat → Bool} : ∀ ds m k, S_cmp K f ds m k → ds.length = 2 := fun ds m k h => by obtain ⟨q, d, p, rfl, _⟩ := h; rfl
theorem S_una_len {f : Rat → Rat} : ∀ ds m k, S_una K f ds m k → ds.length = 1 := fun ds m k h => by obtain ⟨q, rfl, _⟩ := h; rfl
abbrev mS (K : PySem.W.Frag) (x : Str) : Addr := He.ma K (CS K) x
/-- what the methods of shares lean on -/
structure Sh0 (P : Program) (w : World) (K : PySem.W.Frag) (mg : Str → Option Value) (base : Heap) : Prop where
  isn : Fn P w K mg base 2 (He.ga K "is_number") ["thing"] (S_is_number K)
  ash : Fn P w K mg base 4 (He.ga K "as_share") ["number"] (S_as_share K)
  pool : PoolShare P w K mg base
theorem sc_Share_add : FnScope ["self", "other", "more"] ["self", "other"] (defScope s_Share_add) := ⟨rfl, rfl, rfl, by decide +kernel, rfl, by decide +kernel, by decide +kernel⟩
theorem fn_Share_add (T : Txt K mg) (O : Sh0 P w K mg base) : Fn P w K mg base 5 (mS K "__add__") ["self", "other"] (S_bin K (· + ·)) := by
  obtain ⟨⟨⟨_, G_is_number, b_is_number⟩, k_is_number⟩, ⟨⟨_, G_as_share, b_as_share⟩, k_as_share⟩, _, G_Share_init, b_Share_init, _, v1_Share_init, b1_Share_init⟩ := O
  refine fn_of1 (kk := 4) T.F_Share_add sc_Share_add S_bin_len (fun _ _ _ _ _ _ us hl => match us, hl with | [_, _], _ => rfl) ?_
  intro cdv A outer s H E hr
  refine ⟨_, (pss_cons (ps_if (pt_not (pt_val (pe_call G_is_number (hr.mono (by decide)) rfl T.g_is_number k_is_number b_is_number .nil pass0 (pa_cons (pv 1) pa_nil)))) (pss_one ps_never) pss_nil)
      (pss_cons (ps_set (i := 2) sc_Share_add.nd rfl (.inl rfl) (pe_call G_as_share (hr.mono (by decide)) rfl T.g_as_share k_as_share b_as_share .nil pass0 (pa_cons (pv 1) pa_nil)))
      (pss_one (ps_ret (pe_make T.k_Share G_Share_init (hr.mono (by decide)) rfl T.g_Share b_Share_init .nil pass0 (pa_cons (pe_op op_add (pe_op op_mulW (pe_fld (pv 0) rfl) (pe_fld (pv 2) rfl)) (pe_op op_mulW (pe_fld (pv 2) rfl) (pe_fld (pv 0) rfl))) (pa_cons (pe_op op_mulW (pe_fld (pv 0) rfl) (pe_fld (pv 2) rfl)) pa_nil))))))), ?_⟩
  intro ds m k hS
  obtain ⟨q, d, p, rfl, hT, hk⟩ := hS
  have hn := hT.num
  try dsimp only [cxOf, Cx.nox, Cx.wish]
  walk_at "d"
  rw [if_neg (by decide)]
  walk_at "d"
  refine ri hT.m1 ?_
  walk_at "d"
  refine ri hT.m2 ?_
  walk_at "d"
  refine ri hT.m3 ?_
  refine ⟨_, _, rfl, rfl, hT.b.1, hT.b.2, ?_⟩
  rw [add_eq]
  exact hk
theorem sc_Share_mul : FnScope ["self", "other", "more"] ["self", "other"] (defScope s_Share_mul) := ⟨rfl, rfl, rfl, by decide +kernel, rfl, by decide +kernel, by decide +kernel⟩
theorem fn_Share_mul (T : Txt K mg) (O : Sh0 P w K mg base) : Fn P w K mg base 5 (mS K "__mul__") ["self", "other"] (S_bin K (· * ·)) := by
  obtain ⟨⟨⟨_, G_is_number, b_is_number⟩, k_is_number⟩, ⟨⟨_, G_as_share, b_as_share⟩, k_as_share⟩, _, G_Share_init, b_Share_init, _, v1_Share_init, b1_Share_init⟩ := O
  refine fn_of1 (kk := 4) T.F_Share_mul sc_Share_mul S_bin_len (fun _ _ _ _ _ _ us hl => match us, hl with | [_, _], _ => rfl) ?_
  intro cdv A outer s H E hr
  refine ⟨_, (pss_cons (ps_if (pt_not (pt_val (pe_call G_is_number (hr.mono (by decide)) rfl T.g_is_number k_is_number b_is_number .nil pass0 (pa_cons (pv 1) pa_nil)))) (pss_one ps_never) pss_nil)
      (pss_cons (ps_set (i := 2) sc_Share_mul.nd rfl (.inl rfl) (pe_call G_as_share (hr.mono (by decide)) rfl T.g_as_share k_as_share b_as_share .nil pass0 (pa_cons (pv 1) pa_nil)))
      (pss_one (ps_ret (pe_make T.k_Share G_Share_init (hr.mono (by decide)) rfl T.g_Share b_Share_init .nil pass0 (pa_cons (pe_op op_mulW (pe_fld (pv 0) rfl) (pe_fld (pv 2) rfl)) (pa_cons (pe_op op_mulW (pe_fld (pv 0) rfl) (pe_fld (pv 2) rfl)) pa_nil))))))), ?_⟩
  intro ds m k hS
  obtain ⟨q, d, p, rfl, hT, hk⟩ := hS
  have hn := hT.num
  try dsimp only [cxOf, Cx.nox, Cx.wish]
  walk_at "d"
  rw [if_neg (by decide)]
  walk_at "d"
  refine ri hT.m4 ?_
  walk_at "d"
  refine ri hT.m3 ?_
  refine ⟨_, _, rfl, rfl, hT.b.1, hT.b.2, ?_⟩
  rw [mul_eq]
  exact hk
theorem sc_Share_neg : FnScope ["self"] ["self"] (defScope s_Share_neg) := ⟨rfl, rfl, rfl, by decide +kernel, rfl, by decide +kernel, by decide +kernel⟩
theorem fn_Share_neg (T : Txt K mg) (O : Sh0 P w K mg base) : Fn P w K mg base 5 (mS K "__neg__") ["self"] (S_una K (fun q => -q)) := by
  obtain ⟨⟨⟨_, G_is_number, b_is_number⟩, k_is_number⟩, ⟨⟨_, G_as_share, b_as_share⟩, k_as_share⟩, _, G_Share_init, b_Share_init, _, v1_Share_init, b1_Share_init⟩ := O
  refine fn_of1 (kk := 4) T.F_Share_neg sc_Share_neg S_una_len (fun _ _ _ _ _ _ us hl => match us, hl with | [_], _ => rfl) ?_
  intro cdv A outer s H E hr
  refine ⟨_, (pss_one (ps_ret (pe_make T.k_Share G_Share_init (hr.mono (by decide)) rfl T.g_Share b_Share_init .nil pass0 (pa_cons (pe_un un_neg (pe_fld (pv 0) rfl)) (pa_cons (pe_fld (pv 0) rfl) pa_nil))))), ?_⟩
  intro ds m k hS
  obtain ⟨q, rfl, hz, hk⟩ := hS
  try dsimp only [cxOf, Cx.nox, Cx.wish]
  walk_at "d"
  refine ⟨_, _, rfl, rfl, den_ne q, by rw [Int.natAbs_natCast]; exact Nat.lt_trans hz (Nat.pow_lt_pow_right (by decide) (by decide)), ?_⟩
  rw [neg_eq]
  exact hk
/-! ### operators between numbers, one of them a share -/
theorem opc {nm : String} {m rm : Str} (T : Txt K mg) (h1 : PySem.dunder nm = m) (h2 : dunderR nm = rm) (M : Meth K (CS K) m (mS K m)) (Rm : Meth K (CS K) rm (mS K rm)) : OW.OpC K (CS K) nm (mS K m) (some (.ref (mS K rm))) := by
  subst h1 h2
  exact ⟨T.sf_Share, M.at_, M.fn, Rm.at_, .inr ⟨_, rfl⟩⟩
theorem opc_add (T : Txt K mg) : OW.OpC K (CS K) "add" (mS K "__add__") (some (.ref (mS K "__radd__"))) := opc T rfl rfl T.m_Share_add T.m_Share_radd
theorem opc_sub (T : Txt K mg) : OW.OpC K (CS K) "sub" (mS K "__sub__") (some (.ref (mS K "__rsub__"))) := opc T rfl rfl T.m_Share_sub T.m_Share_rsub
theorem opc_mul (T : Txt K mg) : OW.OpC K (CS K) "mul" (mS K "__mul__") (some (.ref (mS K "__rmul__"))) := opc T rfl rfl T.m_Share_mul T.m_Share_rmul
/-- a share and a number -/
def rSN (K : PySem.W.Frag) (S : SpD) : R2 := fun x y H Q => (∃ a dx fs b dy gs, x = .ref a ∧ y = .ref b ∧ H a = some (.ins (CS K) dx fs) ∧ H b = some (.ins (CS K) dy gs) ∧ spOf K S [x, y] H Q E0) ∨ (∃ a dx fs i, x = .ref a ∧ y = .int i ∧ H a = some (.ins (CS K) dx fs) ∧ spOf K S [x, y] H Q E0)
theorem r_SN {S : SpD} {m : Mu} {k : D → Mu → Prop} {d : D} {q p : Rat} (hn : Num K d p) (h : S [shD K q, d] m k) : wR K (rSN K S) (shD K q) d m k := by
  cases hn with
  | int i => exact r_or2 (r_oint (.inl rfl) h)
  | sh p => exact r_or1 (r_same (.inl rfl) (.inl rfl) h)
section
variable {X : Cx} {K' : PySem.W.Frag} {mg' : Str → Option Value} {S : SpD} {n : Nat} {fd : FuncData} {ps : List Str}
theorem oAddS (T : Txt K' mg') (G : FnOk X.prog X.w X.K X.mg X.base CX0 n (mS K' "__add__") fd ps (spOf K' S)) (hr : Room n X.A) (b : Binds X.K fd ps []) (hK : X.K = K' := by rfl) : OpR X (binaryOp .Add) (rSN K' S) := by
  subst hK
  exact OpR.or (OW.op_same (opc_add T) G hr b pass0) (OW.op_int (fo := some (.builtin "int.__add__")) (ro := some (.builtin "int.__radd__")) (opc_add T) (by kernel_rfl) (by kernel_rfl) G hr b pass0)
theorem oSubS (T : Txt K' mg') (G : FnOk X.prog X.w X.K X.mg X.base CX0 n (mS K' "__sub__") fd ps (spOf K' S)) (hr : Room n X.A) (b : Binds X.K fd ps []) (hK : X.K = K' := by rfl) : OpR X (binaryOp .Sub) (rSN K' S) := by
  subst hK
  exact OpR.or (OW.op_same (opc_sub T) G hr b pass0) (OW.op_int (fo := some (.builtin "int.__sub__")) (ro := some (.builtin "int.__rsub__")) (opc_sub T) (by kernel_rfl) (by kernel_rfl) G hr b pass0)
theorem oMulS (T : Txt K' mg') (G : FnOk X.prog X.w X.K X.mg X.base CX0 n (mS K' "__mul__") fd ps (spOf K' S)) (hr : Room n X.A) (b : Binds X.K fd ps []) (hK : X.K = K' := by rfl) : OpR X (binaryOp .Mult) (rSN K' S) := by
  subst hK
  exact OpR.or (OW.op_same (opc_mul T) G hr b pass0) (OW.op_int (fo := some (.builtin "int.__mul__")) (ro := some (.builtin "int.__rmul__")) (opc_mul T) (by kernel_rfl) (by kernel_rfl) G hr b pass0)
def rU1 (C : Addr) (K : PySem.W.Frag) (S : SpD) : V → Hp → VK → Prop := fun x H Q => ∃ a dx fs, x = .ref a ∧ H a = some (.ins C dx fs) ∧ spOf K S [x] H Q E0
theorem oNegS (T : Txt K' mg') (G : FnOk X.prog X.w X.K X.mg X.base CX0 n (mS K' "__neg__") fd ps (spOf K' S)) (hr : Room n X.A) (b : Binds X.K fd ps []) (hK : X.K = K' := by rfl) : UnR X (unaryOp .USub) (rU1 (CS K') K' S) := by
  subst hK
  exact OW.un_own (.inl ⟨rfl, rfl⟩) T.m_Share_neg.at_ T.m_Share_neg.fn G hr b pass0
end
theorem u_S {S : SpD} {m : Mu} {k : D → Mu → Prop} {C : Addr} {fs : List (Str × D)} (h : S [.ins C fs] m k) : wU K (rU1 C K S) (.ins C fs) m k := u_own (.inl rfl) h
local macro_rules | `(tactic| walk_at "d1") => `(tactic| first | (with_reducible refine r_SN (by assumption) ?_) | (with_reducible refine r_SN (Num.sh _) ?_) | (with_reducible refine r_SN (Num.int _) ?_) | (with_reducible refine u_S ?_))
theorem sc_Share_radd : FnScope ["self", "other"] ["self", "other"] (defScope s_Share_radd) := ⟨rfl, rfl, rfl, by decide +kernel, rfl, by decide +kernel, by decide +kernel⟩
theorem fn_Share_radd (T : Txt K mg) (O : Sh0 P w K mg base) (Oa : Fn P w K mg base 5 (mS K "__add__") ["self", "other"] (S_bin K (· + ·))) : Fn P w K mg base 6 (mS K "__radd__") ["self", "other"] (S_bin K (fun q p => q + p)) := by
  obtain ⟨⟨⟨_, G_is_number, b_is_number⟩, k_is_number⟩, ⟨⟨_, G_as_share, b_as_share⟩, k_as_share⟩, _, G_Share_init, b_Share_init, _, v1_Share_init, b1_Share_init⟩ := O
  obtain ⟨⟨_, G_Share_add, b_Share_add⟩, _⟩ := Oa
  refine fn_of1 (kk := 5) T.F_Share_radd sc_Share_radd S_bin_len (fun _ _ _ _ _ _ us hl => match us, hl with | [_, _], _ => rfl) ?_
  intro cdv A outer s H E hr
  refine ⟨_, (pss_cons (ps_if (pt_not (pt_val (pe_call G_is_number (hr.mono (by decide)) rfl T.g_is_number k_is_number b_is_number .nil pass0 (pa_cons (pv 1) pa_nil)))) (pss_one ps_never) pss_nil)
      (pss_one (ps_ret (pe_op (oAddS T G_Share_add (hr.mono (by decide)) b_Share_add) (pv 0) (pv 1))))), ?_⟩
  intro ds m k hS
  obtain ⟨q, d, p, rfl, hT, hk⟩ := hS
  have hn := hT.num
  try dsimp only [cxOf, Cx.nox, Cx.wish]
  walk_at "d"
  rw [if_neg (by decide)]
  walk_at "d"
  exact ⟨q, d, p, rfl, hT, hk⟩
theorem sc_Share_rmul : FnScope ["self", "other"] ["self", "other"] (defScope s_Share_rmul) := ⟨rfl, rfl, rfl, by decide +kernel, rfl, by decide +kernel, by decide +kernel⟩
theorem fn_Share_rmul (T : Txt K mg) (O : Sh0 P w K mg base) (Oa : Fn P w K mg base 5 (mS K "__mul__") ["self", "other"] (S_bin K (· * ·))) : Fn P w K mg base 6 (mS K "__rmul__") ["self", "other"] (S_bin K (fun q p => q * p)) := by
  obtain ⟨⟨⟨_, G_is_number, b_is_number⟩, k_is_number⟩, ⟨⟨_, G_as_share, b_as_share⟩, k_as_share⟩, _, G_Share_init, b_Share_init, _, v1_Share_init, b1_Share_init⟩ := O
  obtain ⟨⟨_, G_Share_mul, b_Share_mul⟩, _⟩ := Oa
  refine fn_of1 (kk := 5) T.F_Share_rmul sc_Share_rmul S_bin_len (fun _ _ _ _ _ _ us hl => match us, hl with | [_, _], _ => rfl) ?_
  intro cdv A outer s H E hr
  refine ⟨_, (pss_cons (ps_if (pt_not (pt_val (pe_call G_is_number (hr.mono (by decide)) rfl T.g_is_number k_is_number b_is_number .nil pass0 (pa_cons (pv 1) pa_nil)))) (pss_one ps_never) pss_nil)
      (pss_one (ps_ret (pe_op (oMulS T G_Share_mul (hr.mono (by decide)) b_Share_mul) (pv 0) (pv 1))))), ?_⟩
  intro ds m k hS
  obtain ⟨q, d, p, rfl, hT, hk⟩ := hS
  have hn := hT.num
  try dsimp only [cxOf, Cx.nox, Cx.wish]
  walk_at "d"
  rw [if_neg (by decide)]
  walk_at "d"
  exact ⟨q, d, p, rfl, hT, hk⟩
theorem Two.neg {d : D} {q p : Rat} (h : Two K d q p) : Two K (shD K (-p)) q (-p) := by
  obtain ⟨B, C, h1, h2, h3⟩ := h.sz
  exact ⟨.sh _, B, C, h1, h2.neg, h3⟩
theorem Two.dr {d : D} {q p : Rat} (h : Two K d q p) : p.den < 2 ^ 8998 := by
  obtain ⟨B, C, h1, h2, h3⟩ := h.sz
  exact Nat.lt_of_lt_of_le h2.d (Nat.pow_le_pow_right (by decide) (by omega))
theorem Two.dl {d : D} {q p : Rat} (h : Two K d q p) : q.den < 2 ^ 8998 := by
  obtain ⟨B, C, h1, h2, h3⟩ := h.sz
  exact Nat.lt_of_lt_of_le h1.d (Nat.pow_le_pow_right (by decide) (by omega))
theorem sc_Share_sub : FnScope ["self", "other"] ["self", "other"] (defScope s_Share_sub) := ⟨rfl, rfl, rfl, by decide +kernel, rfl, by decide +kernel, by decide +kernel⟩
theorem fn_Share_sub (T : Txt K mg) (O : Sh0 P w K mg base) (Oa : Fn P w K mg base 5 (mS K "__add__") ["self", "other"] (S_bin K (· + ·))) (On : Fn P w K mg base 5 (mS K "__neg__") ["self"] (S_una K (fun q => -q))) : Fn P w K mg base 6 (mS K "__sub__") ["self", "other"] (S_bin K (fun q p => q - p)) := by
  obtain ⟨⟨⟨_, G_is_number, b_is_number⟩, k_is_number⟩, ⟨⟨_, G_as_share, b_as_share⟩, k_as_share⟩, _, G_Share_init, b_Share_init, _, v1_Share_init, b1_Share_init⟩ := O
  obtain ⟨⟨_, G_Share_add, b_Share_add⟩, _⟩ := Oa
  obtain ⟨⟨_, G_Share_neg, b_Share_neg⟩, _⟩ := On
  refine fn_of1 (kk := 5) T.F_Share_sub sc_Share_sub S_bin_len (fun _ _ _ _ _ _ us hl => match us, hl with | [_, _], _ => rfl) ?_
  intro cdv A outer s H E hr
  refine ⟨_, (pss_cons (ps_if (pt_not (pt_val (pe_call G_is_number (hr.mono (by decide)) rfl T.g_is_number k_is_number b_is_number .nil pass0 (pa_cons (pv 1) pa_nil)))) (pss_one ps_never) pss_nil)
      (pss_one (ps_ret (pe_op (oAddS T G_Share_add (hr.mono (by decide)) b_Share_add) (pv 0) (pe_un (oNegS T G_Share_neg (hr.mono (by decide)) b_Share_neg) (pe_call G_as_share (hr.mono (by decide)) rfl T.g_as_share k_as_share b_as_share .nil pass0 (pa_cons (pv 1) pa_nil))))))), ?_⟩
  intro ds m k hS
  obtain ⟨q, d, p, rfl, hT, hk⟩ := hS
  have hn := hT.num
  try dsimp only [cxOf, Cx.nox, Cx.wish]
  walk_at "d"
  rw [if_neg (by decide)]
  walk_at "d"
  refine ⟨p, rfl, hT.dr, ?_⟩
  walk_at "d"
  refine ⟨q, _, -p, rfl, hT.neg, ?_⟩
  show k (shD K (q + -p)) m
  rw [← Rat.sub_eq_add_neg]
  exact hk
theorem sc_Share_rsub : FnScope ["self", "other"] ["self", "other"] (defScope s_Share_rsub) := ⟨rfl, rfl, rfl, by decide +kernel, rfl, by decide +kernel, by decide +kernel⟩
theorem fn_Share_rsub (T : Txt K mg) (O : Sh0 P w K mg base) (Oa : Fn P w K mg base 5 (mS K "__add__") ["self", "other"] (S_bin K (· + ·))) (On : Fn P w K mg base 5 (mS K "__neg__") ["self"] (S_una K (fun q => -q))) : Fn P w K mg base 6 (mS K "__rsub__") ["self", "other"] (S_bin K (fun q p => p - q)) := by
  obtain ⟨⟨⟨_, G_is_number, b_is_number⟩, k_is_number⟩, ⟨⟨_, G_as_share, b_as_share⟩, k_as_share⟩, _, G_Share_init, b_Share_init, _, v1_Share_init, b1_Share_init⟩ := O
  obtain ⟨⟨_, G_Share_add, b_Share_add⟩, _⟩ := Oa
  obtain ⟨⟨_, G_Share_neg, b_Share_neg⟩, _⟩ := On
  refine fn_of1 (kk := 5) T.F_Share_rsub sc_Share_rsub S_bin_len (fun _ _ _ _ _ _ us hl => match us, hl with | [_, _], _ => rfl) ?_
  intro cdv A outer s H E hr
  refine ⟨_, (pss_cons (ps_if (pt_not (pt_val (pe_call G_is_number (hr.mono (by decide)) rfl T.g_is_number k_is_number b_is_number .nil pass0 (pa_cons (pv 1) pa_nil)))) (pss_one ps_never) pss_nil)
      (pss_one (ps_ret (pe_op (oAddS T G_Share_add (hr.mono (by decide)) b_Share_add) (pe_call G_as_share (hr.mono (by decide)) rfl T.g_as_share k_as_share b_as_share .nil pass0 (pa_cons (pv 1) pa_nil)) (pe_un (oNegS T G_Share_neg (hr.mono (by decide)) b_Share_neg) (pv 0)))))), ?_⟩
  intro ds m k hS
  obtain ⟨q, d, p, rfl, hT, hk⟩ := hS
  have hn := hT.num
  try dsimp only [cxOf, Cx.nox, Cx.wish]
  walk_at "d"
  rw [if_neg (by decide)]
  walk_at "d"
  refine ⟨q, rfl, hT.dl, ?_⟩
  walk_at "d"
  obtain ⟨B, C, h1, h2, h3⟩ := hT.sz
  refine ⟨p, _, -q, rfl, ⟨.sh _, C, B, h2, h1.neg, by omega⟩, ?_⟩
  show k (shD K (p + -q)) m
  rw [← Rat.sub_eq_add_neg]
  exact hk
end
end LW
end

section
set_option Elab.async false
set_option linter.all false
set_option maxRecDepth 100000
set_option maxHeartbeats 4000000
set_option exponentiation.threshold 10000
namespace LW
open PySem PySem.Spec PyProof.Rows L2 DL MA
local macro_rules | `(tactic| walk_at "d1") => `(tactic| first
  | (with_reducible refine s_seq ?_) | (with_reducible refine s_set ?_) | (with_reducible refine s_ret ?_) | (with_reducible refine s_if ?_) | (with_reducible refine s_fld ?_) | (with_reducible refine s_next ?_) | (with_reducible refine s_par ?_)
  | (with_reducible refine e_var rfl ?_) | (with_reducible refine e_int ?_) | (with_reducible refine e_bl ?_) | (with_reducible refine e_non ?_) | (with_reducible refine e_str ?_) | (with_reducible refine e_ty ?_) | (with_reducible refine e_ref ?_)
  | (with_reducible refine e_op ?_) | (with_reducible refine e_un ?_) | (with_reducible refine e_cb ?_) | (with_reducible refine e_if ?_) | (with_reducible refine e_andV ?_) | (with_reducible refine e_orV ?_) | (with_reducible refine e_notV ?_) | (with_reducible refine e_fld ?_)
  | (with_reducible refine e_call0 ?_) | (with_reducible refine e_meth0 ?_) | (with_reducible refine e_make (dds := []) nilD ?_) | (with_reducible refine e_stat0 ?_)
  | (with_reducible refine a_nil ?_) | (with_reducible refine a_cons ?_) | (with_reducible refine e_lst ?_) | (with_reducible refine e_tup ?_)
  | (with_reducible refine t_test ?_) | (with_reducible refine t_B ?_) | (with_reducible refine t_and ?_) | (with_reducible refine t_or ?_) | (with_reducible refine t_not ?_)
  | (with_reducible refine ri0 ?_) | (with_reducible refine rb0 ?_) | (with_reducible refine req ?_) | (with_reducible refine rne ?_) | (with_reducible refine reqb ?_) | (with_reducible refine ui ?_)
  | (with_reducible refine c_abs ?_) | (with_reducible refine c_int1 ?_) | (with_reducible refine c_bool1 ?_)
  | (with_reducible refine Exists.intro _ (And.intro rfl ?_)))
local macro_rules | `(tactic| walk_at "d") => `(tactic| repeat (walk_at "d1"; try dsimp only))
local macro_rules | `(tactic| walk_at "d1") => `(tactic| first
  | (with_reducible refine fld_top (by assumption) ?_) | (with_reducible refine fld_bottom (by assumption) ?_)
  | (with_reducible refine isnum_num (by assumption) (by assumption) ?_) | (with_reducible refine assh_num (by assumption) ?_) | (with_reducible refine isnum_num (by assumption) (Num.sh _) ?_) | (with_reducible refine assh_num (Num.sh _) ?_) | (with_reducible refine isnum_num (by assumption) (Num.int _) ?_) | (with_reducible refine assh_num (Num.int _) ?_)
  | (with_reducible refine e_Share1 ?_) | (with_reducible refine e_Share2 ?_))
local macro_rules | `(tactic| walk_at "d1") => `(tactic| first | (with_reducible refine r_SN (by assumption) ?_) | (with_reducible refine r_SN (Num.sh _) ?_) | (with_reducible refine r_SN (Num.int _) ?_) | (with_reducible refine u_S ?_))
section
variable {P : Program} {w : World} {K : PySem.W.Frag} {mg : Str → Option Value} {base : Heap}
theorem sc_Share_lt : FnScope ["self", "other"] ["self", "other"] (defScope s_Share_lt) := ⟨rfl, rfl, rfl, by decide +kernel, rfl, by decide +kernel, by decide +kernel⟩
theorem fn_Share_lt (T : Txt K mg) (O : Sh0 P w K mg base) : Fn P w K mg base 5 (mS K "__lt__") ["self", "other"] (S_cmp K (fun q p => decide (q < p))) := by
  obtain ⟨⟨⟨_, G_is_number, b_is_number⟩, k_is_number⟩, ⟨⟨_, G_as_share, b_as_share⟩, k_as_share⟩, _, G_Share_init, b_Share_init, _, v1_Share_init, b1_Share_init⟩ := O
  refine fn_of1 (kk := 4) T.F_Share_lt sc_Share_lt S_cmp_len (fun _ _ _ _ _ _ us hl => match us, hl with | [_, _], _ => rfl) ?_
  intro cdv A outer s H E hr
  refine ⟨_, (pss_cons (ps_if (pt_not (pt_val (pe_call G_is_number (hr.mono (by decide)) rfl T.g_is_number k_is_number b_is_number .nil pass0 (pa_cons (pv 1) pa_nil)))) (pss_one ps_never) pss_nil)
      (pss_one (ps_ret (pe_callTy call_bool1 rfl T.n_bool (by decide +kernel) (pa_cons (pe_cmpR op_lt (pe_op op_mulW (pe_fld (pv 0) rfl) (pe_fld (pe_call G_as_share (hr.mono (by decide)) rfl T.g_as_share k_as_share b_as_share .nil pass0 (pa_cons (pv 1) pa_nil)) rfl)) (pe_op op_mulW (pe_fld (pe_call G_as_share (hr.mono (by decide)) rfl T.g_as_share k_as_share b_as_share .nil pass0 (pa_cons (pv 1) pa_nil)) rfl) (pe_fld (pv 0) rfl)) (nomark _)) pa_nil))))), ?_⟩
  intro ds m k hS
  obtain ⟨q, d, p, rfl, hT, hk⟩ := hS
  have hn := hT.num
  try dsimp only [cxOf, Cx.nox, Cx.wish]
  walk_at "d"
  rw [if_neg (by decide)]
  walk_at "d"
  refine ri hT.m1 ?_
  walk_at "d"
  refine ri hT.m2 ?_
  walk_at "d"
  have e : decide (q.num * (p.den : Int) < p.num * (q.den : Int)) = decide (q < p) := decide_eq_decide.mpr (Rat.lt_iff q p).symm
  rw [e]
  exact hk
theorem sc_Share_gt : FnScope ["self", "other"] ["self", "other"] (defScope s_Share_gt) := ⟨rfl, rfl, rfl, by decide +kernel, rfl, by decide +kernel, by decide +kernel⟩
theorem fn_Share_gt (T : Txt K mg) (O : Sh0 P w K mg base) : Fn P w K mg base 5 (mS K "__gt__") ["self", "other"] (S_cmp K (fun q p => decide (p < q))) := by
  obtain ⟨⟨⟨_, G_is_number, b_is_number⟩, k_is_number⟩, ⟨⟨_, G_as_share, b_as_share⟩, k_as_share⟩, _, G_Share_init, b_Share_init, _, v1_Share_init, b1_Share_init⟩ := O
  refine fn_of1 (kk := 4) T.F_Share_gt sc_Share_gt S_cmp_len (fun _ _ _ _ _ _ us hl => match us, hl with | [_, _], _ => rfl) ?_
  intro cdv A outer s H E hr
  refine ⟨_, (pss_cons (ps_if (pt_not (pt_val (pe_call G_is_number (hr.mono (by decide)) rfl T.g_is_number k_is_number b_is_number .nil pass0 (pa_cons (pv 1) pa_nil)))) (pss_one ps_never) pss_nil)
      (pss_one (ps_ret (pe_callTy call_bool1 rfl T.n_bool (by decide +kernel) (pa_cons (pe_cmpR op_gt (pe_op op_mulW (pe_fld (pv 0) rfl) (pe_fld (pe_call G_as_share (hr.mono (by decide)) rfl T.g_as_share k_as_share b_as_share .nil pass0 (pa_cons (pv 1) pa_nil)) rfl)) (pe_op op_mulW (pe_fld (pe_call G_as_share (hr.mono (by decide)) rfl T.g_as_share k_as_share b_as_share .nil pass0 (pa_cons (pv 1) pa_nil)) rfl) (pe_fld (pv 0) rfl)) (nomark _)) pa_nil))))), ?_⟩
  intro ds m k hS
  obtain ⟨q, d, p, rfl, hT, hk⟩ := hS
  have hn := hT.num
  try dsimp only [cxOf, Cx.nox, Cx.wish]
  walk_at "d"
  rw [if_neg (by decide)]
  walk_at "d"
  refine ri hT.m1 ?_
  walk_at "d"
  refine ri hT.m2 ?_
  walk_at "d"
  have e : decide (p.num * (q.den : Int) < q.num * (p.den : Int)) = decide (p < q) := decide_eq_decide.mpr (Rat.lt_iff p q).symm
  rw [e]
  exact hk
theorem sc_Share_le : FnScope ["self", "other"] ["self", "other"] (defScope s_Share_le) := ⟨rfl, rfl, rfl, by decide +kernel, rfl, by decide +kernel, by decide +kernel⟩
theorem fn_Share_le (T : Txt K mg) (O : Sh0 P w K mg base) : Fn P w K mg base 5 (mS K "__le__") ["self", "other"] (S_cmp K (fun q p => decide (q ≤ p))) := by
  obtain ⟨⟨⟨_, G_is_number, b_is_number⟩, k_is_number⟩, ⟨⟨_, G_as_share, b_as_share⟩, k_as_share⟩, _, G_Share_init, b_Share_init, _, v1_Share_init, b1_Share_init⟩ := O
  refine fn_of1 (kk := 4) T.F_Share_le sc_Share_le S_cmp_len (fun _ _ _ _ _ _ us hl => match us, hl with | [_, _], _ => rfl) ?_
  intro cdv A outer s H E hr
  refine ⟨_, (pss_cons (ps_if (pt_not (pt_val (pe_call G_is_number (hr.mono (by decide)) rfl T.g_is_number k_is_number b_is_number .nil pass0 (pa_cons (pv 1) pa_nil)))) (pss_one ps_never) pss_nil)
      (pss_one (ps_ret (pe_callTy call_bool1 rfl T.n_bool (by decide +kernel) (pa_cons (pe_cmpR op_le (pe_op op_mulW (pe_fld (pv 0) rfl) (pe_fld (pe_call G_as_share (hr.mono (by decide)) rfl T.g_as_share k_as_share b_as_share .nil pass0 (pa_cons (pv 1) pa_nil)) rfl)) (pe_op op_mulW (pe_fld (pe_call G_as_share (hr.mono (by decide)) rfl T.g_as_share k_as_share b_as_share .nil pass0 (pa_cons (pv 1) pa_nil)) rfl) (pe_fld (pv 0) rfl)) (nomark _)) pa_nil))))), ?_⟩
  intro ds m k hS
  obtain ⟨q, d, p, rfl, hT, hk⟩ := hS
  have hn := hT.num
  try dsimp only [cxOf, Cx.nox, Cx.wish]
  walk_at "d"
  rw [if_neg (by decide)]
  walk_at "d"
  refine ri hT.m1 ?_
  walk_at "d"
  refine ri hT.m2 ?_
  walk_at "d"
  have e : decide (q.num * (p.den : Int) ≤ p.num * (q.den : Int)) = decide (q ≤ p) := decide_eq_decide.mpr (Rat.le_iff q p).symm
  rw [e]
  exact hk
theorem sc_Share_ge : FnScope ["self", "other"] ["self", "other"] (defScope s_Share_ge) := ⟨rfl, rfl, rfl, by decide +kernel, rfl, by decide +kernel, by decide +kernel⟩
theorem fn_Share_ge (T : Txt K mg) (O : Sh0 P w K mg base) : Fn P w K mg base 5 (mS K "__ge__") ["self", "other"] (S_cmp K (fun q p => decide (p ≤ q))) := by
  obtain ⟨⟨⟨_, G_is_number, b_is_number⟩, k_is_number⟩, ⟨⟨_, G_as_share, b_as_share⟩, k_as_share⟩, _, G_Share_init, b_Share_init, _, v1_Share_init, b1_Share_init⟩ := O
  refine fn_of1 (kk := 4) T.F_Share_ge sc_Share_ge S_cmp_len (fun _ _ _ _ _ _ us hl => match us, hl with | [_, _], _ => rfl) ?_
  intro cdv A outer s H E hr
  refine ⟨_, (pss_cons (ps_if (pt_not (pt_val (pe_call G_is_number (hr.mono (by decide)) rfl T.g_is_number k_is_number b_is_number .nil pass0 (pa_cons (pv 1) pa_nil)))) (pss_one ps_never) pss_nil)
      (pss_one (ps_ret (pe_callTy call_bool1 rfl T.n_bool (by decide +kernel) (pa_cons (pe_cmpR op_ge (pe_op op_mulW (pe_fld (pv 0) rfl) (pe_fld (pe_call G_as_share (hr.mono (by decide)) rfl T.g_as_share k_as_share b_as_share .nil pass0 (pa_cons (pv 1) pa_nil)) rfl)) (pe_op op_mulW (pe_fld (pe_call G_as_share (hr.mono (by decide)) rfl T.g_as_share k_as_share b_as_share .nil pass0 (pa_cons (pv 1) pa_nil)) rfl) (pe_fld (pv 0) rfl)) (nomark _)) pa_nil))))), ?_⟩
  intro ds m k hS
  obtain ⟨q, d, p, rfl, hT, hk⟩ := hS
  have hn := hT.num
  try dsimp only [cxOf, Cx.nox, Cx.wish]
  walk_at "d"
  rw [if_neg (by decide)]
  walk_at "d"
  refine ri hT.m1 ?_
  walk_at "d"
  refine ri hT.m2 ?_
  walk_at "d"
  have e : decide (p.num * (q.den : Int) ≤ q.num * (p.den : Int)) = decide (p ≤ q) := decide_eq_decide.mpr (Rat.le_iff p q).symm
  rw [e]
  exact hk
theorem div_eq (q p : Rat) : Rat.divInt (q.num * (p.den : Int)) ((q.den : Int) * p.num) = q / p := by
  rw [Rat.div_def, Rat.inv_def, ← Rat.num_divInt_den q, Rat.divInt_mul_divInt, Rat.num_divInt_den]
def S_Share_over (K : PySem.W.Frag) : SpD := fun ds m k => ∃ q d p, ds = [shD K q, d] ∧ Two K d q p ∧ p ≠ 0 ∧ k (shD K (q / p)) m
/-! ### points -/
inductive Nums (K : PySem.W.Frag) : List D → List Rat → Prop where
  | nil : Nums K [] []
  | cons {d : D} {q : Rat} {ds : List D} {qs : List Rat} (h : Num K d q) (t : Nums K ds qs) : Nums K (d :: ds) (q :: qs)
theorem Nums.len : ∀ {ds : List D} {qs : List Rat}, Nums K ds qs → ds.length = qs.length
  | _, _, .nil => rfl
  | _, _, .cons h t => by rw [List.length_cons, List.length_cons, t.len]
theorem Nums.get : ∀ {ds : List D} {qs : List Rat} (i : Nat), Nums K ds qs → i < qs.length → ∃ d, ds[i]? = some d ∧ Num K d (qs.getD i 0)
  | _, _, i, .nil, h => by simp at h
  | _, _, 0, .cons h t, _ => ⟨_, rfl, h⟩
  | _, _, i + 1, .cons h t, hi => by
    obtain ⟨d, h1, h2⟩ := t.get i (by simpa using hi)
    exact ⟨d, by simpa using h1, by simpa using h2⟩
/-- a point: a list or a tuple of numbers -/
def Pt (K : PySem.W.Frag) (x : D) (qs : List Rat) : Prop := ∃ ds, (x = .lst ds ∨ x = .tup ds) ∧ Nums K ds qs
theorem ix_any {m : Mu} {k : D → Mu → Prop} {x : D} {ds : List D} {i : Nat} {d : D} (hx : x = .lst ds ∨ x = .tup ds) (hd : ds[i]? = some d) (hk : k d m) : wR K (rIx K) x (.int (i : Int)) m k := by
  have e : atI ds (i : Int) = some d := atI_nat hd
  rcases hx with rfl | rfl
  · exact r_ix1 (r_ixL e hk)
  · exact r_ix2 (r_ixT e hk)
theorem sc_worth_of : FnScope ["point", "k"] ["point", "k"] (defScope s_worth_of) := ⟨rfl, rfl, rfl, by decide +kernel, rfl, by decide +kernel, by decide +kernel⟩
def S_worth (K : PySem.W.Frag) : SpD := fun ds m k => ∃ x qs i, ds = [x, .int (i : Nat)] ∧ Pt K x qs ∧ k (shD K (qs.getD i 0)) m
theorem fn_worth_of (T : Txt K mg) (O : Sh0 P w K mg base) : Fn P w K mg base 5 (He.ga K "worth_of") ["point", "k"] (S_worth K) := by
  obtain ⟨⟨⟨_, G_is_number, b_is_number⟩, k_is_number⟩, ⟨⟨_, G_as_share, b_as_share⟩, k_as_share⟩, _, G_Share_init, b_Share_init, _, v1_Share_init, b1_Share_init⟩ := O
  refine fn_of1 (kk := 4) T.F_worth_of sc_worth_of (fun ds m k h => by obtain ⟨x, qs, i, rfl, _⟩ := h; rfl) (fun _ _ _ _ _ _ us hl => match us, hl with | [_, _], _ => rfl) ?_
  intro cdv A outer s H E hr
  refine ⟨_, (pss_one (ps_ret (pe_ifExp (pt_cmpR op_lt (pv 1) (pe_callB call_len_seq rfl T.n_len PySem.boot_len (pa_cons (pv 0) pa_nil)) (nomark _)) (pe_call G_as_share (hr.mono (by decide)) rfl T.g_as_share k_as_share b_as_share .nil pass0 (pa_cons (pe_ix ix_seq (pv 0) (pv 1) (fun _ _ => rfl)) pa_nil)) (pe_make T.k_Share G_Share_init (hr.mono (by decide)) rfl T.g_Share b1_Share_init v1_Share_init pass0 (pa_cons pe_int pa_nil))))), ?_⟩
  intro ds m k hS
  obtain ⟨x, qs, i, rfl, ⟨ps, hx, hq⟩, hk⟩ := hS
  try dsimp only [cxOf, Cx.nox, Cx.wish]
  walk_at "d"
  refine c_len (n := ps.length) (by rcases hx with rfl | rfl; exact .inl ⟨_, rfl, rfl⟩; exact .inr (.inl ⟨_, rfl, rfl⟩)) ?_
  walk_at "d"
  have hl := hq.len
  by_cases hi : i < qs.length
  · rw [if_pos (by simp; omega)]
    walk_at "d"
    obtain ⟨d, h1, h2⟩ := hq.get i hi
    refine ix_any hx h1 ?_
    walk_at "d"
    exact hk
  · rw [if_neg (by simp; omega)]
    walk_at "d"
    rw [show qs.getD i 0 = 0 by rw [List.getD_eq_getElem?_getD, List.getElem?_eq_none (by omega)]; rfl] at hk
    exact hk
end
end LW
end

section
set_option Elab.async false
set_option linter.all false
set_option maxRecDepth 100000
set_option maxHeartbeats 4000000
set_option exponentiation.threshold 10000
namespace LW
open PySem PySem.Spec PyProof.Rows L2 DL MA
local macro_rules | `(tactic| walk_at "d1") => `(tactic| first
  | (with_reducible refine s_seq ?_) | (with_reducible refine s_set ?_) | (with_reducible refine s_ret ?_) | (with_reducible refine s_if ?_) | (with_reducible refine s_fld ?_) | (with_reducible refine s_next ?_) | (with_reducible refine s_par ?_)
  | (with_reducible refine e_var rfl ?_) | (with_reducible refine e_int ?_) | (with_reducible refine e_bl ?_) | (with_reducible refine e_non ?_) | (with_reducible refine e_str ?_) | (with_reducible refine e_ty ?_) | (with_reducible refine e_ref ?_)
  | (with_reducible refine e_op ?_) | (with_reducible refine e_un ?_) | (with_reducible refine e_cb ?_) | (with_reducible refine e_if ?_) | (with_reducible refine e_andV ?_) | (with_reducible refine e_orV ?_) | (with_reducible refine e_notV ?_) | (with_reducible refine e_fld ?_)
  | (with_reducible refine e_call0 ?_) | (with_reducible refine e_meth0 ?_) | (with_reducible refine e_make (dds := []) nilD ?_) | (with_reducible refine e_stat0 ?_)
  | (with_reducible refine a_nil ?_) | (with_reducible refine a_cons ?_) | (with_reducible refine e_lst ?_) | (with_reducible refine e_tup ?_)
  | (with_reducible refine t_test ?_) | (with_reducible refine t_B ?_) | (with_reducible refine t_and ?_) | (with_reducible refine t_or ?_) | (with_reducible refine t_not ?_)
  | (with_reducible refine ri0 ?_) | (with_reducible refine rb0 ?_) | (with_reducible refine req ?_) | (with_reducible refine rne ?_) | (with_reducible refine reqb ?_) | (with_reducible refine ui ?_)
  | (with_reducible refine c_abs ?_) | (with_reducible refine c_int1 ?_) | (with_reducible refine c_bool1 ?_)
  | (with_reducible refine Exists.intro _ (And.intro rfl ?_)))
local macro_rules | `(tactic| walk_at "d") => `(tactic| repeat (walk_at "d1"; try dsimp only))
local macro_rules | `(tactic| walk_at "d1") => `(tactic| first
  | (with_reducible refine fld_top (by assumption) ?_) | (with_reducible refine fld_bottom (by assumption) ?_)
  | (with_reducible refine isnum_num (by assumption) (by assumption) ?_) | (with_reducible refine assh_num (by assumption) ?_) | (with_reducible refine isnum_num (by assumption) (Num.sh _) ?_) | (with_reducible refine assh_num (Num.sh _) ?_) | (with_reducible refine isnum_num (by assumption) (Num.int _) ?_) | (with_reducible refine assh_num (Num.int _) ?_)
  | (with_reducible refine e_Share1 ?_) | (with_reducible refine e_Share2 ?_))
local macro_rules | `(tactic| walk_at "d1") => `(tactic| first | (with_reducible refine r_SN (by assumption) ?_) | (with_reducible refine r_SN (Num.sh _) ?_) | (with_reducible refine r_SN (Num.int _) ?_) | (with_reducible refine u_S ?_))
/-! ### terms -/
structure Lin where
  c : Rat
  x : Rat
  y : Rat
  z : Rat
namespace Lin
def add (t u : Lin) : Lin := ⟨t.c + u.c, t.x + u.x, t.y + u.y, t.z + u.z⟩
def scale (t : Lin) (q : Rat) : Lin := ⟨t.c * q, t.x * q, t.y * q, t.z * q⟩
def con (q : Rat) : Lin := ⟨q, 0, 0, 0⟩
def unk (k : Nat) : Lin := ⟨0, if k = 0 then 1 else 0, if k = 1 then 1 else 0, if k = 2 then 1 else 0⟩
def neg (t : Lin) : Lin := t.scale (-1)
def sub (t u : Lin) : Lin := t.add u.neg
end Lin
structure SzL (B : Nat) (t : Lin) : Prop where
  c : Sz B t.c
  x : Sz B t.x
  y : Sz B t.y
  z : Sz B t.z
theorem SzL.mono {B C : Nat} {t : Lin} (h : SzL B t) (hc : B ≤ C) : SzL C t := ⟨h.c.mono hc, h.x.mono hc, h.y.mono hc, h.z.mono hc⟩
theorem SzL.add {B C : Nat} {t u : Lin} (h : SzL B t) (g : SzL C u) : SzL (B + C + 1) (t.add u) := ⟨h.c.add g.c, h.x.add g.x, h.y.add g.y, h.z.add g.z⟩
theorem SzL.scale {B C : Nat} {t : Lin} {q : Rat} (h : SzL B t) (g : Sz C q) : SzL (B + C) (t.scale q) := ⟨h.c.mul g, h.x.mul g, h.y.mul g, h.z.mul g⟩
theorem sz_zero (B : Nat) (h : 0 < B) : Sz B 0 := ⟨Nat.two_pow_pos B, Nat.one_lt_two_pow (by omega)⟩
theorem sz_one (B : Nat) (h : 0 < B) : Sz B 1 := ⟨Nat.one_lt_two_pow (by omega), Nat.one_lt_two_pow (by omega)⟩
theorem SzL.con {B : Nat} {q : Rat} (h : Sz B q) (hB : 0 < B) : SzL B (.con q) := ⟨h, sz_zero B hB, sz_zero B hB, sz_zero B hB⟩
theorem sz_neg1 : Sz 1 (-1 : Rat) := ⟨by decide, by decide⟩
theorem SzL.neg {B : Nat} {t : Lin} (h : SzL B t) : SzL (B + 1) t.neg := h.scale sz_neg1
section
variable {P : Program} {w : World} {K : PySem.W.Frag} {mg : Str → Option Value} {base : Heap}
abbrev CT (K : PySem.W.Frag) : Addr := He.ga K "Term"
abbrev mT (K : PySem.W.Frag) (x : Str) : Addr := He.ma K (CT K) x
abbrev tmF (K : PySem.W.Frag) (t : Lin) : List (Str × D) := [("number", shD K t.c), ("times", .tup [shD K t.x, shD K t.y, shD K t.z])]
abbrev tmD (K : PySem.W.Frag) (t : Lin) : D := .ins (CT K) (tmF K t)
theorem tya_Term (T : Txt K mg) : TyA K (.ref (CT K)) false false := ⟨⟨false, false, T.kb_Term_int, T.kb_Term_bool, rfl⟩, ⟨false, T.kk_Term_Share, rfl⟩⟩
theorem sc_Term_init : FnScope ["self", "number", "times"] ["self", "number", "times"] (defScope s_Term_init) := ⟨rfl, rfl, rfl, by decide +kernel, rfl, by decide +kernel, by decide +kernel⟩
def S_Term_init (K : PySem.W.Frag) : SpD := fun ds m k => ∃ a n xs, ds = [.ref a, n, .lst xs] ∧ m a = some (.ins (CT K) []) ∧ k .non (updM m a (.ins (CT K) [("number", n), ("times", .tup xs)]))
theorem fn_Term_init (T : Txt K mg) : Fn P w K mg base 1 (mT K "__init__") ["self", "number", "times"] (S_Term_init K) := by
  refine fn_of1 (kk := 0) T.F_Term_init sc_Term_init (fun ds m k h => by obtain ⟨a, n, xs, rfl, _⟩ := h; rfl) (fun _ _ _ _ _ _ us hl => match us, hl with | [_, _, _], _ => rfl) ?_
  intro cdv A outer s H E hr
  refine ⟨_, (pss_cons (ps_fld (pv 0) (pv 1) rfl)
      (pss_one (ps_fld (pv 0) (pe_callTy call_tuple_of rfl T.n_tuple (by decide +kernel) (pa_cons (pv 2) pa_nil)) rfl))), ?_⟩
  intro ds m k hS
  obtain ⟨a, n, xs, rfl, hm, hk⟩ := hS
  try dsimp only [cxOf, Cx.nox, Cx.wish]
  walk_at "d"
  refine ⟨a, CT K, [], rfl, hm, T.c_Term, T.a_Term_number, by decide, ?_⟩
  walk_at "d"
  refine c_tuple ?_
  walk_at "d"
  refine ⟨a, CT K, _, rfl, updM_same, T.c_Term, T.a_Term_times, (by show 1 < 1000; decide), ?_⟩
  rw [updM_updM]
  exact hk
theorem e_Term {r : En} {m : Mu} {k : D → Mu → Prop} {ta tb : TE} {E : XK} (h : wE K ta r m fun x m1 => wE K tb r m1 fun y m2 => ∃ xs, y = .lst xs ∧ k (.ins (CT K) [("number", x), ("times", .tup xs)]) m2) :
    wE K (tMake (CT K) (spOf K (S_Term_init K)) [] E (tCons ta (tCons tb tNil))) r m k := by
  refine e_make (dds := []) nilD (a_cons (h.mono fun x m1 h1 => a_cons (h1.mono fun y m2 h2 => a_nil ?_)))
  obtain ⟨xs, rfl, hk⟩ := h2
  intro a ha
  refine ⟨a, x, xs, rfl, updM_same, rfl, .inl ⟨_, m2, updM_same, ?_, hk⟩⟩
  rw [updM_updM, del_upd ha]
  exact Sub.refl
theorem fld_number (T : Txt K mg) {r : En} {m : Mu} {k : D → Mu → Prop} {ta : TE} (h : wE K ta r m fun x m1 => ∃ t, x = tmD K t ∧ k (shD K t.c) m1) : wE K (tFld K ta "number") r m k :=
  e_fld (h.mono fun x m1 ⟨t, e, hk⟩ => ⟨CT K, tmF K t, _, .inl e, T.c_Term, T.a_Term_number, rfl, hk⟩)
theorem fld_times (T : Txt K mg) {r : En} {m : Mu} {k : D → Mu → Prop} {ta : TE} (h : wE K ta r m fun x m1 => ∃ t, x = tmD K t ∧ k (.tup [shD K t.x, shD K t.y, shD K t.z]) m1) : wE K (tFld K ta "times") r m k :=
  e_fld (h.mono fun x m1 ⟨t, e, hk⟩ => ⟨CT K, tmF K t, _, .inl e, T.c_Term, T.a_Term_times, rfl, hk⟩)
theorem len3 {a b c : D} : [a, b, c].length < 100000 := by show 3 < 100000; decide
theorem len4 {a b c e : D} : [a, b, c, e].length < 100000 := by show 4 < 100000; decide
local macro_rules | `(tactic| walk_at "d1") => `(tactic| first
  | (with_reducible refine fld_number (by assumption) ?_) | (with_reducible refine fld_times (by assumption) ?_) | (with_reducible refine e_Term ?_)
  | (with_reducible refine e_lcU (gin_name (by decide)) ?_) | (with_reducible refine i_rng1 ?_) | (with_reducible refine i_tup ?_) | (with_reducible refine i_list ?_) | (with_reducible refine t_yes ?_) | (with_reducible refine g_name ?_)
  | (with_reducible refine unrc_r3 ?_) | (with_reducible refine unrc_r4 ?_) | (with_reducible refine unr_r3 ?_) | (with_reducible refine unr_r4 ?_) | (with_reducible refine unr_r2 ?_) | (with_reducible refine unrc_cons ?_) | (with_reducible refine unrc_nil ?_) | (with_reducible refine unr_cons ?_) | (with_reducible refine unr_nil ?_) | (with_reducible refine s_forU ?_)
  | (with_reducible refine iteT ?_) | (with_reducible refine iteF ?_) | (with_reducible refine e_chain ?_) | (with_reducible refine And.intro len3 ?_) | (with_reducible refine And.intro len4 ?_) | (with_reducible refine And.intro (by decide) ?_) | (with_reducible refine ite_d1 (by decide) ?_) | (with_reducible refine ite_d0 (by decide) ?_))
/-! ### Term.constant, Term.unknown, is_worth, as_term -/
structure Tm0 (P : Program) (w : World) (K : PySem.W.Frag) (mg : Str → Option Value) (base : Heap) : Prop where
  sh : Sh0 P w K mg base
  isi : Fn P w K mg base 1 (He.ga K "is_integer") ["thing"] (S_is_integer K)
  ini : Fn P w K mg base 1 (mT K "__init__") ["self", "number", "times"] (S_Term_init K)
  add : Fn P w K mg base 5 (mS K "__add__") ["self", "other"] (S_bin K (· + ·))
  mul : Fn P w K mg base 5 (mS K "__mul__") ["self", "other"] (S_bin K (· * ·))
theorem sc_Term_constant : FnScope ["number", "k"] ["number"] (defScope s_Term_constant) := ⟨rfl, rfl, rfl, by decide +kernel, rfl, by decide +kernel, by decide +kernel⟩
def S_constant (K : PySem.W.Frag) : SpD := fun ds m k => ∃ d q, ds = [d] ∧ Num K d q ∧ k (tmD K (.con q)) m
theorem fn_constant (T : Txt K mg) (O : Tm0 P w K mg base) : Fn P w K mg base 5 (FX.sAd K "Term" "constant") ["number"] (S_constant K) := by
  obtain ⟨⟨⟨⟨_, G_is_number, b_is_number⟩, k_is_number⟩, ⟨⟨_, G_as_share, b_as_share⟩, k_as_share⟩, _, G_Share_init, b_Share_init, _, v1_Share_init, b1_Share_init⟩, _, ⟨⟨_, G_Term_init, b_Term_init⟩, _⟩, _, _⟩ := O
  obtain ⟨_, V_UNKNOWNS⟩ := T.v_UNKNOWNS
  refine fn_of1 (kk := 4) T.F_Term_constant sc_Term_constant (fun ds m k h => by obtain ⟨d, q, rfl, _⟩ := h; rfl) (fun _ _ _ _ _ _ us hl => match us, hl with | [_], _ => rfl) ?_
  intro cdv A outer s H E hr
  refine ⟨_, (pss_one (ps_ret (pe_make T.k_Term G_Term_init (hr.mono (by decide)) rfl T.g_Term b_Term_init .nil pass0 (pa_cons (pe_call G_as_share (hr.mono (by decide)) rfl T.g_as_share k_as_share b_as_share .nil pass0 (pa_cons (pv 0) pa_nil)) (pa_cons (pe_lc (own := [("k", 1)]) rfl sc_Term_constant.nd (pi_range1 rfl T.n_range (pa_cons (pe_glob (v := .int _) rfl V_UNKNOWNS ⟨_, rfl⟩) pa_nil)) (blkOk_by (own := [("k", 1)]) (N := ["number", "k"]) (sc := defScope s_Term_constant) (by decide +kernel)) (fun _ _ _ _ _ => (pg_name (i := 1) sc_Term_constant.nd rfl (.inl rfl))) (fun _ _ _ _ _ => pts_nil) (fun _ _ _ _ _ => (pe_make T.k_Share G_Share_init (hr.mono (by decide)) rfl T.g_Share b1_Share_init v1_Share_init pass0 (pa_cons pe_int pa_nil)))) pa_nil))))), ?_⟩
  intro ds m k hS
  obtain ⟨d, q, rfl, hn, hk⟩ := hS
  try dsimp only [cxOf, Cx.nox, Cx.wish]
  walk_at "d"
  exact hk
theorem sc_Term_unknown : FnScope ["k", "at"] ["k"] (defScope s_Term_unknown) := ⟨rfl, rfl, rfl, by decide +kernel, rfl, by decide +kernel, by decide +kernel⟩
def S_unknown (K : PySem.W.Frag) : SpD := fun ds m k => ∃ i : Nat, ds = [.int (i : Int)] ∧ i < 3 ∧ k (tmD K (.unk i)) m
theorem fn_unknown (T : Txt K mg) (O : Tm0 P w K mg base) : Fn P w K mg base 5 (FX.sAd K "Term" "unknown") ["k"] (S_unknown K) := by
  obtain ⟨⟨⟨⟨_, G_is_number, b_is_number⟩, k_is_number⟩, ⟨⟨_, G_as_share, b_as_share⟩, k_as_share⟩, _, G_Share_init, b_Share_init, _, v1_Share_init, b1_Share_init⟩, ⟨⟨_, G_is_integer, b_is_integer⟩, k_is_integer⟩, ⟨⟨_, G_Term_init, b_Term_init⟩, _⟩, ⟨⟨_, G_Share_add, b_Share_add⟩, _⟩, ⟨⟨_, G_Share_mul, b_Share_mul⟩, _⟩⟩ := O
  obtain ⟨_, V_UNKNOWNS⟩ := T.v_UNKNOWNS
  refine fn_of1 (kk := 4) T.F_Term_unknown sc_Term_unknown (fun ds m k h => by obtain ⟨i, rfl, _⟩ := h; rfl) (fun _ _ _ _ _ _ us hl => match us, hl with | [_], _ => rfl) ?_
  intro cdv A outer s H E hr
  refine ⟨_, (pss_cons (ps_if (PW.pt (pw_or (pt_not (pt_val (pe_call G_is_integer (hr.mono (by decide)) rfl T.g_is_integer k_is_integer b_is_integer .nil pass0 (pa_cons (pv 0) pa_nil)))) (pw_or1 (pt_not (pt_chain op_le op_lt pe_int (pv 0) (pe_glob (v := .int _) rfl V_UNKNOWNS ⟨_, rfl⟩)))))) (pss_one ps_never) pss_nil)
      (pss_one (ps_ret (pe_make T.k_Term G_Term_init (hr.mono (by decide)) rfl T.g_Term b_Term_init .nil pass0 (pa_cons (pe_make T.k_Share G_Share_init (hr.mono (by decide)) rfl T.g_Share b1_Share_init v1_Share_init pass0 (pa_cons pe_int pa_nil)) (pa_cons (pe_lc (own := [("at", 1)]) rfl sc_Term_unknown.nd (pi_range1 rfl T.n_range (pa_cons (pe_glob (v := .int _) rfl V_UNKNOWNS ⟨_, rfl⟩) pa_nil)) (blkOk_by (own := [("at", 1)]) (N := ["k", "at"]) (sc := defScope s_Term_unknown) (by decide +kernel)) (fun _ _ _ _ _ => (pg_name (i := 1) sc_Term_unknown.nd rfl (.inl rfl))) (fun _ _ _ _ _ => pts_nil) (fun _ _ _ _ _ => (pe_make T.k_Share G_Share_init (hr.mono (by decide)) rfl T.g_Share b1_Share_init v1_Share_init pass0 (pa_cons (pe_ifExp (pt_cmpR op_eq (pv 1) (pv 0) (nomark _)) pe_int pe_int) pa_nil)))) pa_nil)))))), ?_⟩
  intro ds m k hS
  obtain ⟨i, rfl, hi, hk⟩ := hS
  have h3 : i = 0 ∨ i = 1 ∨ i = 2 := by omega
  try dsimp only [cxOf, Cx.nox, Cx.wish]
  walk_at "d"
  refine ⟨_, _, _, _, rfl, .int _, tya_int T, ?_⟩
  rcases h3 with rfl | rfl | rfl <;> (walk_at "d"; exact hk)
theorem sc_is_worth : FnScope ["thing"] ["thing"] (defScope s_is_worth) := ⟨rfl, rfl, rfl, by decide +kernel, rfl, by decide +kernel, by decide +kernel⟩
def S_is_worth (K : PySem.W.Frag) : SpD := fun ds m k => ∃ d t i n c, ds = [d] ∧ TI2 K m d t ∧ TyA K t i n ∧ PySem.W.kitOne K t (.ref (CT K)) = some c ∧ k (.bl (c || n)) m
theorem fn_is_worth (T : Txt K mg) (O : Tm0 P w K mg base) : Fn P w K mg base 3 (He.ga K "is_worth") ["thing"] (S_is_worth K) := by
  obtain ⟨⟨⟨⟨_, G_is_number, b_is_number⟩, k_is_number⟩, ⟨⟨_, G_as_share, b_as_share⟩, k_as_share⟩, _, G_Share_init, b_Share_init, _, v1_Share_init, b1_Share_init⟩, ⟨⟨_, G_is_integer, b_is_integer⟩, k_is_integer⟩, ⟨⟨_, G_Term_init, b_Term_init⟩, _⟩, ⟨⟨_, G_Share_add, b_Share_add⟩, _⟩, ⟨⟨_, G_Share_mul, b_Share_mul⟩, _⟩⟩ := O
  refine fn_of1 (kk := 2) T.F_is_worth sc_is_worth (fun ds m k h => by obtain ⟨d, t, i, n, c, rfl, _⟩ := h; rfl) (fun _ _ _ _ _ _ us hl => match us, hl with | [_], _ => rfl) ?_
  intro cdv A outer s H E hr
  refine ⟨_, (pss_one (ps_ret (pe_or (pe_callB call_isi rfl T.n_isinstance (by decide +kernel) (pa_cons (pv 0) (pa_cons (pe_glob (v := .ref _) rfl T.g_Term rfl) pa_nil))) (pe_one (pe_call G_is_number (hr.mono (by decide)) rfl T.g_is_number k_is_number b_is_number .nil pass0 (pa_cons (pv 0) pa_nil)))))), ?_⟩
  intro ds m k hS
  obtain ⟨d, t, i, n, c, rfl, ht, hT, hc, hk⟩ := hS
  try dsimp only [cxOf, Cx.nox, Cx.wish]
  walk_at "d"
  refine c_isi (.inr ⟨_, rfl, rfl⟩) ht hc ?_
  walk_at "d"
  cases c with
  | true => exact hk
  | false =>
    walk_at "d"
    exact ⟨d, t, i, n, rfl, ht, hT, hk⟩
/-- a term or a number -/
inductive Wth (K : PySem.W.Frag) : D → Lin → Prop where
  | tm (t : Lin) : Wth K (tmD K t) t
  | num {d : D} {q : Rat} (h : Num K d q) : Wth K d (.con q)
theorem isworth (T : Txt K mg) {m : Mu} {k : D → Mu → Prop} {d : D} {t : Lin} (hn : Wth K d t) (hk : k (.bl true) m) : S_is_worth K [d] m k := by
  cases hn with
  | tm t => exact ⟨_, _, _, _, _, rfl, .ins (.inl rfl) T.i_Term, tya_Term T, T.kk_Term_Term, hk⟩
  | num h =>
    cases h with
    | int i => exact ⟨_, _, _, _, _, rfl, .int i, tya_int T, T.kt_int_Term, hk⟩
    | sh q => exact ⟨_, _, _, _, _, rfl, .ins (.inl rfl) T.i_Share, tya_Share T, T.kk_Share_Term, hk⟩
theorem sc_as_term : FnScope ["thing"] ["thing"] (defScope s_as_term) := ⟨rfl, rfl, rfl, by decide +kernel, rfl, by decide +kernel, by decide +kernel⟩
def S_as_term (K : PySem.W.Frag) : SpD := fun ds m k => ∃ d t, ds = [d] ∧ Wth K d t ∧ k (tmD K t) m
theorem fn_as_term (T : Txt K mg) (Oc : Fn P w K mg base 5 (FX.sAd K "Term" "constant") ["number"] (S_constant K)) : Fn P w K mg base 6 (He.ga K "as_term") ["thing"] (S_as_term K) := by
  obtain ⟨⟨_, G_Term_constant, b_Term_constant⟩, _⟩ := Oc
  refine fn_of1 (kk := 5) T.F_as_term sc_as_term (fun ds m k h => by obtain ⟨d, t, rfl, _⟩ := h; rfl) (fun _ _ _ _ _ _ us hl => match us, hl with | [_], _ => rfl) ?_
  intro cdv A outer s H E hr
  refine ⟨_, (pss_cons (ps_if (pt_val (pe_callB call_isi rfl T.n_isinstance (by decide +kernel) (pa_cons (pv 0) (pa_cons (pe_glob (v := .ref _) rfl T.g_Term rfl) pa_nil)))) (pss_one (ps_ret (pv 0))) pss_nil)
      (pss_one (ps_ret (FX.pe_stat (pe_glob (v := .ref _) rfl T.g_Term rfl) T.st_Term_constant G_Term_constant (hr.mono (by decide)) b_Term_constant .nil pass0 (pa_cons (pv 0) pa_nil))))), ?_⟩
  intro ds m k hS
  obtain ⟨d, t, rfl, hn, hk⟩ := hS
  try dsimp only [cxOf, Cx.nox, Cx.wish]
  walk_at "d"
  cases hn with
  | tm t =>
    refine c_isi (.inr ⟨_, rfl, rfl⟩) (.ins (.inl rfl) T.i_Term) T.kk_Term_Term ?_
    walk_at "d"
    exact hk
  | num h =>
    have hc : ∃ tt, TI2 K m d tt ∧ PySem.W.kitOne K tt (.ref (CT K)) = some false := by
      cases h with
      | int i => exact ⟨_, .int i, T.kt_int_Term⟩
      | sh q => exact ⟨_, .ins (.inl rfl) T.i_Share, T.kk_Share_Term⟩
    obtain ⟨tt, h1, h2⟩ := hc
    refine c_isi (.inr ⟨_, rfl, rfl⟩) h1 h2 ?_
    walk_at "d"
    exact ⟨rfl, a_cons (e_var rfl (a_nil ⟨_, _, rfl, h, hk⟩))⟩
theorem asterm {m : Mu} {k : D → Mu → Prop} {d : D} {t : Lin} (hn : Wth K d t) (hk : k (tmD K t) m) : S_as_term K [d] m k := ⟨d, t, rfl, hn, hk⟩
/-! ### scaled, and what goes by it -/
structure TwoQ (K : PySem.W.Frag) (d : D) (t : Lin) (q : Rat) : Prop where
  num : Num K d q
  sz : ∃ B C, SzL B t ∧ Sz C q ∧ B + C ≤ 8998
theorem TwoQ.c {d : D} {t : Lin} {q : Rat} (h : TwoQ K d t q) : Two K d t.c q := let ⟨B, C, h1, h2, h3⟩ := h.sz; ⟨h.num, B, C, h1.c, h2, h3⟩
theorem TwoQ.x {d : D} {t : Lin} {q : Rat} (h : TwoQ K d t q) : Two K d t.x q := let ⟨B, C, h1, h2, h3⟩ := h.sz; ⟨h.num, B, C, h1.x, h2, h3⟩
theorem TwoQ.y {d : D} {t : Lin} {q : Rat} (h : TwoQ K d t q) : Two K d t.y q := let ⟨B, C, h1, h2, h3⟩ := h.sz; ⟨h.num, B, C, h1.y, h2, h3⟩
theorem TwoQ.z {d : D} {t : Lin} {q : Rat} (h : TwoQ K d t q) : Two K d t.z q := let ⟨B, C, h1, h2, h3⟩ := h.sz; ⟨h.num, B, C, h1.z, h2, h3⟩
def S_scaled (K : PySem.W.Frag) : SpD := fun ds m k => ∃ t d q, ds = [tmD K t, d] ∧ TwoQ K d t q ∧ k (tmD K (t.scale q)) m
theorem S_scaled_len : ∀ ds m k, S_scaled K ds m k → ds.length = 2 := fun ds m k h => by obtain ⟨t, d, q, rfl, _⟩ := h; rfl
theorem sc_Term_scaled : FnScope ["self", "number", "share"] ["self", "number"] (defScope s_Term_scaled) := ⟨rfl, rfl, rfl, by decide +kernel, rfl, by decide +kernel, by decide +kernel⟩
theorem fn_scaled (T : Txt K mg) (O : Tm0 P w K mg base) : Fn P w K mg base 6 (mT K "scaled") ["self", "number"] (S_scaled K) := by
  obtain ⟨⟨⟨⟨_, G_is_number, b_is_number⟩, k_is_number⟩, ⟨⟨_, G_as_share, b_as_share⟩, k_as_share⟩, _, G_Share_init, b_Share_init, _, v1_Share_init, b1_Share_init⟩, ⟨⟨_, G_is_integer, b_is_integer⟩, k_is_integer⟩, ⟨⟨_, G_Term_init, b_Term_init⟩, _⟩, ⟨⟨_, G_Share_add, b_Share_add⟩, _⟩, ⟨⟨_, G_Share_mul, b_Share_mul⟩, _⟩⟩ := O
  refine fn_of1 (kk := 5) T.F_Term_scaled sc_Term_scaled S_scaled_len (fun _ _ _ _ _ _ us hl => match us, hl with | [_, _], _ => rfl) ?_
  intro cdv A outer s H E hr
  refine ⟨_, (pss_one (ps_ret (pe_make T.k_Term G_Term_init (hr.mono (by decide)) rfl T.g_Term b_Term_init .nil pass0 (pa_cons (pe_op (oMulS (n := 5) T G_Share_mul (hr.mono (by decide)) b_Share_mul) (pe_fld (pv 0) rfl) (pv 1)) (pa_cons (pe_lc (own := [("share", 2)]) rfl sc_Term_scaled.nd (pi_tup (pe_fld (pv 0) rfl)) (blkOk_by (own := [("share", 2)]) (N := ["self", "number", "share"]) (sc := defScope s_Term_scaled) (by decide +kernel)) (fun _ _ _ _ _ => (pg_name (i := 2) sc_Term_scaled.nd rfl (.inl rfl))) (fun _ _ _ _ _ => pts_nil) (fun _ _ _ _ _ => (pe_op (oMulS (n := 5) T G_Share_mul (hr.mono (by decide)) b_Share_mul) (pv 2) (pv 1)))) pa_nil))))), ?_⟩
  intro ds m k hS
  obtain ⟨t, d, q, rfl, h2, hk⟩ := hS
  have hn := h2.num
  try dsimp only [cxOf, Cx.nox, Cx.wish]
  walk_at "d"
  refine ⟨_, _, _, rfl, h2.c, ?_⟩
  walk_at "d"
  refine ⟨_, _, _, rfl, h2.x, ?_⟩
  walk_at "d"
  refine ⟨_, _, _, rfl, h2.y, ?_⟩
  walk_at "d"
  refine ⟨_, _, _, rfl, h2.z, ?_⟩
  walk_at "d"
  exact hk
end
end LW
end

section
set_option Elab.async false
set_option linter.all false
set_option maxRecDepth 100000
set_option maxHeartbeats 4000000
set_option exponentiation.threshold 10000
namespace LW
open PySem PySem.Spec PyProof.Rows L2 DL MA
local macro_rules | `(tactic| walk_at "d1") => `(tactic| first
  | (with_reducible refine s_seq ?_) | (with_reducible refine s_set ?_) | (with_reducible refine s_ret ?_) | (with_reducible refine s_if ?_) | (with_reducible refine s_fld ?_) | (with_reducible refine s_next ?_) | (with_reducible refine s_par ?_)
  | (with_reducible refine e_var rfl ?_) | (with_reducible refine e_int ?_) | (with_reducible refine e_bl ?_) | (with_reducible refine e_non ?_) | (with_reducible refine e_str ?_) | (with_reducible refine e_ty ?_) | (with_reducible refine e_ref ?_)
  | (with_reducible refine e_op ?_) | (with_reducible refine e_un ?_) | (with_reducible refine e_cb ?_) | (with_reducible refine e_if ?_) | (with_reducible refine e_andV ?_) | (with_reducible refine e_orV ?_) | (with_reducible refine e_notV ?_) | (with_reducible refine e_fld ?_)
  | (with_reducible refine e_call0 ?_) | (with_reducible refine e_meth0 ?_) | (with_reducible refine e_make (dds := []) nilD ?_) | (with_reducible refine e_stat0 ?_)
  | (with_reducible refine a_nil ?_) | (with_reducible refine a_cons ?_) | (with_reducible refine e_lst ?_) | (with_reducible refine e_tup ?_)
  | (with_reducible refine t_test ?_) | (with_reducible refine t_B ?_) | (with_reducible refine t_and ?_) | (with_reducible refine t_or ?_) | (with_reducible refine t_not ?_)
  | (with_reducible refine ri0 ?_) | (with_reducible refine rb0 ?_) | (with_reducible refine req ?_) | (with_reducible refine rne ?_) | (with_reducible refine reqb ?_) | (with_reducible refine ui ?_)
  | (with_reducible refine c_abs ?_) | (with_reducible refine c_int1 ?_) | (with_reducible refine c_bool1 ?_)
  | (with_reducible refine Exists.intro _ (And.intro rfl ?_)))
local macro_rules | `(tactic| walk_at "d") => `(tactic| repeat (walk_at "d1"; try dsimp only))
local macro_rules | `(tactic| walk_at "d1") => `(tactic| first
  | (with_reducible refine fld_top (by assumption) ?_) | (with_reducible refine fld_bottom (by assumption) ?_)
  | (with_reducible refine isnum_num (by assumption) (by assumption) ?_) | (with_reducible refine assh_num (by assumption) ?_) | (with_reducible refine isnum_num (by assumption) (Num.sh _) ?_) | (with_reducible refine assh_num (Num.sh _) ?_) | (with_reducible refine isnum_num (by assumption) (Num.int _) ?_) | (with_reducible refine assh_num (Num.int _) ?_)
  | (with_reducible refine e_Share1 ?_) | (with_reducible refine e_Share2 ?_))
local macro_rules | `(tactic| walk_at "d1") => `(tactic| first | (with_reducible refine r_SN (by assumption) ?_) | (with_reducible refine r_SN (Num.sh _) ?_) | (with_reducible refine r_SN (Num.int _) ?_) | (with_reducible refine u_S ?_))
local macro_rules | `(tactic| walk_at "d1") => `(tactic| first
  | (with_reducible refine fld_number (by assumption) ?_) | (with_reducible refine fld_times (by assumption) ?_) | (with_reducible refine e_Term ?_)
  | (with_reducible refine e_lcU (gin_name (by decide)) ?_) | (with_reducible refine i_rng1 ?_) | (with_reducible refine i_tup ?_) | (with_reducible refine i_list ?_) | (with_reducible refine t_yes ?_) | (with_reducible refine g_name ?_)
  | (with_reducible refine unrc_r3 ?_) | (with_reducible refine unrc_r4 ?_) | (with_reducible refine unr_r3 ?_) | (with_reducible refine unr_r4 ?_) | (with_reducible refine unr_r2 ?_) | (with_reducible refine unrc_cons ?_) | (with_reducible refine unrc_nil ?_) | (with_reducible refine unr_cons ?_) | (with_reducible refine unr_nil ?_) | (with_reducible refine s_forU ?_)
  | (with_reducible refine iteT ?_) | (with_reducible refine iteF ?_) | (with_reducible refine e_chain ?_) | (with_reducible refine And.intro len3 ?_) | (with_reducible refine And.intro len4 ?_) | (with_reducible refine And.intro (by decide) ?_) | (with_reducible refine ite_d1 (by decide) ?_) | (with_reducible refine ite_d0 (by decide) ?_))
section
variable {P : Program} {w : World} {K : PySem.W.Frag} {mg : Str → Option Value} {base : Heap}
/-! ### operators with a term on the left -/
theorem e_methT {S : SpD} {r : En} {m : Mu} {k : D → Mu → Prop} {E : XK} {mn : Str} {ta : TE} {t : TA} (hl : ∀ u, (tmF K u).lookup mn = none) (h : wE K ta r m fun x m1 => ∃ u, x = tmD K u ∧ wA K t r m1 fun xs m2 => S (tmD K u :: xs) m2 k) : wE K (tMeth (CT K) mn (spOf K S) [] E ta t) r m k :=
  e_methI (h.mono fun x m1 ⟨u, e, c⟩ => ⟨tmF K u, e, hl u, by subst e; exact c⟩)
def rTW (K : PySem.W.Frag) (S : SpD) : R2 := fun x y H Q => ((∃ a dx fs b dy gs, x = .ref a ∧ y = .ref b ∧ H a = some (.ins (CT K) dx fs) ∧ H b = some (.ins (CT K) dy gs) ∧ spOf K S [x, y] H Q E0) ∨ (∃ a dx fs i, x = .ref a ∧ y = .int i ∧ H a = some (.ins (CT K) dx fs) ∧ spOf K S [x, y] H Q E0)) ∨ (∃ a dx fs b dy gs, x = .ref a ∧ y = .ref b ∧ H a = some (.ins (CT K) dx fs) ∧ H b = some (.ins (CS K) dy gs) ∧ spOf K S [x, y] H Q E0)
theorem r_TW {S : SpD} {m : Mu} {k : D → Mu → Prop} {d : D} {t u : Lin} (hn : Wth K d u) (h : S [tmD K t, d] m k) : wR K (rTW K S) (tmD K t) d m k := by
  cases hn with
  | tm u => exact r_or1 (r_or1 (r_same (.inl rfl) (.inl rfl) h))
  | num hq =>
    cases hq with
    | int i => exact r_or1 (r_or2 (r_oint (.inl rfl) h))
    | sh q => exact r_or2 (r_two (.inl rfl) (.inl rfl) h)
theorem opcT {nm : String} {m rm : Str} (T : Txt K mg) (h1 : PySem.dunder nm = m) (h2 : dunderR nm = rm) (M : Meth K (CT K) m (mT K m)) (Rm : Meth K (CT K) rm (mT K rm)) : OW.OpC K (CT K) nm (mT K m) (some (.ref (mT K rm))) := by
  subst h1 h2
  exact ⟨T.sf_Term, M.at_, M.fn, Rm.at_, .inr ⟨_, rfl⟩⟩
theorem opcT_add (T : Txt K mg) : OW.OpC K (CT K) "add" (mT K "__add__") (some (.ref (mT K "__radd__"))) := opcT T rfl rfl T.m_Term_add T.m_Term_radd
theorem opcT_sub (T : Txt K mg) : OW.OpC K (CT K) "sub" (mT K "__sub__") (some (.ref (mT K "__rsub__"))) := opcT T rfl rfl T.m_Term_sub T.m_Term_rsub
theorem opcT_mul (T : Txt K mg) : OW.OpC K (CT K) "mul" (mT K "__mul__") (some (.ref (mT K "__rmul__"))) := opcT T rfl rfl T.m_Term_mul T.m_Term_rmul
section
variable {X : Cx} {K' : PySem.W.Frag} {mg' : Str → Option Value} {S : SpD} {n : Nat} {fd : FuncData} {ps : List Str}
theorem oAddT (T : Txt K' mg') (G : FnOk X.prog X.w X.K X.mg X.base CX0 n (mT K' "__add__") fd ps (spOf K' S)) (hr : Room n X.A) (b : Binds X.K fd ps []) (hK : X.K = K' := by rfl) : OpR X (binaryOp .Add) (rTW K' S) := by
  subst hK
  exact OpR.or (OpR.or (OW.op_same (opcT_add T) G hr b pass0) (OW.op_int (fo := some (.builtin "int.__add__")) (ro := some (.builtin "int.__radd__")) (opcT_add T) (by kernel_rfl) (by kernel_rfl) G hr b pass0)) (OW.op_two (opcT_add T) (opc_add T) T.ne_Term_Share T.su_Share_Term G hr b pass0)
theorem oSubT (T : Txt K' mg') (G : FnOk X.prog X.w X.K X.mg X.base CX0 n (mT K' "__sub__") fd ps (spOf K' S)) (hr : Room n X.A) (b : Binds X.K fd ps []) (hK : X.K = K' := by rfl) : OpR X (binaryOp .Sub) (rTW K' S) := by
  subst hK
  exact OpR.or (OpR.or (OW.op_same (opcT_sub T) G hr b pass0) (OW.op_int (fo := some (.builtin "int.__sub__")) (ro := some (.builtin "int.__rsub__")) (opcT_sub T) (by kernel_rfl) (by kernel_rfl) G hr b pass0)) (OW.op_two (opcT_sub T) (opc_sub T) T.ne_Term_Share T.su_Share_Term G hr b pass0)
theorem oMulT (T : Txt K' mg') (G : FnOk X.prog X.w X.K X.mg X.base CX0 n (mT K' "__mul__") fd ps (spOf K' S)) (hr : Room n X.A) (b : Binds X.K fd ps []) (hK : X.K = K' := by rfl) : OpR X (binaryOp .Mult) (rTW K' S) := by
  subst hK
  exact OpR.or (OpR.or (OW.op_same (opcT_mul T) G hr b pass0) (OW.op_int (fo := some (.builtin "int.__mul__")) (ro := some (.builtin "int.__rmul__")) (opcT_mul T) (by kernel_rfl) (by kernel_rfl) G hr b pass0)) (OW.op_two (opcT_mul T) (opc_mul T) T.ne_Term_Share T.su_Share_Term G hr b pass0)
theorem oNegT (T : Txt K' mg') (G : FnOk X.prog X.w X.K X.mg X.base CX0 n (mT K' "__neg__") fd ps (spOf K' S)) (hr : Room n X.A) (b : Binds X.K fd ps []) (hK : X.K = K' := by rfl) : UnR X (unaryOp .USub) (rU1 (CT K') K' S) := by
  subst hK
  exact OW.un_own (.inl ⟨rfl, rfl⟩) T.m_Term_neg.at_ T.m_Term_neg.fn G hr b pass0
end
theorem lenz3 {a b c a' b' c' : D} : (zipD [a, b, c] [a', b', c']).length < 100000 := by show 3 < 100000; decide
local macro_rules | `(tactic| walk_at "d1") => `(tactic| first
  | (with_reducible refine isworth (by assumption) (by assumption) ?_) | (with_reducible refine asterm (by assumption) ?_) | (with_reducible refine isworth (by assumption) (Wth.tm _) ?_) | (with_reducible refine asterm (Wth.tm _) ?_)
  | (with_reducible refine i_zipT ?_) | (with_reducible refine unrc_z3 ?_) | (with_reducible refine e_lcU (gin_tup (gsin_one (by decide) (gsin_one (by decide) gsin_nil))) ?_) | (with_reducible refine g_tup rfl ?_) | (with_reducible refine gs_cons ?_) | (with_reducible refine gs_nil ?_)
  | (with_reducible refine And.intro lenz3 ?_) | (with_reducible refine Exists.intro _ (Exists.intro _ (And.intro rfl ?_)))
  | (with_reducible refine EN.i_enumT ?_) | (with_reducible refine unr_e3 ?_) | (with_reducible refine e_methT (fun _ => rfl) ?_) | (with_reducible refine a_star ?_)
  | (with_reducible refine r_TW (by assumption) ?_) | (with_reducible refine r_TW (Wth.tm _) ?_))
structure TwoT (K : PySem.W.Frag) (d : D) (t u : Lin) : Prop where
  wth : Wth K d u
  sz : ∃ B C, SzL B t ∧ SzL C u ∧ B + C ≤ 8996
theorem TwoT.c {d : D} {t u : Lin} (h : TwoT K d t u) : Two K (shD K u.c) t.c u.c := let ⟨B, C, h1, h2, h3⟩ := h.sz; ⟨.sh _, B, C, h1.c, h2.c, by omega⟩
theorem TwoT.x {d : D} {t u : Lin} (h : TwoT K d t u) : Two K (shD K u.x) t.x u.x := let ⟨B, C, h1, h2, h3⟩ := h.sz; ⟨.sh _, B, C, h1.x, h2.x, by omega⟩
theorem TwoT.y {d : D} {t u : Lin} (h : TwoT K d t u) : Two K (shD K u.y) t.y u.y := let ⟨B, C, h1, h2, h3⟩ := h.sz; ⟨.sh _, B, C, h1.y, h2.y, by omega⟩
theorem TwoT.z {d : D} {t u : Lin} (h : TwoT K d t u) : Two K (shD K u.z) t.z u.z := let ⟨B, C, h1, h2, h3⟩ := h.sz; ⟨.sh _, B, C, h1.z, h2.z, by omega⟩
def S_tbin (K : PySem.W.Frag) (f : Lin → Lin → Lin) : SpD := fun ds m k => ∃ t d u, ds = [tmD K t, d] ∧ TwoT K d t u ∧ k (tmD K (f t u)) m
theorem S_tbin_len {f : Lin → Lin → Lin} : ∀ ds m k, S_tbin K f ds m k → ds.length = 2 := fun ds m k h => by obtain ⟨t, d, u, rfl, _⟩ := h; rfl
/-- what the methods of terms lean on -/
structure Tm1 (P : Program) (w : World) (K : PySem.W.Frag) (mg : Str → Option Value) (base : Heap) : Prop where
  t0 : Tm0 P w K mg base
  isw : Fn P w K mg base 3 (He.ga K "is_worth") ["thing"] (S_is_worth K)
  ast : Fn P w K mg base 6 (He.ga K "as_term") ["thing"] (S_as_term K)
  scl : Fn P w K mg base 6 (mT K "scaled") ["self", "number"] (S_scaled K)
theorem sc_Term_add : FnScope ["self", "other", "more", "a", "b"] ["self", "other"] (defScope s_Term_add) := ⟨rfl, rfl, rfl, by decide +kernel, rfl, by decide +kernel, by decide +kernel⟩
theorem fn_Term_add (T : Txt K mg) (O : Tm1 P w K mg base) : Fn P w K mg base 7 (mT K "__add__") ["self", "other"] (S_tbin K Lin.add) := by
  obtain ⟨⟨_, _, ⟨⟨_, G_Term_init, b_Term_init⟩, _⟩, ⟨⟨_, G_Share_add, b_Share_add⟩, _⟩, _⟩, ⟨⟨_, G_is_worth, b_is_worth⟩, k_is_worth⟩, ⟨⟨_, G_as_term, b_as_term⟩, k_as_term⟩, _⟩ := O
  refine fn_of1 (kk := 6) T.F_Term_add sc_Term_add S_tbin_len (fun _ _ _ _ _ _ us hl => match us, hl with | [_, _], _ => rfl) ?_
  intro cdv A outer s H E hr
  refine ⟨_, (pss_cons (ps_if (pt_not (pt_val (pe_call G_is_worth (hr.mono (by decide)) rfl T.g_is_worth k_is_worth b_is_worth .nil pass0 (pa_cons (pv 1) pa_nil)))) (pss_one ps_never) pss_nil)
      (pss_cons (ps_set (i := 2) sc_Term_add.nd rfl (.inl rfl) (pe_call G_as_term (hr.mono (by decide)) rfl T.g_as_term k_as_term b_as_term .nil pass0 (pa_cons (pv 1) pa_nil)))
      (pss_one (ps_ret (pe_make T.k_Term G_Term_init (hr.mono (by decide)) rfl T.g_Term b_Term_init .nil pass0 (pa_cons (pe_op (oAddS (n := 5) T G_Share_add (hr.mono (by decide)) b_Share_add) (pe_fld (pv 0) rfl) (pe_fld (pv 2) rfl)) (pa_cons (pe_lc (own := [("a", 3), ("b", 4)]) rfl sc_Term_add.nd (RZ.pi_zipA rfl T.n_zip (pa_cons (pe_fld (pv 0) rfl) (pa_cons (pe_fld (pv 2) rfl) pa_nil))) (blkOk_by (own := [("a", 3), ("b", 4)]) (N := ["self", "other", "more", "a", "b"]) (sc := defScope s_Term_add) (by decide +kernel)) (fun _ _ _ _ _ => (pg_tupK2 (K := K) rfl (pg_tup rfl (pgs_cons (pg_name (i := 3) sc_Term_add.nd rfl (.inl rfl)) (pgs_cons (pg_name (i := 4) sc_Term_add.nd rfl (.inl rfl)) pgs_nil))))) (fun _ _ _ _ _ => pts_nil) (fun _ _ _ _ _ => (pe_op (oAddS (n := 5) T G_Share_add (hr.mono (by decide)) b_Share_add) (pv 3) (pv 4)))) pa_nil))))))), ?_⟩
  intro ds m k hS
  obtain ⟨t, d, u, rfl, h2, hk⟩ := hS
  have hw := h2.wth
  try dsimp only [cxOf, Cx.nox, Cx.wish]
  walk_at "d"
  refine ⟨_, _, _, rfl, h2.c, ?_⟩
  walk_at "d"
  refine ⟨_, _, _, rfl, h2.x, ?_⟩
  walk_at "d"
  refine ⟨_, _, _, rfl, h2.y, ?_⟩
  walk_at "d"
  refine ⟨_, _, _, rfl, h2.z, ?_⟩
  walk_at "d"
  exact hk
def S_tuna (K : PySem.W.Frag) (f : Lin → Lin) : SpD := fun ds m k => ∃ t, ds = [tmD K t] ∧ SzL 8990 t ∧ k (tmD K (f t)) m
theorem S_tuna_len {f : Lin → Lin} : ∀ ds m k, S_tuna K f ds m k → ds.length = 1 := fun ds m k h => by obtain ⟨t, rfl, _⟩ := h; rfl
theorem cast_neg1 : ((-1 : Int) : Rat) = -1 := by rfl
theorem sc_Term_neg : FnScope ["self"] ["self"] (defScope s_Term_neg) := ⟨rfl, rfl, rfl, by decide +kernel, rfl, by decide +kernel, by decide +kernel⟩
theorem fn_Term_neg (T : Txt K mg) (O : Tm1 P w K mg base) : Fn P w K mg base 7 (mT K "__neg__") ["self"] (S_tuna K Lin.neg) := by
  obtain ⟨_, _, _, ⟨⟨_, G_Term_scaled, b_Term_scaled⟩, _⟩⟩ := O
  refine fn_of1 (kk := 6) T.F_Term_neg sc_Term_neg S_tuna_len (fun _ _ _ _ _ _ us hl => match us, hl with | [_], _ => rfl) ?_
  intro cdv A outer s H E hr
  refine ⟨_, (pss_one (ps_ret (pe_meth (pv 0) T.c_Term T.m_Term_scaled G_Term_scaled (hr.mono (by decide)) b_Term_scaled .nil pass0 (pa_cons (pe_un un_neg pe_int) pa_nil)))), ?_⟩
  intro ds m k hS
  obtain ⟨t, rfl, h2, hk⟩ := hS
  try dsimp only [cxOf, Cx.nox, Cx.wish]
  walk_at "d"
  refine ⟨t, _, -1, rfl, ⟨.int (-1), 8990, 1, h2, sz_neg1, by decide⟩, ?_⟩
  exact hk
theorem TwoT.neg {d : D} {t u : Lin} {B C : Nat} (h1 : SzL B t) (h2 : SzL C u) (h3 : B + C ≤ 8990) : TwoT K (tmD K u.neg) t u.neg := ⟨.tm _, B, C + 1, h1, h2.neg, by omega⟩
def S_tbin2 (K : PySem.W.Frag) (f : Lin → Lin → Lin) : SpD := fun ds m k => ∃ t d u, ds = [tmD K t, d] ∧ Wth K d u ∧ (∃ B C, SzL B t ∧ SzL C u ∧ B + C ≤ 8990) ∧ k (tmD K (f t u)) m
theorem S_tbin2_len {f : Lin → Lin → Lin} : ∀ ds m k, S_tbin2 K f ds m k → ds.length = 2 := fun ds m k h => by obtain ⟨t, d, u, rfl, _⟩ := h; rfl
/-- and on sums -/
structure Tm2 (P : Program) (w : World) (K : PySem.W.Frag) (mg : Str → Option Value) (base : Heap) : Prop where
  t1 : Tm1 P w K mg base
  add : Fn P w K mg base 7 (mT K "__add__") ["self", "other"] (S_tbin K Lin.add)
  neg : Fn P w K mg base 7 (mT K "__neg__") ["self"] (S_tuna K Lin.neg)
theorem sc_Term_radd : FnScope ["self", "other"] ["self", "other"] (defScope s_Term_radd) := ⟨rfl, rfl, rfl, by decide +kernel, rfl, by decide +kernel, by decide +kernel⟩
theorem fn_Term_radd (T : Txt K mg) (O : Tm2 P w K mg base) : Fn P w K mg base 8 (mT K "__radd__") ["self", "other"] (S_tbin K Lin.add) := by
  obtain ⟨⟨_, ⟨⟨_, G_is_worth, b_is_worth⟩, k_is_worth⟩, _, _⟩, ⟨⟨_, G_Term_add, b_Term_add⟩, _⟩, _⟩ := O
  refine fn_of1 (kk := 7) T.F_Term_radd sc_Term_radd S_tbin_len (fun _ _ _ _ _ _ us hl => match us, hl with | [_, _], _ => rfl) ?_
  intro cdv A outer s H E hr
  refine ⟨_, (pss_cons (ps_if (pt_not (pt_val (pe_call G_is_worth (hr.mono (by decide)) rfl T.g_is_worth k_is_worth b_is_worth .nil pass0 (pa_cons (pv 1) pa_nil)))) (pss_one ps_never) pss_nil)
      (pss_one (ps_ret (pe_op (oAddT (n := 7) T G_Term_add (hr.mono (by decide)) b_Term_add) (pv 0) (pv 1))))), ?_⟩
  intro ds m k hS
  obtain ⟨t, d, u, rfl, h2, hk⟩ := hS
  have hw := h2.wth
  try dsimp only [cxOf, Cx.nox, Cx.wish]
  walk_at "d"
  exact ⟨t, d, u, rfl, h2, hk⟩
theorem sc_Term_sub : FnScope ["self", "other"] ["self", "other"] (defScope s_Term_sub) := ⟨rfl, rfl, rfl, by decide +kernel, rfl, by decide +kernel, by decide +kernel⟩
theorem fn_Term_sub (T : Txt K mg) (O : Tm2 P w K mg base) : Fn P w K mg base 8 (mT K "__sub__") ["self", "other"] (S_tbin2 K Lin.sub) := by
  obtain ⟨⟨_, ⟨⟨_, G_is_worth, b_is_worth⟩, k_is_worth⟩, ⟨⟨_, G_as_term, b_as_term⟩, k_as_term⟩, _⟩, ⟨⟨_, G_Term_add, b_Term_add⟩, _⟩, ⟨⟨_, G_Term_neg, b_Term_neg⟩, _⟩⟩ := O
  refine fn_of1 (kk := 7) T.F_Term_sub sc_Term_sub S_tbin2_len (fun _ _ _ _ _ _ us hl => match us, hl with | [_, _], _ => rfl) ?_
  intro cdv A outer s H E hr
  refine ⟨_, (pss_cons (ps_if (pt_not (pt_val (pe_call G_is_worth (hr.mono (by decide)) rfl T.g_is_worth k_is_worth b_is_worth .nil pass0 (pa_cons (pv 1) pa_nil)))) (pss_one ps_never) pss_nil)
      (pss_one (ps_ret (pe_op (oAddT (n := 7) T G_Term_add (hr.mono (by decide)) b_Term_add) (pv 0) (pe_un (oNegT (n := 7) T G_Term_neg (hr.mono (by decide)) b_Term_neg) (pe_call G_as_term (hr.mono (by decide)) rfl T.g_as_term k_as_term b_as_term .nil pass0 (pa_cons (pv 1) pa_nil))))))), ?_⟩
  intro ds m k hS
  obtain ⟨t, d, u, rfl, hw, ⟨B, C, h1, h2, h3⟩, hk⟩ := hS
  try dsimp only [cxOf, Cx.nox, Cx.wish]
  walk_at "d"
  refine ⟨u, rfl, h2.mono (by omega), ?_⟩
  walk_at "d"
  exact ⟨t, _, _, rfl, TwoT.neg (d := d) h1 h2 h3, hk⟩
theorem sc_Term_rsub : FnScope ["self", "other"] ["self", "other"] (defScope s_Term_rsub) := ⟨rfl, rfl, rfl, by decide +kernel, rfl, by decide +kernel, by decide +kernel⟩
theorem fn_Term_rsub (T : Txt K mg) (O : Tm2 P w K mg base) : Fn P w K mg base 8 (mT K "__rsub__") ["self", "other"] (S_tbin2 K (fun t u => Lin.sub u t)) := by
  obtain ⟨⟨_, ⟨⟨_, G_is_worth, b_is_worth⟩, k_is_worth⟩, ⟨⟨_, G_as_term, b_as_term⟩, k_as_term⟩, _⟩, ⟨⟨_, G_Term_add, b_Term_add⟩, _⟩, ⟨⟨_, G_Term_neg, b_Term_neg⟩, _⟩⟩ := O
  refine fn_of1 (kk := 7) T.F_Term_rsub sc_Term_rsub S_tbin2_len (fun _ _ _ _ _ _ us hl => match us, hl with | [_, _], _ => rfl) ?_
  intro cdv A outer s H E hr
  refine ⟨_, (pss_cons (ps_if (pt_not (pt_val (pe_call G_is_worth (hr.mono (by decide)) rfl T.g_is_worth k_is_worth b_is_worth .nil pass0 (pa_cons (pv 1) pa_nil)))) (pss_one ps_never) pss_nil)
      (pss_one (ps_ret (pe_op (oAddT (n := 7) T G_Term_add (hr.mono (by decide)) b_Term_add) (pe_call G_as_term (hr.mono (by decide)) rfl T.g_as_term k_as_term b_as_term .nil pass0 (pa_cons (pv 1) pa_nil)) (pe_un (oNegT (n := 7) T G_Term_neg (hr.mono (by decide)) b_Term_neg) (pv 0)))))), ?_⟩
  intro ds m k hS
  obtain ⟨t, d, u, rfl, hw, ⟨B, C, h1, h2, h3⟩, hk⟩ := hS
  try dsimp only [cxOf, Cx.nox, Cx.wish]
  walk_at "d"
  refine ⟨t, rfl, h1.mono (by omega), ?_⟩
  walk_at "d"
  exact ⟨u, _, _, rfl, TwoT.neg (d := d) h2 h1 (by omega), hk⟩
theorem sc_Term_mul : FnScope ["self", "other"] ["self", "other"] (defScope s_Term_mul) := ⟨rfl, rfl, rfl, by decide +kernel, rfl, by decide +kernel, by decide +kernel⟩
theorem fn_Term_mul (T : Txt K mg) (O : Tm1 P w K mg base) : Fn P w K mg base 7 (mT K "__mul__") ["self", "other"] (S_scaled K) := by
  obtain ⟨⟨⟨⟨⟨_, G_is_number, b_is_number⟩, k_is_number⟩, _, _⟩, _, _, _, _⟩, _, _, ⟨⟨_, G_Term_scaled, b_Term_scaled⟩, _⟩⟩ := O
  refine fn_of1 (kk := 6) T.F_Term_mul sc_Term_mul S_scaled_len (fun _ _ _ _ _ _ us hl => match us, hl with | [_, _], _ => rfl) ?_
  intro cdv A outer s H E hr
  refine ⟨_, (pss_cons (ps_if (pt_val (pe_callB call_isi rfl T.n_isinstance (by decide +kernel) (pa_cons (pv 1) (pa_cons (pe_glob (v := .ref _) rfl T.g_Term rfl) pa_nil)))) (pss_one ps_never) pss_nil)
      (pss_cons (ps_if (pt_not (pt_val (pe_call G_is_number (hr.mono (by decide)) rfl T.g_is_number k_is_number b_is_number .nil pass0 (pa_cons (pv 1) pa_nil)))) (pss_one ps_never) pss_nil)
      (pss_one (ps_ret (pe_meth (pv 0) T.c_Term T.m_Term_scaled G_Term_scaled (hr.mono (by decide)) b_Term_scaled .nil pass0 (pa_cons (pv 1) pa_nil)))))), ?_⟩
  intro ds m k hS
  obtain ⟨t, d, q, rfl, h2, hk⟩ := hS
  have hn := h2.num
  try dsimp only [cxOf, Cx.nox, Cx.wish]
  walk_at "d"
  have hc : ∃ tt, TI2 K m d tt ∧ PySem.W.kitOne K tt (.ref (CT K)) = some false := by
    cases hn with
    | int i => exact ⟨_, .int i, T.kt_int_Term⟩
    | sh q => exact ⟨_, .ins (.inl rfl) T.i_Share, T.kk_Share_Term⟩
  obtain ⟨tt, h3, h4⟩ := hc
  refine c_isi (.inr ⟨_, rfl, rfl⟩) h3 h4 ?_
  walk_at "d"
  exact ⟨t, d, q, rfl, h2, hk⟩
theorem sc_Term_rmul : FnScope ["self", "other"] ["self", "other"] (defScope s_Term_rmul) := ⟨rfl, rfl, rfl, by decide +kernel, rfl, by decide +kernel, by decide +kernel⟩
theorem fn_Term_rmul (T : Txt K mg) (O : Tm1 P w K mg base) : Fn P w K mg base 7 (mT K "__rmul__") ["self", "other"] (S_scaled K) := by
  obtain ⟨⟨⟨⟨⟨_, G_is_number, b_is_number⟩, k_is_number⟩, _, _⟩, _, _, _, _⟩, _, _, ⟨⟨_, G_Term_scaled, b_Term_scaled⟩, _⟩⟩ := O
  refine fn_of1 (kk := 6) T.F_Term_rmul sc_Term_rmul S_scaled_len (fun _ _ _ _ _ _ us hl => match us, hl with | [_, _], _ => rfl) ?_
  intro cdv A outer s H E hr
  refine ⟨_, (pss_cons (ps_if (pt_not (pt_val (pe_call G_is_number (hr.mono (by decide)) rfl T.g_is_number k_is_number b_is_number .nil pass0 (pa_cons (pv 1) pa_nil)))) (pss_one ps_never) pss_nil)
      (pss_one (ps_ret (pe_meth (pv 0) T.c_Term T.m_Term_scaled G_Term_scaled (hr.mono (by decide)) b_Term_scaled .nil pass0 (pa_cons (pv 1) pa_nil))))), ?_⟩
  intro ds m k hS
  obtain ⟨t, d, q, rfl, h2, hk⟩ := hS
  have hn := h2.num
  try dsimp only [cxOf, Cx.nox, Cx.wish]
  walk_at "d"
  exact ⟨t, d, q, rfl, h2, hk⟩
/-! ### over, at -/
theorem Sz.inv {C : Nat} {q : Rat} (h : Sz C q) (hq : q.num ≠ 0) (hC : 0 < C) : Sz C (1 / q) := by
  rw [← div_eq 1 q]
  exact Sz.div (Int.mul_ne_zero (den_ne 1) hq) (by show (1 * (q.den : Int)).natAbs < _; rw [Int.one_mul]; exact h.dn) (by show (1 * q.num).natAbs < _; rw [Int.one_mul]; exact h.n)
theorem Sz.pos {C : Nat} {q : Rat} (h : Sz C q) (hq : q ≠ 0) : 0 < C := by
  rcases Nat.eq_zero_or_pos C with rfl | h0
  · have h1 := h.d
    have := q.den_nz
    simp at h1
    omega
  · exact h0
def S_over (K : PySem.W.Frag) : SpD := fun ds m k => ∃ t d q, ds = [tmD K t, d] ∧ Num K d q ∧ q ≠ 0 ∧ (∃ B C, SzL B t ∧ Sz C q ∧ B + C ≤ 8990) ∧ k (tmD K (t.scale (1 / q))) m
def ptv (qs : List Rat) (i : Nat) : Rat := qs.getD i 0
def Lin.at (t : Lin) (qs : List Rat) : Rat := t.c + t.x * ptv qs 0 + t.y * ptv qs 1 + t.z * ptv qs 2
def S_at (K : PySem.W.Frag) : SpD := fun ds m k => ∃ t d qs, ds = [tmD K t, d] ∧ Pt K d qs ∧ (∃ B C, SzL B t ∧ 0 < C ∧ (∀ q ∈ qs, Sz C q) ∧ 4 * B + 3 * C + 3 ≤ 8990) ∧ k (shD K (t.at qs)) m
theorem sc_Term_at : FnScope ["self", "point", "found", "k", "share"] ["self", "point"] (defScope s_Term_at) := ⟨rfl, rfl, rfl, by decide +kernel, rfl, by decide +kernel, by decide +kernel⟩
theorem fn_Term_at (T : Txt K mg) (O : Tm0 P w K mg base) (Ow : Fn P w K mg base 5 (He.ga K "worth_of") ["point", "k"] (S_worth K)) : Fn P w K mg base 6 (mT K "at") ["self", "point"] (S_at K) := by
  obtain ⟨_, _, _, ⟨⟨_, G_Share_add, b_Share_add⟩, _⟩, ⟨⟨_, G_Share_mul, b_Share_mul⟩, _⟩⟩ := O
  obtain ⟨⟨_, G_worth_of, b_worth_of⟩, k_worth_of⟩ := Ow
  refine fn_of1 (kk := 5) T.F_Term_at sc_Term_at (fun ds m k h => by obtain ⟨t, d, u, rfl, _⟩ := h; rfl) (fun _ _ _ _ _ _ us hl => match us, hl with | [_, _], _ => rfl) ?_
  intro cdv A outer s H E hr
  refine ⟨_, (pss_cons (ps_set (i := 2) sc_Term_at.nd rfl (.inl rfl) (pe_fld (pv 0) rfl))
      (pss_cons (ps_for PassesOwn.never rfl (EN.pi_enumT rfl T.n_enumerate (pa_cons (pe_fld (pv 0) rfl) pa_nil)) (pg_tup rfl (pgs_cons (pg_name (i := 3) sc_Term_at.nd rfl (.inl rfl)) (pgs_cons (pg_name (i := 4) sc_Term_at.nd rfl (.inl rfl)) pgs_nil))) (pss_one (ps_set (i := 2) sc_Term_at.nd rfl (.inl rfl) (pe_op (oAddS (n := 5) T G_Share_add (hr.mono (by decide)) b_Share_add) (pv 2) (pe_op (oMulS (n := 5) T G_Share_mul (hr.mono (by decide)) b_Share_mul) (pv 4) (pe_call G_worth_of (hr.mono (by decide)) rfl T.g_worth_of k_worth_of b_worth_of .nil pass0 (pa_cons (pv 1) (pa_cons (pv 3) pa_nil))))))))
      (pss_one (ps_ret (pv 2))))), ?_⟩
  intro ds m k hS
  obtain ⟨t, d, qs, rfl, hp, ⟨B, C, h1, hC, h2, h3⟩, hk⟩ := hS
  try dsimp only [cxOf, Cx.nox, Cx.wish]
  have hz : ∀ i, Sz C (qs.getD i 0) := fun i => by
    rw [List.getD_eq_getElem?_getD]
    rcases hi : qs[i]? with _ | q
    · exact sz_zero C hC
    · exact h2 q (List.mem_of_getElem? hi)
  walk_at "d"
  refine ⟨d, qs, 0, rfl, hp, ?_⟩
  walk_at "d"
  refine ⟨_, _, _, rfl, ⟨.sh _, B, C, h1.x, hz 0, by omega⟩, ?_⟩
  walk_at "d"
  refine ⟨_, _, _, rfl, ⟨.sh _, B, B + C, h1.c, h1.x.mul (hz 0), by omega⟩, ?_⟩
  walk_at "d"
  refine ⟨d, qs, 1, rfl, hp, ?_⟩
  walk_at "d"
  refine ⟨_, _, _, rfl, ⟨.sh _, B, C, h1.y, hz 1, by omega⟩, ?_⟩
  walk_at "d"
  have s1 := h1.c.add (h1.x.mul (hz 0))
  refine ⟨_, _, _, rfl, ⟨.sh _, _, B + C, s1, h1.y.mul (hz 1), by omega⟩, ?_⟩
  walk_at "d"
  refine ⟨d, qs, 2, rfl, hp, ?_⟩
  walk_at "d"
  refine ⟨_, _, _, rfl, ⟨.sh _, B, C, h1.z, hz 2, by omega⟩, ?_⟩
  walk_at "d"
  have s2 := s1.add (h1.y.mul (hz 1))
  refine ⟨_, _, _, rfl, ⟨.sh _, _, B + C, s2, h1.z.mul (hz 2), by omega⟩, ?_⟩
  walk_at "d"
  exact hk
end
end LW
end

section
set_option Elab.async false
set_option linter.all false
set_option maxRecDepth 100000
set_option maxHeartbeats 4000000
set_option exponentiation.threshold 10000
namespace LW
open MA
/-! ### the row's one form, by plain arithmetic -/
def G4 (a b c d : Int) : Nat := Int.gcd (Int.gcd (Int.gcd (Int.gcd 0 a : Nat) b : Nat) c : Nat) d
theorem G4_dvd (a b c d : Int) : ((G4 a b c d : Nat) : Int) ∣ a ∧ ((G4 a b c d : Nat) : Int) ∣ b ∧ ((G4 a b c d : Nat) : Int) ∣ c ∧ ((G4 a b c d : Nat) : Int) ∣ d := by
  unfold G4
  have h4 := Int.gcd_dvd_left ((Int.gcd (Int.gcd (Int.gcd 0 a : Nat) b : Nat) c : Nat) : Int) d
  have h4' := Int.gcd_dvd_right ((Int.gcd (Int.gcd (Int.gcd 0 a : Nat) b : Nat) c : Nat) : Int) d
  have h3 := Int.gcd_dvd_left ((Int.gcd (Int.gcd 0 a : Nat) b : Nat) : Int) c
  have h3' := Int.gcd_dvd_right ((Int.gcd (Int.gcd 0 a : Nat) b : Nat) : Int) c
  have h2 := Int.gcd_dvd_left ((Int.gcd 0 a : Nat) : Int) b
  have h2' := Int.gcd_dvd_right ((Int.gcd 0 a : Nat) : Int) b
  have h1' := Int.gcd_dvd_right (0 : Int) a
  exact ⟨Int.dvd_trans h4 (Int.dvd_trans h3 (Int.dvd_trans h2 h1')), Int.dvd_trans h4 (Int.dvd_trans h3 h2'), Int.dvd_trans h4 h3', h4'⟩
theorem dvd_G4 {k a b c d : Int} (h1 : k ∣ a) (h2 : k ∣ b) (h3 : k ∣ c) (h4 : k ∣ d) : k ∣ ((G4 a b c d : Nat) : Int) := by
  unfold G4
  exact Int.dvd_coe_gcd (Int.dvd_coe_gcd (Int.dvd_coe_gcd (Int.dvd_coe_gcd (Int.dvd_zero k) h1) h2) h3) h4
theorem G4_zero {a b c d : Int} (h : G4 a b c d = 0) : a = 0 ∧ b = 0 ∧ c = 0 ∧ d = 0 := by
  have := G4_dvd a b c d
  rw [h] at this
  exact ⟨Int.zero_dvd.mp this.1, Int.zero_dvd.mp this.2.1, Int.zero_dvd.mp this.2.2.1, Int.zero_dvd.mp this.2.2.2⟩
theorem G4_div {a b c d : Int} : G4 (a / (G4 a b c d : Nat)) (b / (G4 a b c d : Nat)) (c / (G4 a b c d : Nat)) (d / (G4 a b c d : Nat)) ≤ 1 := by
  obtain ⟨h1, h2, h3, h4⟩ := G4_dvd a b c d
  rcases Nat.eq_zero_or_pos (G4 a b c d) with hz | hp
  · rw [hz]
    simp only [Int.natCast_zero, Int.ediv_zero]
    decide
  · generalize hg : G4 a b c d = g at *
    obtain ⟨x, rfl⟩ := h1
    obtain ⟨y, rfl⟩ := h2
    obtain ⟨z, rfl⟩ := h3
    obtain ⟨u, rfl⟩ := h4
    have hg0 : (g : Int) ≠ 0 := by omega
    rw [Int.mul_ediv_cancel_left _ hg0, Int.mul_ediv_cancel_left _ hg0, Int.mul_ediv_cancel_left _ hg0, Int.mul_ediv_cancel_left _ hg0]
    obtain ⟨k1, k2, k3, k4⟩ := G4_dvd x y z u
    have hd := dvd_G4 (Int.mul_dvd_mul_left (g : Int) k1) (Int.mul_dvd_mul_left (g : Int) k2) (Int.mul_dvd_mul_left (g : Int) k3) (Int.mul_dvd_mul_left (g : Int) k4)
    rw [hg] at hd
    have hd2 : g * G4 x y z u ∣ g := by
      rw [← Int.natCast_mul] at hd
      exact Int.natCast_dvd_natCast.mp hd
    have hle := Nat.le_of_dvd hp hd2
    rcases Nat.lt_or_ge 1 (G4 x y z u) with h5 | h5
    · have h6 : g * 2 ≤ g * G4 x y z u := Nat.mul_le_mul_left g h5
      omega
    · exact h5
def nn (b : Nat) (s : Rat) : Int := s.num * ((b : Int) / (s.den : Int))
theorem mul_nn {b : Nat} {s : Rat} (h : s.den ∣ b) (g : Int) : s * Rat.divInt (b : Int) g = Rat.divInt (nn b s) g := by
  obtain ⟨c, rfl⟩ := h
  have hd : ((s.den : Nat) : Int) ≠ 0 := den_ne s
  unfold nn
  rw [Int.natCast_mul, Int.mul_ediv_cancel_left _ hd]
  have e0 : s * Rat.divInt ((s.den : Int) * (c : Int)) g = Rat.divInt s.num (s.den : Int) * Rat.divInt ((s.den : Int) * (c : Int)) g := by rw [Rat.num_divInt_den]
  rw [e0, Rat.divInt_mul_divInt]
  have e1 : s.num * ((s.den : Int) * (c : Int)) = (s.den : Int) * (s.num * (c : Int)) := by grind
  rw [e1, Rat.divInt_mul_left hd]
theorem divInt_exact {n g : Int} (hg : g ≠ 0) (h : g ∣ n) : Rat.divInt n g = ((n / g : Int) : Rat) := by
  obtain ⟨k, rfl⟩ := h
  rw [Int.mul_ediv_cancel_left _ hg]
  have e : Rat.divInt (g * k) (g * 1) = Rat.divInt k 1 := Rat.divInt_mul_left hg
  rw [Int.mul_one] at e
  rw [e, divInt_one]
namespace Lin
def bot (t : Lin) : Nat := Nat.lcm (Nat.lcm (Nat.lcm (Nat.lcm 1 t.c.den) t.x.den) t.y.den) t.z.den
def part (t : Lin) : Nat := G4 (nn t.bot t.c) (nn t.bot t.x) (nn t.bot t.y) (nn t.bot t.z)
def wf (t : Lin) : Rat := if t.part = 0 then 1 else Rat.divInt (t.bot : Int) (t.part : Int)
def prim (t : Lin) : Lin := t.scale t.wf
def ofI (a b c d : Int) : Lin := ⟨a, b, c, d⟩
theorem bot_dvd (t : Lin) : t.c.den ∣ t.bot ∧ t.x.den ∣ t.bot ∧ t.y.den ∣ t.bot ∧ t.z.den ∣ t.bot := by
  unfold bot
  exact ⟨Nat.dvd_trans (Nat.dvd_lcm_right _ _) (Nat.dvd_trans (Nat.dvd_lcm_left _ _) (Nat.dvd_trans (Nat.dvd_lcm_left _ _) (Nat.dvd_lcm_left _ _))), Nat.dvd_trans (Nat.dvd_lcm_right _ _) (Nat.dvd_trans (Nat.dvd_lcm_left _ _) (Nat.dvd_lcm_left _ _)), Nat.dvd_trans (Nat.dvd_lcm_right _ _) (Nat.dvd_lcm_left _ _), Nat.dvd_lcm_right _ _⟩
theorem bot_pos (t : Lin) : 0 < t.bot := by
  unfold bot
  have h1 := t.c.den_nz
  have h2 := t.x.den_nz
  have h3 := t.y.den_nz
  have h4 := t.z.den_nz
  exact Nat.lcm_pos (Nat.lcm_pos (Nat.lcm_pos (Nat.lcm_pos (by decide) (by omega)) (by omega)) (by omega)) (by omega)
theorem nn_zero {b : Nat} {s : Rat} (hb : 0 < b) (hd : s.den ∣ b) (h : nn b s = 0) : s = 0 := by
  unfold nn at h
  rcases Int.mul_eq_zero.mp h with h1 | h1
  · exact Rat.num_eq_zero.mp h1
  · exfalso
    obtain ⟨c, rfl⟩ := hd
    rw [Int.natCast_mul, Int.mul_ediv_cancel_left _ (den_ne s)] at h1
    have : c = 0 := by omega
    subst this
    simp at hb
theorem prim_eq (t : Lin) : t.prim = ofI (nn t.bot t.c / t.part) (nn t.bot t.x / t.part) (nn t.bot t.y / t.part) (nn t.bot t.z / t.part) := by
  obtain ⟨d1, d2, d3, d4⟩ := t.bot_dvd
  have hb := t.bot_pos
  unfold prim wf
  by_cases h : t.part = 0
  · obtain ⟨z1, z2, z3, z4⟩ := G4_zero h
    rw [if_pos h]
    have e1 := nn_zero hb d1 z1
    have e2 := nn_zero hb d2 z2
    have e3 := nn_zero hb d3 z3
    have e4 := nn_zero hb d4 z4
    rw [z1, z2, z3, z4]
    unfold scale ofI
    rw [e1, e2, e3, e4]
    simp
  · rw [if_neg h]
    obtain ⟨k1, k2, k3, k4⟩ := G4_dvd (nn t.bot t.c) (nn t.bot t.x) (nn t.bot t.y) (nn t.bot t.z)
    have h0 : ((t.part : Nat) : Int) ≠ 0 := by omega
    unfold scale ofI
    rw [mul_nn d1, mul_nn d2, mul_nn d3, mul_nn d4, divInt_exact h0 k1, divInt_exact h0 k2, divInt_exact h0 k3, divInt_exact h0 k4]
theorem bot_int (a b c d : Int) : (ofI a b c d).bot = 1 := by
  show Nat.lcm (Nat.lcm (Nat.lcm (Nat.lcm 1 1) 1) 1) 1 = 1
  rfl
theorem nn_int (a : Int) : nn 1 (a : Rat) = a := by
  unfold nn
  show a * (((1 : Nat) : Int) / ((1 : Nat) : Int)) = a
  simp
theorem part_int (a b c d : Int) : (ofI a b c d).part = G4 a b c d := by
  unfold part
  rw [bot_int]
  show G4 (nn 1 (a : Rat)) (nn 1 (b : Rat)) (nn 1 (c : Rat)) (nn 1 (d : Rat)) = _
  rw [nn_int, nn_int, nn_int, nn_int]
theorem prim_int (a b c d : Int) : (ofI a b c d).prim = ofI (a / G4 a b c d) (b / G4 a b c d) (c / G4 a b c d) (d / G4 a b c d) := by
  rw [prim_eq, part_int, bot_int]
  show ofI (nn 1 (a : Rat) / _) (nn 1 (b : Rat) / _) (nn 1 (c : Rat) / _) (nn 1 (d : Rat) / _) = _
  rw [nn_int, nn_int, nn_int, nn_int]
/-- in its one form -/
def IsP (t : Lin) : Prop := ∃ a b c d, t = ofI a b c d ∧ G4 a b c d ≤ 1
theorem prim_isP (t : Lin) : t.prim.IsP := ⟨_, _, _, _, t.prim_eq, G4_div⟩
theorem isP_prim {t : Lin} (h : t.IsP) : t.prim = t := by
  obtain ⟨a, b, c, d, rfl, h⟩ := h
  rw [prim_int]
  rcases Nat.lt_or_ge (G4 a b c d) 1 with h1 | h1
  · have h0 : G4 a b c d = 0 := by omega
    obtain ⟨rfl, rfl, rfl, rfl⟩ := G4_zero h0
    rw [h0]
    rfl
  · have h0 : G4 a b c d = 1 := by omega
    rw [h0]
    simp
theorem neg_ofI (a b c d : Int) : (ofI a b c d).neg = ofI (-a) (-b) (-c) (-d) := by
  unfold neg scale ofI
  simp [Rat.intCast_neg, Rat.mul_neg]
theorem isP_neg {t : Lin} (h : t.IsP) : t.neg.IsP := by
  obtain ⟨a, b, c, d, rfl, h⟩ := h
  refine ⟨_, _, _, _, neg_ofI a b c d, ?_⟩
  have e : G4 (-a) (-b) (-c) (-d) = G4 a b c d := by unfold G4; simp only [Int.gcd_neg]
  rw [e]; exact h
theorem wf_pos (t : Lin) : 0 < t.wf := by
  unfold wf
  by_cases h : t.part = 0
  · rw [if_pos h]; decide
  · rw [if_neg h]
    have hb := t.bot_pos
    have := Rat.divInt_nonneg (a := (t.bot : Int)) (b := (t.part : Int)) (by omega) (by omega)
    rcases Rat.le_iff_lt_or_eq.mp this with h1 | h1
    · exact h1
    · exfalso
      have h2 : Rat.divInt (t.bot : Int) (t.part : Int) = Rat.divInt 0 1 := by rw [← h1]; rfl
      have h3 := (Rat.divInt_eq_divInt_iff (by omega) (by decide)).mp h2
      omega
theorem lcm_lt {a b X Y : Nat} (ha : a < 2 ^ X) (hb : b < 2 ^ Y) : Nat.lcm a b < 2 ^ (X + Y) := by
  refine Nat.lt_of_le_of_lt (Nat.div_le_self _ _) ?_
  rw [Nat.pow_add]
  exact Nat.mul_lt_mul'' ha hb
theorem bot_lt {B : Nat} {t : Lin} (h : SzL B t) : t.bot < 2 ^ (1 + B + B + B + B) := lcm_lt (lcm_lt (lcm_lt (lcm_lt (by decide) h.c.d) h.x.d) h.y.d) h.z.d
theorem nn_lt {B C b : Nat} {s : Rat} (h : Sz B s) (hb : b < 2 ^ C) : (nn b s).natAbs < 2 ^ (B + C) := by
  unfold nn
  refine mul_lt h.n ?_
  rw [← Int.natCast_ediv, Int.natAbs_natCast]
  exact Nat.lt_of_le_of_lt (Nat.div_le_self _ _) hb
theorem sz_int {B : Nat} {a : Int} (h : a.natAbs < 2 ^ B) (hB : 0 < B) : Sz B (a : Rat) := ⟨h, Nat.one_lt_two_pow (by omega)⟩
theorem sz_posB {B : Nat} {q : Rat} (h : Sz B q) : 0 < B := by
  rcases Nat.eq_zero_or_pos B with rfl | h0
  · have h1 := h.d
    have := q.den_nz
    simp at h1
    omega
  · exact h0
theorem natAbs_ediv_le (a : Int) (g : Nat) : (a / (g : Int)).natAbs ≤ a.natAbs := Int.natAbs_ediv_le_natAbs a g
theorem prim_sz {B : Nat} {t : Lin} (h : SzL B t) : SzL (5 * B + 1) t.prim := by
  have hb := bot_lt h
  have hB := sz_posB h.c
  rw [prim_eq]
  have key : ∀ s : Rat, Sz B s → Sz (5 * B + 1) ((nn t.bot s / (t.part : Int) : Int) : Rat) := fun s hs => by
    refine sz_int (Nat.lt_of_le_of_lt (natAbs_ediv_le _ _) ?_) (by omega)
    have := nn_lt hs hb
    rw [show B + (1 + B + B + B + B) = 5 * B + 1 by omega] at this
    exact this
  exact ⟨key _ h.c, key _ h.x, key _ h.y, key _ h.z⟩
theorem part_lt {B : Nat} {t : Lin} (h : SzL B t) (hp : t.part ≠ 0) : t.part < 2 ^ (5 * B + 1) := by
  have hb := bot_lt h
  have key : ∀ s : Rat, Sz B s → ((t.part : Nat) : Int) ∣ nn t.bot s → nn t.bot s ≠ 0 → t.part < 2 ^ (5 * B + 1) := fun s hs hd h0 => by
    have h1 := nn_lt hs hb
    rw [show B + (1 + B + B + B + B) = 5 * B + 1 by omega] at h1
    have h2 := Int.natAbs_dvd_natAbs.mpr hd
    rw [Int.natAbs_natCast] at h2
    exact Nat.lt_of_le_of_lt (Nat.le_of_dvd (by omega) h2) h1
  obtain ⟨k1, k2, k3, k4⟩ := G4_dvd (nn t.bot t.c) (nn t.bot t.x) (nn t.bot t.y) (nn t.bot t.z)
  by_cases z1 : nn t.bot t.c = 0
  · by_cases z2 : nn t.bot t.x = 0
    · by_cases z3 : nn t.bot t.y = 0
      · by_cases z4 : nn t.bot t.z = 0
        · exfalso
          apply hp
          unfold part
          rw [z1, z2, z3, z4]
          rfl
        · exact key _ h.z k4 z4
      · exact key _ h.y k3 z3
    · exact key _ h.x k2 z2
  · exact key _ h.c k1 z1
theorem wf_sz {B : Nat} {t : Lin} (h : SzL B t) : Sz (5 * B + 1) t.wf := by
  have hb := bot_lt h
  have hB := sz_posB h.c
  unfold wf
  by_cases hp : t.part = 0
  · rw [if_pos hp]; exact sz_one _ (by omega)
  · rw [if_neg hp]
    refine Sz.div (by omega) ?_ ?_
    · rw [Int.natAbs_natCast]
      exact Nat.lt_of_lt_of_le hb (Nat.pow_le_pow_right (by decide) (by omega))
    · rw [Int.natAbs_natCast]
      exact part_lt h hp
end Lin
end LW
end

section
set_option Elab.async false
set_option linter.all false
set_option maxRecDepth 100000
set_option maxHeartbeats 1000000
set_option exponentiation.threshold 10000
namespace LW
open PySem PySem.Spec PyProof.Rows L2 DL MA
local macro_rules | `(tactic| walk_at "d1") => `(tactic| first
  | (with_reducible refine s_seq ?_) | (with_reducible refine s_set ?_) | (with_reducible refine s_ret ?_) | (with_reducible refine s_if ?_) | (with_reducible refine s_fld ?_) | (with_reducible refine s_next ?_) | (with_reducible refine s_par ?_)
  | (with_reducible refine e_var rfl ?_) | (with_reducible refine e_int ?_) | (with_reducible refine e_bl ?_) | (with_reducible refine e_non ?_) | (with_reducible refine e_str ?_) | (with_reducible refine e_ty ?_) | (with_reducible refine e_ref ?_)
  | (with_reducible refine e_op ?_) | (with_reducible refine e_un ?_) | (with_reducible refine e_cb ?_) | (with_reducible refine e_if ?_) | (with_reducible refine e_andV ?_) | (with_reducible refine e_orV ?_) | (with_reducible refine e_notV ?_) | (with_reducible refine e_fld ?_)
  | (with_reducible refine e_call0 ?_) | (with_reducible refine e_meth0 ?_) | (with_reducible refine e_make (dds := []) nilD ?_) | (with_reducible refine e_stat0 ?_)
  | (with_reducible refine a_nil ?_) | (with_reducible refine a_cons ?_) | (with_reducible refine e_lst ?_) | (with_reducible refine e_tup ?_)
  | (with_reducible refine t_test ?_) | (with_reducible refine t_B ?_) | (with_reducible refine t_and ?_) | (with_reducible refine t_or ?_) | (with_reducible refine t_not ?_)
  | (with_reducible refine ri0 ?_) | (with_reducible refine rb0 ?_) | (with_reducible refine req ?_) | (with_reducible refine rne ?_) | (with_reducible refine reqb ?_) | (with_reducible refine ui ?_)
  | (with_reducible refine c_abs ?_) | (with_reducible refine c_int1 ?_) | (with_reducible refine c_bool1 ?_)
  | (with_reducible refine Exists.intro _ (And.intro rfl ?_)))
local macro_rules | `(tactic| walk_at "d") => `(tactic| repeat (walk_at "d1"; try dsimp only [List.set, wipeD, List.map]))
local macro_rules | `(tactic| walk_at "s") => `(tactic| dsimp only [cxOf, Cx.nox, Cx.wish, startD, List.map, List.length, Nat.reduceAdd, Nat.reduceSub, List.reduceReplicate, HAppend.hAppend, Append.append, List.append])
local macro_rules | `(tactic| walk_at "d1") => `(tactic| first
  | (with_reducible refine fld_top (by assumption) ?_) | (with_reducible refine fld_bottom (by assumption) ?_)
  | (with_reducible refine isnum_num (by assumption) (by assumption) ?_) | (with_reducible refine assh_num (by assumption) ?_) | (with_reducible refine isnum_num (by assumption) (Num.sh _) ?_) | (with_reducible refine assh_num (Num.sh _) ?_) | (with_reducible refine isnum_num (by assumption) (Num.int _) ?_) | (with_reducible refine assh_num (Num.int _) ?_)
  | (with_reducible refine e_Share1 ?_) | (with_reducible refine e_Share2 ?_))
local macro_rules | `(tactic| walk_at "d1") => `(tactic| first | (with_reducible refine r_SN (by assumption) ?_) | (with_reducible refine r_SN (Num.sh _) ?_) | (with_reducible refine r_SN (Num.int _) ?_) | (with_reducible refine u_S ?_))
local macro_rules | `(tactic| walk_at "d1") => `(tactic| first
  | (with_reducible refine fld_number (by assumption) ?_) | (with_reducible refine fld_times (by assumption) ?_) | (with_reducible refine e_Term ?_)
  | (with_reducible refine e_lcU (gin_name (by decide)) ?_) | (with_reducible refine i_rng1 ?_) | (with_reducible refine i_tup ?_) | (with_reducible refine i_list ?_) | (with_reducible refine t_yes ?_) | (with_reducible refine g_name ?_)
  | (with_reducible refine unrc_r3 ?_) | (with_reducible refine unrc_r4 ?_) | (with_reducible refine unr_r3 ?_) | (with_reducible refine unr_r4 ?_) | (with_reducible refine unr_r2 ?_) | (with_reducible refine unrc_cons ?_) | (with_reducible refine unrc_nil ?_) | (with_reducible refine unr_cons ?_) | (with_reducible refine unr_nil ?_) | (with_reducible refine s_forU ?_)
  | (with_reducible refine iteT ?_) | (with_reducible refine iteF ?_) | (with_reducible refine e_chain ?_) | (with_reducible refine And.intro len3 ?_) | (with_reducible refine And.intro len4 ?_) | (with_reducible refine And.intro (by decide) ?_) | (with_reducible refine ite_d1 (by decide) ?_) | (with_reducible refine ite_d0 (by decide) ?_))
local macro_rules | `(tactic| walk_at "d1") => `(tactic| first
  | (with_reducible refine isworth (by assumption) (by assumption) ?_) | (with_reducible refine asterm (by assumption) ?_) | (with_reducible refine isworth (by assumption) (Wth.tm _) ?_) | (with_reducible refine asterm (Wth.tm _) ?_)
  | (with_reducible refine i_zipT ?_) | (with_reducible refine unrc_z3 ?_) | (with_reducible refine e_lcU (gin_tup (gsin_one (by decide) (gsin_one (by decide) gsin_nil))) ?_) | (with_reducible refine g_tup rfl ?_) | (with_reducible refine gs_cons ?_) | (with_reducible refine gs_nil ?_)
  | (with_reducible refine And.intro lenz3 ?_) | (with_reducible refine Exists.intro _ (Exists.intro _ (And.intro rfl ?_)))
  | (with_reducible refine EN.i_enumT ?_) | (with_reducible refine unr_e3 ?_) | (with_reducible refine e_methT (fun _ => rfl) ?_) | (with_reducible refine a_star ?_)
  | (with_reducible refine r_TW (by assumption) ?_) | (with_reducible refine r_TW (Wth.tm _) ?_))
section
variable {P : Program} {w : World} {K : PySem.W.Frag} {mg : Str → Option Value} {base : Heap}
abbrev CR (K : PySem.W.Frag) : Addr := He.ga K "Row"
abbrev mR (K : PySem.W.Frag) (x : Str) : Addr := He.ma K (CR K) x
abbrev rwF (K : PySem.W.Frag) (t : Lin) (b : Bool) : List (Str × D) := [("term", tmD K t), ("strict", .bl b)]
abbrev rwD (K : PySem.W.Frag) (t : Lin) (b : Bool) : D := .ins (CR K) (rwF K t b)
theorem a_starT {r : En} {m : Mu} {k : List D → Mu → Prop} {te : TE} (h : wE K te r m fun x m1 => ∃ xs, x = .tup xs ∧ k xs m1) : wA K (StX.tStar K te tNil) r m k := a_star (h.mono fun x m1 ⟨xs, e, q⟩ => ⟨xs, .inl e, a_nil (by rw [List.append_nil]; exact q)⟩)
theorem len4' {a b c e : D} : [a, b, c, e].length ≤ 100000 := by show 4 ≤ 100000; decide
theorem fld_term (T : Txt K mg) {r : En} {m : Mu} {k : D → Mu → Prop} {ta : TE} (h : wE K ta r m fun x m1 => ∃ t b, x = rwD K t b ∧ k (tmD K t) m1) : wE K (tFld K ta "term") r m k :=
  e_fld (h.mono fun x m1 ⟨t, b, e, hk⟩ => ⟨CR K, rwF K t b, _, .inl e, T.c_Row, T.a_Row_term, rfl, hk⟩)
theorem fld_strict (T : Txt K mg) {r : En} {m : Mu} {k : D → Mu → Prop} {ta : TE} (h : wE K ta r m fun x m1 => ∃ t b, x = rwD K t b ∧ k (.bl b) m1) : wE K (tFld K ta "strict") r m k :=
  e_fld (h.mono fun x m1 ⟨t, b, e, hk⟩ => ⟨CR K, rwF K t b, _, .inl e, T.c_Row, T.a_Row_strict, rfl, hk⟩)
def S_Row_init (K : PySem.W.Frag) : SpD := fun ds m k => ∃ a t b, ds = [.ref a, tmD K t, .bl b] ∧ m a = some (.ins (CR K) []) ∧ SzL 1000 t ∧ k .non (updM m a (.ins (CR K) (rwF K t.prim b)))
theorem e_Row {r : En} {m : Mu} {k : D → Mu → Prop} {ta tb : TE} {E : XK} (h : wE K ta r m fun x m1 => wE K tb r m1 fun y m2 => ∃ t b, x = tmD K t ∧ y = .bl b ∧ SzL 1000 t ∧ k (rwD K t.prim b) m2) :
    wE K (tMake (CR K) (spOf K (S_Row_init K)) [] E (tCons ta (tCons tb tNil))) r m k := by
  refine e_make (dds := []) nilD (a_cons (h.mono fun x m1 h1 => a_cons (h1.mono fun y m2 h2 => a_nil ?_)))
  obtain ⟨t, b, rfl, rfl, hz, hk⟩ := h2
  intro a ha
  refine ⟨a, t, b, rfl, updM_same, hz, rfl, .inl ⟨_, m2, updM_same, ?_, hk⟩⟩
  rw [updM_updM, del_upd ha]
  exact Sub.refl
local macro_rules | `(tactic| walk_at "d1") => `(tactic| first
  | (with_reducible refine a_starT ?_) | (with_reducible refine And.intro len4' ?_) | (with_reducible refine fld_term (by assumption) ?_) | (with_reducible refine fld_strict (by assumption) ?_) | (with_reducible refine e_Row ?_))
/-! ### whole_factor -/
theorem lcm_step (b d : Nat) (hb : 0 < b) : ((b : Int).fdiv ((Int.gcd (b : Int) (d : Int) : Nat) : Int)) * (d : Int) = ((Nat.lcm b d : Nat) : Int) := by
  have e : Int.gcd (b : Int) (d : Int) = Nat.gcd b d := by simp
  rw [e, Int.fdiv_eq_ediv_of_nonneg _ (by omega), ← Int.natCast_ediv, ← Int.natCast_mul]
  congr 1
  unfold Nat.lcm
  exact (Nat.div_mul_right_comm (Nat.gcd_dvd_left b d) d)
theorem nn_step (b : Nat) (s : Rat) : s.num * ((b : Int).fdiv (s.den : Int)) = nn b s := by
  unfold nn
  rw [Int.fdiv_eq_ediv_of_nonneg _ (by omega)]
theorem cdiv {i j : Int} (h0 : j ≠ 0) (h : j.natAbs < 2 ^ 8999) : CDivZ i j := ⟨h0, log2_lt (Nat.lt_trans h (Nat.pow_lt_pow_right (by decide) (by decide))) (by decide)⟩
theorem cmul {i j : Int} {B C : Nat} (hi : i.natAbs < 2 ^ B) (hj : j.natAbs < 2 ^ C) (h : B + C ≤ 900000) : CMulW i j :=
  wide_mul (a := B + 1) (b := C + 1) (Nat.lt_trans hi (Nat.pow_lt_pow_right (by decide) (by omega))) (Nat.lt_trans hj (Nat.pow_lt_pow_right (by decide) (by omega))) (by omega) (by omega) (by omega)
theorem fdiv_lt {b g X : Nat} (h : b < 2 ^ X) : ((b : Int).fdiv (g : Int)).natAbs < 2 ^ X := by
  rw [Int.fdiv_eq_ediv_of_nonneg _ (by omega), ← Int.natCast_ediv, Int.natAbs_natCast]
  exact Nat.lt_of_le_of_lt (Nat.div_le_self _ _) h
theorem wf_turn1 (T : Txt K mg) {r : En} {m : Mu} {k' : D → Mu → Prop} {b X : Nat} {s : Rat} (hr : r[2]? = some (some (shD K s))) (hb : 0 < b) (hX : b < 2 ^ X) (hs : Sz 1000 s) (h8 : X ≤ 8000) (hk : ∀ l : Nat, l = Nat.lcm b s.den → k' (.int (l : Int)) m) :
    S_gcd [.int (b : Int), .int (s.den : Int)] m (fun y m2 => wR K (rI CDivZ fun i j => .int (i.fdiv j)) (.int (b : Int)) y m2 fun x m1 => wE K (tFld K (tVar 2) "bottom") r m1 fun y m2 => wR K (rI CMulW fun i j => .int (i * j)) x y m2 k') := by
  have hg : 0 < Int.gcd (b : Int) (s.den : Int) := Int.gcd_pos_of_ne_zero_left _ (by omega)
  have hl : Int.gcd (b : Int) (s.den : Int) ≤ b := by
    have e : Int.gcd (b : Int) (s.den : Int) = Nat.gcd b s.den := by simp
    rw [e]
    exact Nat.gcd_le_left _ hb
  refine ⟨_, _, rfl, ri (cdiv (by omega) ?_) (fld_bottom T (e_var hr ⟨s, rfl, ri (cmul (fdiv_lt hX) hs.dn (by omega)) ?_⟩))⟩
  · rw [Int.natAbs_natCast]
    exact Nat.lt_of_le_of_lt hl (Nat.lt_of_lt_of_le hX (Nat.pow_le_pow_right (by decide) (by omega)))
  · rw [lcm_step b s.den hb]
    exact hk _ rfl
theorem wf_turn2 {r : En} {m : Mu} {k' : D → Mu → Prop} {b X : Nat} {s : Rat} {p : Int} (hX : b < 2 ^ X) (hs : Sz 1000 s) (h8 : X ≤ 8000) (hk : ∀ g : Nat, g = Int.gcd p (nn b s) → k' (.int (g : Int)) m) :
    wR K (rI CDivZ fun i j => .int (i.fdiv j)) (.int (b : Int)) (.int (s.den : Int)) m (fun y m2 => wR K (rI CMulW fun i j => .int (i * j)) (.int s.num) y m2 fun x m1 => wA K tNil r m1 fun xs m2 => S_gcd (.int p :: x :: xs) m2 k') := by
  refine ri (cdiv (den_ne s) (Nat.lt_of_lt_of_le hs.dn (Nat.pow_le_pow_right (by decide) (by decide)))) (ri (cmul hs.n (fdiv_lt (g := s.den) hX) (by omega)) (a_nil ⟨_, _, rfl, ?_⟩))
  rw [nn_step]
  exact hk _ rfl
def S_wf (K : PySem.W.Frag) : SpD := fun ds m k => ∃ t, ds = [tmD K t] ∧ SzL 1000 t ∧ k (shD K t.wf) m
theorem sc_whole_factor : FnScope ["term", "bottom", "share", "part"] ["term"] (defScope s_whole_factor) := ⟨rfl, rfl, rfl, by decide +kernel, rfl, by decide +kernel, by decide +kernel⟩
theorem fn_whole_factor (T : Txt K mg) (O : Sh0 P w K mg base) (Og : Fn P w K mg base 1 (He.ga K "common_divisor") ["one", "other"] S_gcd) : Fn P w K mg base 4 (He.ga K "whole_factor") ["term"] (S_wf K) := by
  obtain ⟨_, _, _, G_Share_init, b_Share_init, _, v1_Share_init, b1_Share_init⟩ := O
  obtain ⟨⟨_, G_common_divisor, b_common_divisor⟩, k_common_divisor⟩ := Og
  refine fn_of1 (kk := 3) T.F_whole_factor sc_whole_factor (fun ds m k h => by obtain ⟨t, rfl, _⟩ := h; rfl) (fun _ _ _ _ _ _ us hl => match us, hl with | [_], _ => rfl) ?_
  intro cdv A outer s H E hr
  refine ⟨_, (pss_cons (ps_set (i := 1) sc_whole_factor.nd rfl (.inl rfl) pe_int)
      (pss_cons (ps_for PassesOwn.never rfl (pi_tup (pe_tup (pa_cons (pe_fld (pv 0) rfl) (StX.pa_star (pe_fld (pv 0) rfl) pa_nil)))) (pg_name (i := 2) sc_whole_factor.nd rfl (.inl rfl)) (pss_one (ps_set (i := 1) sc_whole_factor.nd rfl (.inl rfl) (pe_op op_mulW (pe_op op_fdivZ (pv 1) (pe_call G_common_divisor (hr.mono (by decide)) rfl T.g_common_divisor k_common_divisor b_common_divisor .nil pass0 (pa_cons (pv 1) (pa_cons (pe_fld (pv 2) rfl) pa_nil)))) (pe_fld (pv 2) rfl)))))
      (pss_cons (ps_set (i := 3) sc_whole_factor.nd rfl (.inl rfl) pe_int)
      (pss_cons (ps_for PassesOwn.never rfl (pi_tup (pe_tup (pa_cons (pe_fld (pv 0) rfl) (StX.pa_star (pe_fld (pv 0) rfl) pa_nil)))) (pg_name (i := 2) sc_whole_factor.nd rfl (.inl rfl)) (pss_one (ps_set (i := 3) sc_whole_factor.nd rfl (.inl rfl) (pe_call G_common_divisor (hr.mono (by decide)) rfl T.g_common_divisor k_common_divisor b_common_divisor .nil pass0 (pa_cons (pv 3) (pa_cons (pe_op op_mulW (pe_fld (pv 2) rfl) (pe_op op_fdivZ (pv 1) (pe_fld (pv 2) rfl))) pa_nil))))))
      (pss_cons (ps_if (pt_cmpR op_eq (pv 3) pe_int (nomark _)) (pss_one (ps_ret (pe_make T.k_Share G_Share_init (hr.mono (by decide)) rfl T.g_Share b1_Share_init v1_Share_init pass0 (pa_cons pe_int pa_nil)))) pss_nil)
      (pss_one (ps_ret (pe_make T.k_Share G_Share_init (hr.mono (by decide)) rfl T.g_Share b_Share_init .nil pass0 (pa_cons (pv 1) (pa_cons (pv 3) pa_nil)))))))))), ?_⟩
  intro ds m k hS
  obtain ⟨t, rfl, hz, hk⟩ := hS
  walk_at "s"
  walk_at "d"
  have d1 := t.c.den_nz
  have d2 := t.x.den_nz
  have d3 := t.y.den_nz
  have d4 := t.z.den_nz
  refine wf_turn1 T (b := 1) (X := 1) (by rfl) (by decide) (by decide) hz.c (by decide) ?_
  intro b1 e1
  have l1 := Lin.lcm_lt (X := 1) (Y := 1000) (show 1 < 2 ^ 1 by decide) hz.c.d
  rw [← e1] at l1
  have p1 : 0 < b1 := by rw [e1]; exact Nat.lcm_pos (by decide) (by omega)
  walk_at "d"
  refine wf_turn1 T (by rfl) p1 l1 hz.x (by omega) ?_
  intro b2 e2
  have l2 := Lin.lcm_lt l1 hz.x.d
  rw [← e2] at l2
  have p2 : 0 < b2 := by rw [e2]; exact Nat.lcm_pos p1 (by omega)
  walk_at "d"
  refine wf_turn1 T (by rfl) p2 l2 hz.y (by omega) ?_
  intro b3 e3
  have l3 := Lin.lcm_lt l2 hz.y.d
  rw [← e3] at l3
  have p3 : 0 < b3 := by rw [e3]; exact Nat.lcm_pos p2 (by omega)
  walk_at "d"
  refine wf_turn1 T (by rfl) p3 l3 hz.z (by omega) ?_
  intro b4 e4
  have eb : b4 = t.bot := by rw [e4, e3, e2, e1]; rfl
  have hb := Lin.bot_lt hz
  rw [← eb] at hb
  walk_at "d"
  refine wf_turn2 hb hz.c (by omega) ?_
  intro g1 i1
  walk_at "d"
  refine wf_turn2 hb hz.x (by omega) ?_
  intro g2 i2
  walk_at "d"
  refine wf_turn2 hb hz.y (by omega) ?_
  intro g3 i3
  walk_at "d"
  refine wf_turn2 hb hz.z (by omega) ?_
  intro g4 i4
  have eg : g4 = t.part := by rw [i4, i3, i2, i1, eb]; rfl
  walk_at "d"
  change k (shD K t.wf) m at hk
  have hw : t.wf = if t.part = 0 then 1 else Rat.divInt (t.bot : Int) (t.part : Int) := rfl
  have hsz := Lin.wf_sz hz
  by_cases hp : t.part = 0
  · rw [if_pos hp] at hw
    refine ite_d1 (by rw [decide_eq_true_eq]; omega) ?_
    walk_at "d"
    rw [hw] at hk
    exact hk
  · rw [if_neg hp] at hw
    refine ite_d0 (by rw [decide_eq_false_iff_not]; omega) ?_
    walk_at "d"
    subst eb eg
    refine ⟨(t.bot : Int), (t.part : Int), rfl, rfl, by omega, ?_, ?_⟩
    · rw [Int.natAbs_natCast]
      exact Nat.lt_of_lt_of_le (Lin.part_lt hz hp) (Nat.pow_le_pow_right (by decide) (by decide))
    · rw [← hw]
      exact hk
theorem sc_Row_init : FnScope ["self", "term", "strict"] ["self", "term", "strict"] (defScope s_Row_init) := ⟨rfl, rfl, rfl, by decide +kernel, rfl, by decide +kernel, by decide +kernel⟩
theorem fn_Row_init (T : Txt K mg) (Os : Fn P w K mg base 6 (mT K "scaled") ["self", "number"] (S_scaled K)) (Ow : Fn P w K mg base 4 (He.ga K "whole_factor") ["term"] (S_wf K)) : Fn P w K mg base 7 (mR K "__init__") ["self", "term", "strict"] (S_Row_init K) := by
  obtain ⟨⟨_, G_Term_scaled, b_Term_scaled⟩, _⟩ := Os
  obtain ⟨⟨_, G_whole_factor, b_whole_factor⟩, k_whole_factor⟩ := Ow
  refine fn_of1 (kk := 6) T.F_Row_init sc_Row_init (fun ds m k h => by obtain ⟨a, t, b, rfl, _⟩ := h; rfl) (fun _ _ _ _ _ _ us hl => match us, hl with | [_, _, _], _ => rfl) ?_
  intro cdv A outer s H E hr
  refine ⟨_, (pss_cons (ps_fld (pv 0) (pe_meth (pv 1) T.c_Term T.m_Term_scaled G_Term_scaled (hr.mono (by decide)) b_Term_scaled .nil pass0 (pa_cons (pe_call G_whole_factor (hr.mono (by decide)) rfl T.g_whole_factor k_whole_factor b_whole_factor .nil pass0 (pa_cons (pv 1) pa_nil)) pa_nil)) rfl)
      (pss_one (ps_fld (pv 0) (pv 2) rfl))), ?_⟩
  intro ds m k hS
  obtain ⟨a, t, b, rfl, hm, hz, hk⟩ := hS
  walk_at "s"
  walk_at "d"
  refine ⟨t, rfl, hz, ?_⟩
  walk_at "d"
  refine ⟨t, _, _, rfl, ⟨.sh _, 1000, 5001, hz, Lin.wf_sz hz, by decide⟩, ?_⟩
  walk_at "d"
  refine ⟨a, CR K, [], rfl, hm, T.c_Row, T.a_Row_term, by decide, ?_⟩
  walk_at "d"
  refine ⟨a, CR K, _, rfl, updM_same, T.c_Row, T.a_Row_strict, (by show 1 < 1000; decide), ?_⟩
  rw [updM_updM]
  exact hk
/-! ### comparisons make rows -/
def S_tcmp (K : PySem.W.Frag) (f : Lin → Lin → Lin) (b : Bool) : SpD := fun ds m k => ∃ t d u, ds = [tmD K t, d] ∧ Wth K d u ∧ (∃ B C, SzL B t ∧ SzL C u ∧ B + C ≤ 990) ∧ k (rwD K (f t u).prim b) m
theorem S_tcmp_len {f : Lin → Lin → Lin} {b : Bool} : ∀ ds m k, S_tcmp K f b ds m k → ds.length = 2 := fun ds m k h => by obtain ⟨t, d, u, rfl, _⟩ := h; rfl
structure Rw0 (P : Program) (w : World) (K : PySem.W.Frag) (mg : Str → Option Value) (base : Heap) : Prop where
  isw : Fn P w K mg base 3 (He.ga K "is_worth") ["thing"] (S_is_worth K)
  ast : Fn P w K mg base 6 (He.ga K "as_term") ["thing"] (S_as_term K)
  sub : Fn P w K mg base 8 (mT K "__sub__") ["self", "other"] (S_tbin2 K Lin.sub)
  ini : Fn P w K mg base 7 (mR K "__init__") ["self", "term", "strict"] (S_Row_init K)
theorem SzL.sub {B C : Nat} {t u : Lin} (h : SzL B t) (g : SzL C u) : SzL (B + C + 2) (t.sub u) := (h.add g.neg).mono (by omega)
theorem sc_Term_lt : FnScope ["self", "other"] ["self", "other"] (defScope s_Term_lt) := ⟨rfl, rfl, rfl, by decide +kernel, rfl, by decide +kernel, by decide +kernel⟩
theorem fn_Term_lt (T : Txt K mg) (O : Rw0 P w K mg base) : Fn P w K mg base 9 (mT K "__lt__") ["self", "other"] (S_tcmp K (fun t u => Lin.sub u t) true) := by
  obtain ⟨⟨⟨_, G_is_worth, b_is_worth⟩, k_is_worth⟩, ⟨⟨_, G_as_term, b_as_term⟩, k_as_term⟩, ⟨⟨_, G_Term_sub, b_Term_sub⟩, _⟩, ⟨⟨_, G_Row_init, b_Row_init⟩, _⟩⟩ := O
  refine fn_of1 (kk := 8) T.F_Term_lt sc_Term_lt S_tcmp_len (fun _ _ _ _ _ _ us hl => match us, hl with | [_, _], _ => rfl) ?_
  intro cdv A outer s H E hr
  refine ⟨_, (pss_cons (ps_if (pt_not (pt_val (pe_call G_is_worth (hr.mono (by decide)) rfl T.g_is_worth k_is_worth b_is_worth .nil pass0 (pa_cons (pv 1) pa_nil)))) (pss_one ps_never) pss_nil)
      (pss_one (ps_ret (pe_make T.k_Row G_Row_init (hr.mono (by decide)) rfl T.g_Row b_Row_init .nil pass0 (pa_cons (pe_op (oSubT (n := 8) T G_Term_sub (hr.mono (by decide)) b_Term_sub) (pe_call G_as_term (hr.mono (by decide)) rfl T.g_as_term k_as_term b_as_term .nil pass0 (pa_cons (pv 1) pa_nil)) (pv 0)) (pa_cons pe_bl pa_nil)))))), ?_⟩
  intro ds m k hS
  obtain ⟨t, d, u, rfl, hw, ⟨B, C, h1, h2, h3⟩, hk⟩ := hS
  walk_at "s"
  walk_at "d"
  refine ⟨_, _, _, rfl, .tm _, ⟨C, B, h2, h1, by omega⟩, ?_⟩
  walk_at "d"
  exact ⟨_, _, rfl, rfl, (SzL.sub h2 h1).mono (by omega), hk⟩
theorem sc_Term_le : FnScope ["self", "other"] ["self", "other"] (defScope s_Term_le) := ⟨rfl, rfl, rfl, by decide +kernel, rfl, by decide +kernel, by decide +kernel⟩
theorem fn_Term_le (T : Txt K mg) (O : Rw0 P w K mg base) : Fn P w K mg base 9 (mT K "__le__") ["self", "other"] (S_tcmp K (fun t u => Lin.sub u t) false) := by
  obtain ⟨⟨⟨_, G_is_worth, b_is_worth⟩, k_is_worth⟩, ⟨⟨_, G_as_term, b_as_term⟩, k_as_term⟩, ⟨⟨_, G_Term_sub, b_Term_sub⟩, _⟩, ⟨⟨_, G_Row_init, b_Row_init⟩, _⟩⟩ := O
  refine fn_of1 (kk := 8) T.F_Term_le sc_Term_le S_tcmp_len (fun _ _ _ _ _ _ us hl => match us, hl with | [_, _], _ => rfl) ?_
  intro cdv A outer s H E hr
  refine ⟨_, (pss_cons (ps_if (pt_not (pt_val (pe_call G_is_worth (hr.mono (by decide)) rfl T.g_is_worth k_is_worth b_is_worth .nil pass0 (pa_cons (pv 1) pa_nil)))) (pss_one ps_never) pss_nil)
      (pss_one (ps_ret (pe_make T.k_Row G_Row_init (hr.mono (by decide)) rfl T.g_Row b_Row_init .nil pass0 (pa_cons (pe_op (oSubT (n := 8) T G_Term_sub (hr.mono (by decide)) b_Term_sub) (pe_call G_as_term (hr.mono (by decide)) rfl T.g_as_term k_as_term b_as_term .nil pass0 (pa_cons (pv 1) pa_nil)) (pv 0)) (pa_cons pe_bl pa_nil)))))), ?_⟩
  intro ds m k hS
  obtain ⟨t, d, u, rfl, hw, ⟨B, C, h1, h2, h3⟩, hk⟩ := hS
  walk_at "s"
  walk_at "d"
  refine ⟨_, _, _, rfl, .tm _, ⟨C, B, h2, h1, by omega⟩, ?_⟩
  walk_at "d"
  exact ⟨_, _, rfl, rfl, (SzL.sub h2 h1).mono (by omega), hk⟩
theorem sc_Term_gt : FnScope ["self", "other"] ["self", "other"] (defScope s_Term_gt) := ⟨rfl, rfl, rfl, by decide +kernel, rfl, by decide +kernel, by decide +kernel⟩
theorem fn_Term_gt (T : Txt K mg) (O : Rw0 P w K mg base) : Fn P w K mg base 9 (mT K "__gt__") ["self", "other"] (S_tcmp K Lin.sub true) := by
  obtain ⟨⟨⟨_, G_is_worth, b_is_worth⟩, k_is_worth⟩, ⟨⟨_, G_as_term, b_as_term⟩, k_as_term⟩, ⟨⟨_, G_Term_sub, b_Term_sub⟩, _⟩, ⟨⟨_, G_Row_init, b_Row_init⟩, _⟩⟩ := O
  refine fn_of1 (kk := 8) T.F_Term_gt sc_Term_gt S_tcmp_len (fun _ _ _ _ _ _ us hl => match us, hl with | [_, _], _ => rfl) ?_
  intro cdv A outer s H E hr
  refine ⟨_, (pss_cons (ps_if (pt_not (pt_val (pe_call G_is_worth (hr.mono (by decide)) rfl T.g_is_worth k_is_worth b_is_worth .nil pass0 (pa_cons (pv 1) pa_nil)))) (pss_one ps_never) pss_nil)
      (pss_one (ps_ret (pe_make T.k_Row G_Row_init (hr.mono (by decide)) rfl T.g_Row b_Row_init .nil pass0 (pa_cons (pe_op (oSubT (n := 8) T G_Term_sub (hr.mono (by decide)) b_Term_sub) (pv 0) (pe_call G_as_term (hr.mono (by decide)) rfl T.g_as_term k_as_term b_as_term .nil pass0 (pa_cons (pv 1) pa_nil))) (pa_cons pe_bl pa_nil)))))), ?_⟩
  intro ds m k hS
  obtain ⟨t, d, u, rfl, hw, ⟨B, C, h1, h2, h3⟩, hk⟩ := hS
  walk_at "s"
  walk_at "d"
  refine ⟨_, _, _, rfl, .tm _, ⟨B, C, h1, h2, by omega⟩, ?_⟩
  walk_at "d"
  exact ⟨_, _, rfl, rfl, (SzL.sub h1 h2).mono (by omega), hk⟩
theorem sc_Term_ge : FnScope ["self", "other"] ["self", "other"] (defScope s_Term_ge) := ⟨rfl, rfl, rfl, by decide +kernel, rfl, by decide +kernel, by decide +kernel⟩
theorem fn_Term_ge (T : Txt K mg) (O : Rw0 P w K mg base) : Fn P w K mg base 9 (mT K "__ge__") ["self", "other"] (S_tcmp K Lin.sub false) := by
  obtain ⟨⟨⟨_, G_is_worth, b_is_worth⟩, k_is_worth⟩, ⟨⟨_, G_as_term, b_as_term⟩, k_as_term⟩, ⟨⟨_, G_Term_sub, b_Term_sub⟩, _⟩, ⟨⟨_, G_Row_init, b_Row_init⟩, _⟩⟩ := O
  refine fn_of1 (kk := 8) T.F_Term_ge sc_Term_ge S_tcmp_len (fun _ _ _ _ _ _ us hl => match us, hl with | [_, _], _ => rfl) ?_
  intro cdv A outer s H E hr
  refine ⟨_, (pss_cons (ps_if (pt_not (pt_val (pe_call G_is_worth (hr.mono (by decide)) rfl T.g_is_worth k_is_worth b_is_worth .nil pass0 (pa_cons (pv 1) pa_nil)))) (pss_one ps_never) pss_nil)
      (pss_one (ps_ret (pe_make T.k_Row G_Row_init (hr.mono (by decide)) rfl T.g_Row b_Row_init .nil pass0 (pa_cons (pe_op (oSubT (n := 8) T G_Term_sub (hr.mono (by decide)) b_Term_sub) (pv 0) (pe_call G_as_term (hr.mono (by decide)) rfl T.g_as_term k_as_term b_as_term .nil pass0 (pa_cons (pv 1) pa_nil))) (pa_cons pe_bl pa_nil)))))), ?_⟩
  intro ds m k hS
  obtain ⟨t, d, u, rfl, hw, ⟨B, C, h1, h2, h3⟩, hk⟩ := hS
  walk_at "s"
  walk_at "d"
  refine ⟨_, _, _, rfl, .tm _, ⟨B, C, h1, h2, by omega⟩, ?_⟩
  walk_at "d"
  exact ⟨_, _, rfl, rfl, (SzL.sub h1 h2).mono (by omega), hk⟩
end
end LW
end

section
set_option Elab.async false
set_option linter.all false
set_option maxRecDepth 100000
set_option maxHeartbeats 1000000
set_option exponentiation.threshold 10000
namespace LW
open PySem PySem.Spec PyProof.Rows L2 DL MA
local macro_rules | `(tactic| walk_at "d1") => `(tactic| first
  | (with_reducible refine s_seq ?_) | (with_reducible refine s_set ?_) | (with_reducible refine s_ret ?_) | (with_reducible refine s_if ?_) | (with_reducible refine s_fld ?_) | (with_reducible refine s_next ?_) | (with_reducible refine s_par ?_)
  | (with_reducible refine e_var rfl ?_) | (with_reducible refine e_int ?_) | (with_reducible refine e_bl ?_) | (with_reducible refine e_non ?_) | (with_reducible refine e_str ?_) | (with_reducible refine e_ty ?_) | (with_reducible refine e_ref ?_)
  | (with_reducible refine e_op ?_) | (with_reducible refine e_un ?_) | (with_reducible refine e_cb ?_) | (with_reducible refine e_if ?_) | (with_reducible refine e_andV ?_) | (with_reducible refine e_orV ?_) | (with_reducible refine e_notV ?_) | (with_reducible refine e_fld ?_)
  | (with_reducible refine e_call0 ?_) | (with_reducible refine e_meth0 ?_) | (with_reducible refine e_make (dds := []) nilD ?_) | (with_reducible refine e_stat0 ?_)
  | (with_reducible refine a_nil ?_) | (with_reducible refine a_cons ?_) | (with_reducible refine e_lst ?_) | (with_reducible refine e_tup ?_)
  | (with_reducible refine t_test ?_) | (with_reducible refine t_B ?_) | (with_reducible refine t_and ?_) | (with_reducible refine t_or ?_) | (with_reducible refine t_not ?_)
  | (with_reducible refine ri0 ?_) | (with_reducible refine rb0 ?_) | (with_reducible refine req ?_) | (with_reducible refine rne ?_) | (with_reducible refine reqb ?_) | (with_reducible refine ui ?_)
  | (with_reducible refine c_abs ?_) | (with_reducible refine c_int1 ?_) | (with_reducible refine c_bool1 ?_)
  | (with_reducible refine Exists.intro _ (And.intro rfl ?_)))
local macro_rules | `(tactic| walk_at "d") => `(tactic| repeat (walk_at "d1"; try dsimp only [List.set, wipeD, List.map]))
local macro_rules | `(tactic| walk_at "s") => `(tactic| dsimp only [cxOf, Cx.nox, Cx.wish, startD, List.map, List.length, Nat.reduceAdd, Nat.reduceSub, List.reduceReplicate, HAppend.hAppend, Append.append, List.append])
local macro_rules | `(tactic| walk_at "d1") => `(tactic| first
  | (with_reducible refine fld_top (by assumption) ?_) | (with_reducible refine fld_bottom (by assumption) ?_)
  | (with_reducible refine isnum_num (by assumption) (by assumption) ?_) | (with_reducible refine assh_num (by assumption) ?_) | (with_reducible refine isnum_num (by assumption) (Num.sh _) ?_) | (with_reducible refine assh_num (Num.sh _) ?_) | (with_reducible refine isnum_num (by assumption) (Num.int _) ?_) | (with_reducible refine assh_num (Num.int _) ?_)
  | (with_reducible refine e_Share1 ?_) | (with_reducible refine e_Share2 ?_))
local macro_rules | `(tactic| walk_at "d1") => `(tactic| first | (with_reducible refine r_SN (by assumption) ?_) | (with_reducible refine r_SN (Num.sh _) ?_) | (with_reducible refine r_SN (Num.int _) ?_) | (with_reducible refine u_S ?_))
local macro_rules | `(tactic| walk_at "d1") => `(tactic| first
  | (with_reducible refine fld_number (by assumption) ?_) | (with_reducible refine fld_times (by assumption) ?_) | (with_reducible refine e_Term ?_)
  | (with_reducible refine e_lcU (gin_name (by decide)) ?_) | (with_reducible refine i_rng1 ?_) | (with_reducible refine i_tup ?_) | (with_reducible refine i_list ?_) | (with_reducible refine t_yes ?_) | (with_reducible refine g_name ?_)
  | (with_reducible refine unrc_r3 ?_) | (with_reducible refine unrc_r4 ?_) | (with_reducible refine unr_r3 ?_) | (with_reducible refine unr_r4 ?_) | (with_reducible refine unr_r2 ?_) | (with_reducible refine unrc_cons ?_) | (with_reducible refine unrc_nil ?_) | (with_reducible refine unr_cons ?_) | (with_reducible refine unr_nil ?_) | (with_reducible refine s_forU ?_)
  | (with_reducible refine iteT ?_) | (with_reducible refine iteF ?_) | (with_reducible refine e_chain ?_) | (with_reducible refine And.intro len3 ?_) | (with_reducible refine And.intro len4 ?_) | (with_reducible refine And.intro (by decide) ?_) | (with_reducible refine ite_d1 (by decide) ?_) | (with_reducible refine ite_d0 (by decide) ?_))
local macro_rules | `(tactic| walk_at "d1") => `(tactic| first
  | (with_reducible refine isworth (by assumption) (by assumption) ?_) | (with_reducible refine asterm (by assumption) ?_) | (with_reducible refine isworth (by assumption) (Wth.tm _) ?_) | (with_reducible refine asterm (Wth.tm _) ?_)
  | (with_reducible refine i_zipT ?_) | (with_reducible refine unrc_z3 ?_) | (with_reducible refine e_lcU (gin_tup (gsin_one (by decide) (gsin_one (by decide) gsin_nil))) ?_) | (with_reducible refine g_tup rfl ?_) | (with_reducible refine gs_cons ?_) | (with_reducible refine gs_nil ?_)
  | (with_reducible refine And.intro lenz3 ?_) | (with_reducible refine Exists.intro _ (Exists.intro _ (And.intro rfl ?_)))
  | (with_reducible refine EN.i_enumT ?_) | (with_reducible refine unr_e3 ?_) | (with_reducible refine e_methT (fun _ => rfl) ?_) | (with_reducible refine a_star ?_)
  | (with_reducible refine r_TW (by assumption) ?_) | (with_reducible refine r_TW (Wth.tm _) ?_))
local macro_rules | `(tactic| walk_at "d1") => `(tactic| first
  | (with_reducible refine a_starT ?_) | (with_reducible refine And.intro len4' ?_) | (with_reducible refine fld_term (by assumption) ?_) | (with_reducible refine fld_strict (by assumption) ?_) | (with_reducible refine e_Row ?_))
section
variable {P : Program} {w : World} {K : PySem.W.Frag} {mg : Str → Option Value} {base : Heap}
/-! ### comparing operators of own classes, by data -/
def rCO (C : Addr) (K : PySem.W.Frag) (S : SpD) : R2 := fun x y H Q => ∃ a dx fs tb, x = .ref a ∧ H a = some (.ins C dx fs) ∧ OW.RTy H y tb ∧ PySem.W.notFirst K C tb = true ∧ spOf K S [x, y] H Q E0
theorem r_COi {C : Addr} {S : SpD} {m : Mu} {k : D → Mu → Prop} {fs : List (Str × D)} {i : Int} (hn : PySem.W.notFirst K C (.type "int") = true) (h : S [.ins C fs, .int i] m k) : wR K (rCO C K S) (.ins C fs) (.int i) m k := r_cmp (.inl rfl) (.int i) hn h
theorem nf_of {C : Addr} {tb : Value} (h : PySem.W.subIn K tb (.ref C) = some false) : PySem.W.notFirst K C tb = true := by
  unfold PySem.W.notFirst
  rw [h]
  simp
theorem r_COt (T : Txt K mg) {S : SpD} {m : Mu} {k : D → Mu → Prop} {d : D} {t u : Lin} (hn : Wth K d u) (h : S [tmD K t, d] m k) : wR K (rCO (CT K) K S) (tmD K t) d m k := by
  cases hn with
  | tm u => exact r_cmp (.inl rfl) (.ins _ _) (notFirst_self _ _) h
  | num hq =>
    cases hq with
    | int i => exact r_cmp (.inl rfl) (.int i) (notFirst_int _ _) h
    | sh q => exact r_cmp (.inl rfl) (.ins _ _) (nf_of T.su_Share_Term) h
theorem e_methR {S : SpD} {r : En} {m : Mu} {k : D → Mu → Prop} {E : XK} {mn : Str} {ta : TE} {t : TA} (hl : ∀ u b, (rwF K u b).lookup mn = none) (h : wE K ta r m fun x m1 => ∃ u b, x = rwD K u b ∧ wA K t r m1 fun xs m2 => S (rwD K u b :: xs) m2 k) : wE K (tMeth (CR K) mn (spOf K S) [] E ta t) r m k :=
  e_methI (h.mono fun x m1 ⟨u, b, e, c⟩ => ⟨rwF K u b, e, hl u b, by subst e; exact c⟩)
section
variable {X : Cx} {K' : PySem.W.Frag} {mg' : Str → Option Value} {S : SpD} {n : Nat} {fd : FuncData} {ps : List Str}
theorem oCmpO {op : CmpOp} {C f : Addr} {mn : Str} (hop : ∀ a b, compareOp op a b = richCompare op a b) (hm : (cmpInfo op).2.1 = mn) (M : Meth K' C mn f) (G : FnOk X.prog X.w X.K X.mg X.base CX0 n f fd ps (spOf K' S)) (hr : Room n X.A) (b : Binds X.K fd ps []) (hK : X.K = K' := by rfl) : OpR X (compareOp op) (rCO C K' S) := by
  subst hK hm
  exact OW.op_cmp hop M.at_ M.fn G hr b pass0
theorem oInvR (T : Txt K' mg') (G : FnOk X.prog X.w X.K X.mg X.base CX0 n (mR K' "__invert__") fd ps (spOf K' S)) (hr : Room n X.A) (b : Binds X.K fd ps []) (hK : X.K = K' := by rfl) : UnR X (unaryOp .Invert) (rU1 (CR K') K' S) := by
  subst hK
  exact OW.un_own (.inr ⟨rfl, rfl⟩) T.m_Row_invert.at_ T.m_Row_invert.fn G hr b pass0
end
local macro_rules | `(tactic| walk_at "d1") => `(tactic| first
  | (with_reducible refine e_methR (fun _ _ => rfl) ?_) | (with_reducible refine r_COi (notFirst_int _ _) ?_))
def hld (t : Lin) (b : Bool) (qs : List Rat) : Bool := if b = true then decide (0 < t.at qs) else decide (0 ≤ t.at qs)
def S_holds (K : PySem.W.Frag) : SpD := fun ds m k => ∃ t b d qs, ds = [rwD K t b, d] ∧ Pt K d qs ∧ (∃ B C, SzL B t ∧ 0 < C ∧ (∀ q ∈ qs, Sz C q) ∧ 4 * B + 3 * C + 3 ≤ 8900) ∧ k (.bl (hld t b qs)) m
theorem at_sz {B C : Nat} {t : Lin} {qs : List Rat} (h1 : SzL B t) (hC : 0 < C) (h2 : ∀ q ∈ qs, Sz C q) : Sz (4 * B + 3 * C + 3) (t.at qs) := by
  have hz : ∀ i, Sz C (ptv qs i) := fun i => by
    unfold ptv
    rw [List.getD_eq_getElem?_getD]
    rcases hi : qs[i]? with _ | q
    · exact sz_zero C hC
    · exact h2 q (List.mem_of_getElem? hi)
  exact (((h1.c.add (h1.x.mul (hz 0))).add (h1.y.mul (hz 1))).add (h1.z.mul (hz 2))).mono (by omega)
structure Rw1 (P : Program) (w : World) (K : PySem.W.Frag) (mg : Str → Option Value) (base : Heap) : Prop where
  at_ : Fn P w K mg base 6 (mT K "at") ["self", "point"] (S_at K)
  gt : Fn P w K mg base 5 (mS K "__gt__") ["self", "other"] (S_cmp K (fun q p => decide (p < q)))
  ge : Fn P w K mg base 5 (mS K "__ge__") ["self", "other"] (S_cmp K (fun q p => decide (p ≤ q)))
theorem sc_Row_holds : FnScope ["self", "point", "found"] ["self", "point"] (defScope s_Row_holds) := ⟨rfl, rfl, rfl, by decide +kernel, rfl, by decide +kernel, by decide +kernel⟩
theorem fn_Row_holds (T : Txt K mg) (O : Rw1 P w K mg base) : Fn P w K mg base 7 (mR K "holds") ["self", "point"] (S_holds K) := by
  obtain ⟨⟨⟨_, G_Term_at, b_Term_at⟩, _⟩, ⟨⟨_, G_Share_gt, b_Share_gt⟩, _⟩, ⟨⟨_, G_Share_ge, b_Share_ge⟩, _⟩⟩ := O
  refine fn_of1 (kk := 6) T.F_Row_holds sc_Row_holds (fun ds m k h => by obtain ⟨t, b, d, qs, rfl, _⟩ := h; rfl) (fun _ _ _ _ _ _ us hl => match us, hl with | [_, _], _ => rfl) ?_
  intro cdv A outer s H E hr
  refine ⟨_, (pss_cons (ps_set (i := 2) sc_Row_holds.nd rfl (.inl rfl) (pe_meth (pe_fld (pv 0) rfl) T.c_Term T.m_Term_at G_Term_at (hr.mono (by decide)) b_Term_at .nil pass0 (pa_cons (pv 1) pa_nil)))
      (pss_cons (ps_if (pt_val (pe_fld (pv 0) rfl)) (pss_one (ps_ret (pe_cmpR (oCmpO (op := .Gt) (fun _ _ => rfl) rfl T.m_Share_gt (n := 5) G_Share_gt (hr.mono (by decide)) b_Share_gt) (pv 2) pe_int (nomark _)))) pss_nil)
      (pss_one (ps_ret (pe_cmpR (oCmpO (op := .GtE) (fun _ _ => rfl) rfl T.m_Share_ge (n := 5) G_Share_ge (hr.mono (by decide)) b_Share_ge) (pv 2) pe_int (nomark _)))))), ?_⟩
  intro ds m k hS
  obtain ⟨t, b, d, qs, rfl, hp, ⟨B, C, h1, hC, h2, h3⟩, hk⟩ := hS
  walk_at "s"
  walk_at "d"
  refine ⟨t, d, qs, rfl, hp, ⟨B, C, h1, hC, h2, by omega⟩, ?_⟩
  have hz := at_sz h1 hC h2
  have h0 : Two K (.int 0) (t.at qs) ((0 : Int) : Rat) := ⟨.int 0, _, 1, hz, sz_zero 1 (by decide), by omega⟩
  walk_at "d"
  cases b with
  | true =>
    walk_at "d"
    exact ⟨_, _, _, rfl, h0, hk⟩
  | false =>
    walk_at "d"
    exact ⟨_, _, _, rfl, h0, hk⟩
def S_inv (K : PySem.W.Frag) : SpD := fun ds m k => ∃ t b, ds = [rwD K t b] ∧ SzL 999 t ∧ k (rwD K t.neg.prim (!b)) m
theorem sc_Row_invert : FnScope ["self"] ["self"] (defScope s_Row_invert) := ⟨rfl, rfl, rfl, by decide +kernel, rfl, by decide +kernel, by decide +kernel⟩
theorem fn_Row_invert (T : Txt K mg) (On : Fn P w K mg base 7 (mT K "__neg__") ["self"] (S_tuna K Lin.neg)) (Oi : Fn P w K mg base 7 (mR K "__init__") ["self", "term", "strict"] (S_Row_init K)) : Fn P w K mg base 9 (mR K "__invert__") ["self"] (S_inv K) := by
  obtain ⟨⟨_, G_Term_neg, b_Term_neg⟩, _⟩ := On
  obtain ⟨⟨_, G_Row_init, b_Row_init⟩, _⟩ := Oi
  refine fn_of1 (kk := 8) T.F_Row_invert sc_Row_invert (fun ds m k h => by obtain ⟨t, b, rfl, _⟩ := h; rfl) (fun _ _ _ _ _ _ us hl => match us, hl with | [_], _ => rfl) ?_
  intro cdv A outer s H E hr
  refine ⟨_, (pss_one (ps_ret (pe_make T.k_Row G_Row_init (hr.mono (by decide)) rfl T.g_Row b_Row_init .nil pass0 (pa_cons (pe_un (oNegT (n := 7) T G_Term_neg (hr.mono (by decide)) b_Term_neg) (pe_fld (pv 0) rfl)) (pa_cons (pe_not (pe_fld (pv 0) rfl)) pa_nil))))), ?_⟩
  intro ds m k hS
  obtain ⟨t, b, rfl, hz, hk⟩ := hS
  walk_at "s"
  walk_at "d"
  refine ⟨t, rfl, hz.mono (by decide), ?_⟩
  walk_at "d"
  exact ⟨_, _, rfl, rfl, hz.neg, hk⟩
end
end LW
end

section
set_option Elab.async false
set_option linter.all false
set_option maxRecDepth 100000
set_option maxHeartbeats 1000000
set_option exponentiation.threshold 10000
namespace LW
open MA
namespace Lin
theorem ext' {t u : Lin} (h1 : t.c = u.c) (h2 : t.x = u.x) (h3 : t.y = u.y) (h4 : t.z = u.z) : t = u := by
  cases t; cases u
  simp only at h1 h2 h3 h4
  subst h1 h2 h3 h4
  rfl
/-- a multiple by what is above 0 -/
def Pos (t u : Lin) : Prop := ∃ c : Rat, 0 < c ∧ u = t.scale c
theorem scale_scale (t : Lin) (a b : Rat) : (t.scale a).scale b = t.scale (a * b) := ext' (Rat.mul_assoc _ _ _) (Rat.mul_assoc _ _ _) (Rat.mul_assoc _ _ _) (Rat.mul_assoc _ _ _)
theorem scale_one (t : Lin) : t.scale 1 = t := ext' (Rat.mul_one _) (Rat.mul_one _) (Rat.mul_one _) (Rat.mul_one _)
theorem pos_self (t : Lin) : Pos t t := ⟨1, by decide, (scale_one t).symm⟩
theorem Pos.scale {t u : Lin} (h : Pos t u) {c : Rat} (hc : 0 < c) : Pos t (u.scale c) := by
  obtain ⟨d, hd, rfl⟩ := h
  exact ⟨d * c, Rat.mul_pos hd hc, scale_scale t d c⟩
theorem Pos.prim {t u : Lin} (h : Pos t u) : Pos t u.prim := h.scale (wf_pos u)
theorem sub_zero (t : Lin) : t.sub (con 0) = t := by
  refine ext' ?_ ?_ ?_ ?_
  · show t.c + 0 * -1 = t.c; grind
  · show t.x + 0 * -1 = t.x; grind
  · show t.y + 0 * -1 = t.y; grind
  · show t.z + 0 * -1 = t.z; grind
theorem zero_sub (t : Lin) : (con 0).sub t = t.neg := by
  refine ext' ?_ ?_ ?_ ?_
  · show 0 + t.c * -1 = t.c * -1; grind
  · show 0 + t.x * -1 = t.x * -1; grind
  · show 0 + t.y * -1 = t.y * -1; grind
  · show 0 + t.z * -1 = t.z * -1; grind
theorem sub_sub (t u : Lin) : t.sub (t.sub u) = u := by
  refine ext' ?_ ?_ ?_ ?_
  · show t.c + (t.c + u.c * -1) * -1 = u.c; grind
  · show t.x + (t.x + u.x * -1) * -1 = u.x; grind
  · show t.y + (t.y + u.y * -1) * -1 = u.y; grind
  · show t.z + (t.z + u.z * -1) * -1 = u.z; grind
theorem neg_neg (t : Lin) : t.neg.neg = t := by
  refine ext' ?_ ?_ ?_ ?_
  · show t.c * -1 * -1 = t.c; grind
  · show t.x * -1 * -1 = t.x; grind
  · show t.y * -1 * -1 = t.y; grind
  · show t.z * -1 * -1 = t.z; grind
theorem neg_scale (t : Lin) (c : Rat) : (t.neg.scale c).neg = t.scale c := by
  refine ext' ?_ ?_ ?_ ?_
  · show t.c * -1 * c * -1 = t.c * c; grind
  · show t.x * -1 * c * -1 = t.x * c; grind
  · show t.y * -1 * c * -1 = t.y * c; grind
  · show t.z * -1 * c * -1 = t.z * c; grind
theorem neg_scale' (t : Lin) (c : Rat) : (t.scale c).neg = t.neg.scale c := by
  refine ext' ?_ ?_ ?_ ?_
  · show t.c * c * -1 = t.c * -1 * c; grind
  · show t.x * c * -1 = t.x * -1 * c; grind
  · show t.y * c * -1 = t.y * -1 * c; grind
  · show t.z * c * -1 = t.z * -1 * c; grind
theorem neg_prim_neg (t : Lin) : Pos t t.neg.prim.neg := ⟨_, wf_pos t.neg, neg_scale t _⟩
theorem scale_at (t : Lin) (c : Rat) (qs : List Rat) : (t.scale c).at qs = c * t.at qs := by
  show t.c * c + t.x * c * ptv qs 0 + t.y * c * ptv qs 1 + t.z * c * ptv qs 2 = c * (t.c + t.x * ptv qs 0 + t.y * ptv qs 1 + t.z * ptv qs 2)
  grind
theorem neg_at (t : Lin) (qs : List Rat) : t.neg.at qs = - t.at qs := by
  rw [show t.neg = t.scale (-1) from rfl, scale_at]
  grind
theorem sum_ofI (a b c d : Int) : ((((con (a : Rat)).add ((unk 0).scale b)).add ((unk 1).scale c)).add ((unk 2).scale d)) = ofI a b c d := by
  refine ext' ?_ ?_ ?_ ?_
  · show (a : Rat) + 0 * b + 0 * c + 0 * d = a; grind
  · show (0 : Rat) + 1 * b + 0 * c + 0 * d = b; grind
  · show (0 : Rat) + 0 * b + 1 * c + 0 * d = c; grind
  · show (0 : Rat) + 0 * b + 0 * c + 1 * d = d; grind
theorem pos_hld {t u : Lin} (h : Pos t u) (b : Bool) (qs : List Rat) : hld u b qs = hld t b qs := by
  obtain ⟨c, hc, rfl⟩ := h
  unfold hld
  rw [scale_at]
  have h1 : (0 < c * t.at qs) ↔ 0 < t.at qs := by
    constructor
    · intro h
      by_cases h2 : 0 < t.at qs
      · exact h2
      · have h4 : 0 ≤ -(t.at qs) := by grind
        have := Rat.mul_nonneg (Rat.le_of_lt hc) h4
        grind
    · intro h
      exact Rat.mul_pos hc h
  have h2 : (0 ≤ c * t.at qs) ↔ 0 ≤ t.at qs := by
    constructor
    · intro h
      by_cases h2 : t.at qs < 0
      · have h3 : 0 < -(t.at qs) := by grind
        have := Rat.mul_pos hc h3
        grind
      · grind
    · intro h
      exact Rat.mul_nonneg (Rat.le_of_lt hc) h
  cases b <;> simp only [h1, h2]
theorem neg_hld (t : Lin) (b : Bool) (qs : List Rat) : hld t.neg (!b) qs = !hld t b qs := by
  unfold hld
  rw [neg_at]
  cases b
  · have : (0 < - t.at qs) ↔ ¬ 0 ≤ t.at qs := by grind
    simp only [Bool.not_false, if_true, Bool.false_eq_true, if_false, this, decide_not]
  · have : (0 ≤ - t.at qs) ↔ ¬ 0 < t.at qs := by grind
    simp only [Bool.not_true, if_true, Bool.false_eq_true, if_false, this, decide_not]
end Lin
end LW
end

section
set_option Elab.async false
set_option linter.all false
set_option maxRecDepth 100000
set_option maxHeartbeats 1000000
namespace LW
open MA
namespace Lin
theorem G4_one {a b c d : Int} (h : G4 a b c d ≤ 1) {k : Int} (h1 : k ∣ a) (h2 : k ∣ b) (h3 : k ∣ c) (h4 : k ∣ d) : (a = 0 ∧ b = 0 ∧ c = 0 ∧ d = 0) ∨ k.natAbs = 1 := by
  rcases Nat.lt_or_ge 0 (G4 a b c d) with h0 | h0
  · right
    have e : G4 a b c d = 1 := by omega
    have := dvd_G4 h1 h2 h3 h4
    rw [e] at this
    have h5 : k.natAbs ∣ 1 := by simpa using Int.natAbs_dvd_natAbs.mpr this
    exact Nat.dvd_one.mp h5
  · left
    exact G4_zero (by omega)
theorem mul_den (c : Rat) : c * ((c.den : Int) : Rat) = (c.num : Rat) := by
  have hd : (c.den : Int) ≠ 0 := den_ne c
  have e1 : c = Rat.divInt c.num (c.den : Int) := (Rat.num_divInt_den c).symm
  have e2 : ((c.den : Int) : Rat) = Rat.divInt (c.den : Int) 1 := (divInt_one _).symm
  have e3 : (c.num : Rat) = Rat.divInt c.num 1 := (divInt_one _).symm
  rw [e2, e3]
  conv => lhs; lhs; rw [e1]
  rw [Rat.divInt_mul_divInt, Int.mul_one]
  have := Rat.divInt_mul_right (n := c.num) (d := 1) hd
  rw [Int.one_mul] at this
  exact this
theorem cross {c : Rat} {a b : Int} (h : ((b : Int) : Rat) = (a : Rat) * c) : b * (c.den : Int) = a * c.num := by
  have h2 : ((b * (c.den : Int) : Int) : Rat) = ((a * c.num : Int) : Rat) := by
    rw [Rat.intCast_mul, Rat.intCast_mul, h, Rat.mul_assoc, mul_den]
  exact Rat.intCast_inj.mp h2
theorem isP_uniq {t u : Lin} (ht : t.IsP) (hu : u.IsP) (h : Pos t u) : t = u := by
  obtain ⟨a, b, c, d, rfl, g1⟩ := ht
  obtain ⟨a', b', c', d', rfl, g2⟩ := hu
  obtain ⟨q, hq, e⟩ := h
  have e1 : ((a' : Int) : Rat) = (a : Rat) * q := congrArg Lin.c e
  have e2 : ((b' : Int) : Rat) = (b : Rat) * q := congrArg Lin.x e
  have e3 : ((c' : Int) : Rat) = (c : Rat) * q := congrArg Lin.y e
  have e4 : ((d' : Int) : Rat) = (d : Rat) * q := congrArg Lin.z e
  have f1 := cross e1
  have f2 := cross e2
  have f3 := cross e3
  have f4 := cross e4
  have hcop : Nat.Coprime q.num.natAbs q.den := q.reduced
  have na : ∀ x y : Int, y * (q.den : Int) = x * q.num → y.natAbs * q.den = x.natAbs * q.num.natAbs := fun x y hf => by
    have := congrArg Int.natAbs hf
    rwa [Int.natAbs_mul, Int.natAbs_mul, Int.natAbs_natCast] at this
  have dv : ∀ x y : Int, y * (q.den : Int) = x * q.num → (q.den : Int) ∣ x := fun x y hf => by
    have h1 : q.den ∣ x.natAbs * q.num.natAbs := ⟨y.natAbs, by rw [← na x y hf, Nat.mul_comm]⟩
    exact Int.natAbs_dvd_natAbs.mp (by rw [Int.natAbs_natCast]; exact hcop.symm.dvd_of_dvd_mul_right h1)
  have dn : ∀ x y : Int, y * (q.den : Int) = x * q.num → q.num ∣ y := fun x y hf => by
    have h1 : q.num.natAbs ∣ y.natAbs * q.den := ⟨x.natAbs, by rw [na x y hf, Nat.mul_comm]⟩
    exact Int.natAbs_dvd_natAbs.mp (hcop.dvd_of_dvd_mul_right h1)
  rcases G4_one g1 (dv _ _ f1) (dv _ _ f2) (dv _ _ f3) (dv _ _ f4) with ⟨rfl, rfl, rfl, rfl⟩ | hd
  · rw [e]
    show _ = Lin.mk _ _ _ _
    simp [ofI, Rat.zero_mul]
  · have hd1 : q.den = 1 := by simpa using hd
    have hn0 : 0 < q.num := by
      rw [Rat.lt_iff] at hq
      have : (0 : Int) * (q.den : Int) < q.num * 1 := hq
      omega
    rcases G4_one g2 (dn _ _ f1) (dn _ _ f2) (dn _ _ f3) (dn _ _ f4) with ⟨rfl, rfl, rfl, rfl⟩ | hn
    · rw [hd1] at f1 f2 f3 f4
      have z : ∀ x : Int, (0 : Int) * ((1 : Nat) : Int) = x * q.num → x = 0 := fun x hf => by
        rw [Int.zero_mul] at hf
        rcases Int.mul_eq_zero.mp hf.symm with h | h
        · exact h
        · omega
      rw [z a f1, z b f2, z c f3, z d f4]
    · have hn1 : q.num = 1 := by omega
      have hq1 : q = 1 := Rat.ext hn1 hd1
      rw [e, hq1, scale_one]
theorem Pos.symm {t u : Lin} (h : Pos t u) : Pos u t := by
  obtain ⟨c, hc, e⟩ := h
  have hne : c ≠ 0 := fun z => by rw [z] at hc; exact absurd hc (by decide)
  refine ⟨c⁻¹, Rat.inv_pos.mpr hc, ?_⟩
  rw [e, scale_scale, Rat.mul_inv_cancel _ hne, scale_one]
theorem Pos.trans {t u v : Lin} (h : Pos t u) (g : Pos u v) : Pos t v := by
  obtain ⟨c, hc, rfl⟩ := h
  obtain ⟨e, he, rfl⟩ := g
  exact ⟨c * e, Rat.mul_pos hc he, scale_scale t c e⟩
theorem prim_pos {t u : Lin} (h : Pos t u) : t.prim = u.prim :=
  isP_uniq (prim_isP t) (prim_isP u) (((pos_self t).prim).symm.trans (h.trans (pos_self u).prim))
theorem neg_pos {t u : Lin} (h : Pos t u) : Pos t.neg u.neg := by
  obtain ⟨c, hc, rfl⟩ := h
  exact ⟨c, hc, neg_scale' t c⟩
end Lin
end LW
end

section
set_option Elab.async false
set_option linter.all false
set_option maxRecDepth 100000
set_option maxHeartbeats 1000000
set_option exponentiation.threshold 10000
namespace LW
open PySem PySem.Spec PyProof.Rows L2 DL MA
local macro_rules | `(tactic| walk_at "d1") => `(tactic| first
  | (with_reducible refine s_seq ?_) | (with_reducible refine s_set ?_) | (with_reducible refine s_ret ?_) | (with_reducible refine s_if ?_) | (with_reducible refine s_fld ?_) | (with_reducible refine s_next ?_) | (with_reducible refine s_par ?_)
  | (with_reducible refine e_var rfl ?_) | (with_reducible refine e_int ?_) | (with_reducible refine e_bl ?_) | (with_reducible refine e_non ?_) | (with_reducible refine e_str ?_) | (with_reducible refine e_ty ?_) | (with_reducible refine e_ref ?_)
  | (with_reducible refine e_op ?_) | (with_reducible refine e_un ?_) | (with_reducible refine e_cb ?_) | (with_reducible refine e_if ?_) | (with_reducible refine e_andV ?_) | (with_reducible refine e_orV ?_) | (with_reducible refine e_notV ?_) | (with_reducible refine e_fld ?_)
  | (with_reducible refine e_call0 ?_) | (with_reducible refine e_meth0 ?_) | (with_reducible refine e_make (dds := []) nilD ?_) | (with_reducible refine e_stat0 ?_)
  | (with_reducible refine a_nil ?_) | (with_reducible refine a_cons ?_) | (with_reducible refine e_tup ?_)
  | (with_reducible refine t_test ?_) | (with_reducible refine t_B ?_) | (with_reducible refine t_and ?_) | (with_reducible refine t_or ?_) | (with_reducible refine t_not ?_)
  | (with_reducible refine ri0 ?_) | (with_reducible refine rb0 ?_) | (with_reducible refine req ?_) | (with_reducible refine rne ?_) | (with_reducible refine reqb ?_) | (with_reducible refine ui ?_)
  | (with_reducible refine c_abs ?_) | (with_reducible refine c_int1 ?_) | (with_reducible refine c_bool1 ?_)
  | (with_reducible refine Exists.intro _ (And.intro rfl ?_)))
local macro_rules | `(tactic| walk_at "d") => `(tactic| repeat (walk_at "d1"; try dsimp only [List.set, wipeD, List.map]))
local macro_rules | `(tactic| walk_at "s") => `(tactic| dsimp only [cxOf, Cx.nox, Cx.wish, startD, List.map, List.length, Nat.reduceAdd, Nat.reduceSub, List.reduceReplicate, HAppend.hAppend, Append.append, List.append])
local macro_rules | `(tactic| walk_at "d1") => `(tactic| first
  | (with_reducible refine fld_top (by assumption) ?_) | (with_reducible refine fld_bottom (by assumption) ?_)
  | (with_reducible refine isnum_num (by assumption) (by assumption) ?_) | (with_reducible refine assh_num (by assumption) ?_) | (with_reducible refine isnum_num (by assumption) (Num.sh _) ?_) | (with_reducible refine assh_num (Num.sh _) ?_) | (with_reducible refine isnum_num (by assumption) (Num.int _) ?_) | (with_reducible refine assh_num (Num.int _) ?_)
  | (with_reducible refine e_Share1 ?_) | (with_reducible refine e_Share2 ?_))
local macro_rules | `(tactic| walk_at "d1") => `(tactic| first | (with_reducible refine r_SN (by assumption) ?_) | (with_reducible refine r_SN (Num.sh _) ?_) | (with_reducible refine r_SN (Num.int _) ?_) | (with_reducible refine u_S ?_))
local macro_rules | `(tactic| walk_at "d1") => `(tactic| first
  | (with_reducible refine fld_number (by assumption) ?_) | (with_reducible refine fld_times (by assumption) ?_) | (with_reducible refine e_Term ?_)
  | (with_reducible refine e_lcU (gin_name (by decide)) ?_) | (with_reducible refine i_rng1 ?_) | (with_reducible refine i_tup ?_) | (with_reducible refine i_list ?_) | (with_reducible refine t_yes ?_) | (with_reducible refine g_name ?_)
  | (with_reducible refine unrc_r3 ?_) | (with_reducible refine unrc_r4 ?_) | (with_reducible refine unr_r3 ?_) | (with_reducible refine unr_r4 ?_) | (with_reducible refine unr_r2 ?_) | (with_reducible refine unrc_cons ?_) | (with_reducible refine unrc_nil ?_) | (with_reducible refine unr_cons ?_) | (with_reducible refine unr_nil ?_) | (with_reducible refine s_forU ?_)
  | (with_reducible refine iteT ?_) | (with_reducible refine iteF ?_) | (with_reducible refine e_chain ?_) | (with_reducible refine And.intro len3 ?_) | (with_reducible refine And.intro len4 ?_) | (with_reducible refine And.intro (by decide) ?_) | (with_reducible refine ite_d1 (by decide) ?_) | (with_reducible refine ite_d0 (by decide) ?_))
local macro_rules | `(tactic| walk_at "d1") => `(tactic| first
  | (with_reducible refine isworth (by assumption) (by assumption) ?_) | (with_reducible refine asterm (by assumption) ?_) | (with_reducible refine isworth (by assumption) (Wth.tm _) ?_) | (with_reducible refine asterm (Wth.tm _) ?_)
  | (with_reducible refine i_zipT ?_) | (with_reducible refine unrc_z3 ?_) | (with_reducible refine e_lcU (gin_tup (gsin_one (by decide) (gsin_one (by decide) gsin_nil))) ?_) | (with_reducible refine g_tup rfl ?_) | (with_reducible refine gs_cons ?_) | (with_reducible refine gs_nil ?_)
  | (with_reducible refine And.intro lenz3 ?_) | (with_reducible refine Exists.intro _ (Exists.intro _ (And.intro rfl ?_)))
  | (with_reducible refine EN.i_enumT ?_) | (with_reducible refine unr_e3 ?_) | (with_reducible refine e_methT (fun _ => rfl) ?_) | (with_reducible refine a_star ?_)
  | (with_reducible refine r_TW (by assumption) ?_) | (with_reducible refine r_TW (Wth.tm _) ?_))
local macro_rules | `(tactic| walk_at "d1") => `(tactic| first
  | (with_reducible refine a_starT ?_) | (with_reducible refine And.intro len4' ?_) | (with_reducible refine fld_term (by assumption) ?_) | (with_reducible refine fld_strict (by assumption) ?_) | (with_reducible refine e_Row ?_))
section
variable {P : Program} {w : World} {K : PySem.W.Frag} {mg : Str → Option Value} {base : Heap}
/-- the type of a datum that does not change -/
inductive Knd (K : PySem.W.Frag) : D → Value → Prop where
  | int (i : Int) : Knd K (.int i) (.type "int")
  | bl (b : Bool) : Knd K (.bl b) (.type "bool")
  | non : Knd K .non (.type "NoneType")
  | str (x : Str) : Knd K (.str x) (.type "str")
  | lst (xs : List D) : Knd K (.lst xs) (.type "list")
  | tup (xs : List D) : Knd K (.tup xs) (.type "tuple")
  | dic (kvs : List (Key × V)) : Knd K (.raw (.dK kvs)) (.type "dict")
  | ins {C : Addr} (fs : List (Str × D)) (c : ClI K C) : Knd K (.ins C fs) (.ref C)
theorem Knd.ti {d : D} {t : Value} (h : Knd K d t) (m : Mu) : TI2 K m d t := by
  cases h with
  | int i => exact .int i
  | bl b => exact .bl b
  | non => exact .non
  | str x => exact .str x
  | lst xs => exact .lst xs
  | tup xs => exact .tup xs
  | dic kvs => exact .dic kvs
  | ins fs c => exact .ins (.inl rfl) c
theorem Knd.tda {d : D} {t : Value} (h : Knd K d t) : TDA d t := by
  cases h with
  | int i => exact .base (.int i)
  | bl b => exact .base (.bl b)
  | non => exact .base .non
  | str x => exact .base (.str x)
  | lst xs => exact .lst xs
  | tup xs => exact .tup xs
  | dic kvs => exact .dic kvs
  | ins fs c => exact .base (.ins _ fs)
theorem nf_bool (K : PySem.W.Frag) (C : Addr) : PySem.W.notFirst K C (.type "bool") = true := rfl
theorem nf_none (K : PySem.W.Frag) (C : Addr) : PySem.W.notFirst K C (.type "NoneType") = true := rfl
theorem nf_str (K : PySem.W.Frag) (C : Addr) : PySem.W.notFirst K C (.type "str") = true := rfl
theorem nf_list (K : PySem.W.Frag) (C : Addr) : PySem.W.notFirst K C (.type "list") = true := rfl
theorem nf_dict (K : PySem.W.Frag) (C : Addr) : PySem.W.notFirst K C (.type "dict") = true := rfl
theorem nf_tuple (K : PySem.W.Frag) (C : Addr) : PySem.W.notFirst K C (.type "tuple") = true := rfl
theorem nf_su {C C2 : Addr} (h : PySem.W.subIn K (.ref C2) (.ref C) = some false) : PySem.W.notFirst K C (.ref C2) = true := by
  unfold PySem.W.notFirst
  rw [h]; simp
/-! ### reading == and != of an instance -/
def rCA (K : PySem.W.Frag) (C : Addr) (S : SpD) : R2 := fun x y H Q => ∃ a dx fs tb, x = .ref a ∧ H a = some (.ins C dx fs) ∧ OW.TyA K H y tb ∧ PySem.W.notFirst K C tb = true ∧ spOf K S [x, y] H Q E0
def rNA (K : PySem.W.Frag) (C : Addr) (S : SpD) : R2 := fun x y H Q => ∃ a dx fs tb, x = .ref a ∧ H a = some (.ins C dx fs) ∧ OW.TyA K H y tb ∧ PySem.W.notFirst K C tb = true ∧ spOf K S [x, y] H (fun v H' => ∃ b, v = .bl b ∧ Q (.bl (!b)) H') E0
theorem r_CA {S : SpD} {C : Addr} {m : Mu} {k : D → Mu → Prop} {fs : List (Str × D)} {y : D} {t : Value} (hy : Knd K y t) (hn : PySem.W.notFirst K C t = true) (q : S [.ins C fs, y] m k) : wR K (rCA K C S) (.ins C fs) y m k := r_cmpA (.inl rfl) hy.tda hn q
theorem r_NA {S : SpD} {C : Addr} {m : Mu} {k : D → Mu → Prop} {fs : List (Str × D)} {y : D} {t : Value} (hy : Knd K y t) (hn : PySem.W.notFirst K C t = true) (q : S [.ins C fs, y] m fun d m' => ∃ b, d = .bl b ∧ k (.bl (!b)) m') : wR K (rNA K C S) (.ins C fs) y m k := r_ne0 (.inl rfl) hy.tda hn q
section
variable {X : Cx} {K' : PySem.W.Frag} {mg' : Str → Option Value} {S : SpD} {n : Nat} {fd : FuncData} {ps : List Str}
theorem oCmpA {op : CmpOp} {C f : Addr} {mn : Str} (hop : ∀ a b, compareOp op a b = richCompare op a b) (hm : (cmpInfo op).2.1 = mn) (M : Meth K' C mn f) (G : FnOk X.prog X.w X.K X.mg X.base CX0 n f fd ps (spOf K' S)) (hr : Room n X.A) (b : Binds X.K fd ps []) (hK : X.K = K' := by rfl) : OpR X (compareOp op) (rCA K' C S) := by
  subst hK hm
  exact OW.op_cmpA hop M.at_ M.fn G hr b pass0
theorem oNeA {C f : Addr} (hne : PySem.W.findIn K' (.ref C) "__ne__" = some (some (.builtin "object.__ne__"))) (I : ClI K' C) (M : Meth K' C "__eq__" f) (G : FnOk X.prog X.w X.K X.mg X.base CX0 n f fd ps (spOf K' S)) (hr : Room (n + 1) X.A) (b : Binds X.K fd ps []) (hK : X.K = K' := by rfl) : OpR X (compareOp .NotEq) (rNA K' C S) := by
  subst hK
  exact OW.op_ne hne I.ob M.at_ M.fn G hr b pass0
theorem op_or {o : Value → Value → Sem Value} {R1 R2' : R2} (h1 : OpR X o R1) (h2 : OpR X o R2') : OpR X o (fun x y H Q => R1 x y H Q ∨ R2' x y H Q) := by
  intro pins s σ H x y u v Q I rx ry h
  rcases h with h | h
  · exact h1 pins s σ H x y u v Q I rx ry h
  · exact h2 pins s σ H x y u v Q I rx ry h
end
/-! ### Share.__eq__ -/
def S_Seq (K : PySem.W.Frag) : SpD := fun ds m k => ∃ q d, ds = [shD K q, d] ∧ ((∃ p, Num K d p ∧ k (.bl (decide (q = p))) m) ∨ ∃ t i, Knd K d t ∧ TyA K t i false ∧ k (.bl false) m)
theorem sc_Share_eq : FnScope ["self", "other", "more"] ["self", "other"] (defScope s_Share_eq) := ⟨rfl, rfl, rfl, by decide +kernel, rfl, by decide +kernel, by decide +kernel⟩
theorem fn_Share_eq (T : Txt K mg) (O : Sh0 P w K mg base) : Fn P w K mg base 5 (mS K "__eq__") ["self", "other"] (S_Seq K) := by
  obtain ⟨⟨⟨_, G_is_number, b_is_number⟩, k_is_number⟩, ⟨⟨_, G_as_share, b_as_share⟩, k_as_share⟩, _, G_Share_init, b_Share_init, _, v1_Share_init, b1_Share_init⟩ := O
  refine fn_of1 (kk := 4) T.F_Share_eq sc_Share_eq (fun ds m k h => by obtain ⟨q, d, rfl, _⟩ := h; rfl) (fun _ _ _ _ _ _ us hl => match us, hl with | [_, _], _ => rfl) ?_
  intro cdv A outer s H E hr
  refine ⟨_, (pss_cons (ps_if (pt_not (pt_val (pe_call G_is_number (hr.mono (by decide)) rfl T.g_is_number k_is_number b_is_number .nil pass0 (pa_cons (pv 1) pa_nil)))) (pss_one (ps_ret pe_bl)) pss_nil)
      (pss_cons (ps_set (i := 2) sc_Share_eq.nd rfl (.inl rfl) (pe_call G_as_share (hr.mono (by decide)) rfl T.g_as_share k_as_share b_as_share .nil pass0 (pa_cons (pv 1) pa_nil)))
      (pss_one (ps_ret (pe_and (pe_cmpR op_eq (pe_fld (pv 0) rfl) (pe_fld (pv 2) rfl) (nomark _)) (pe_one (pe_cmpR op_eq (pe_fld (pv 0) rfl) (pe_fld (pv 2) rfl) (nomark _)))))))), ?_⟩
  intro ds m k hS
  obtain ⟨q, d, rfl, hS⟩ := hS
  walk_at "s"
  rcases hS with ⟨p, hn, hk⟩ | ⟨t, i, hd, hty, hk⟩
  · walk_at "d"
    by_cases h1 : q.num = p.num
    · refine ite_d1 (by simpa using h1) ?_
      walk_at "d"
      have e : decide ((q.den : Int) = (p.den : Int)) = decide (q = p) := decide_eq_decide.mpr ⟨fun h2 => Rat.ext h1 (by omega), fun h2 => by rw [h2]⟩
      rw [e]
      exact hk
    · refine ite_d0 (by simpa using h1) ?_
      have e : decide (q = p) = false := decide_eq_false fun h2 => h1 (by rw [h2])
      rw [e] at hk
      exact hk
  · walk_at "d"
    refine ⟨d, t, i, false, rfl, hd.ti m, hty, ?_⟩
    walk_at "d"
    exact hk
/-- shares -/
def ShR (K : PySem.W.Frag) : EqR := fun x y r => ∃ q p, x = shD K q ∧ y = shD K p ∧ r = decide (q = p)
theorem okR_sh : OkR (ShR K) := ⟨fun x y r ⟨q, p, h1, h2, _⟩ => by rw [h1, h2]; exact ⟨rfl, rfl⟩, fun x r ⟨q, p, h1, h2, h3⟩ => by
  rw [h1] at h2
  have : q.num = p.num ∧ q.den = p.den := by
    injection h2 with _ h
    simp only [shF, List.cons.injEq, Prod.mk.injEq, D.int.injEq, true_and, and_true] at h
    exact ⟨h.1, by omega⟩
  rw [h3, show q = p from Rat.ext this.1 this.2]; simp⟩
section
variable {X : Cx} {K' : PySem.W.Frag} {mg' : Str → Option Value} {n : Nat} {fd : FuncData} {ps : List Str}
theorem eqB_sh (T : Txt K' mg') (G : FnOk X.prog X.w X.K X.mg X.base CX0 n (mS K' "__eq__") fd ps (spOf K' (S_Seq K'))) (b : Binds X.K fd ps []) (hK : X.K = K' := by rfl) : EqB X n (ShR K') := by
  subst hK
  have G2 : FnOk X.prog X.w X.K X.mg X.base CX0 n (mS X.K "__eq__") fd ps (spB X.K (ShR X.K)) := G.imp fun _ _ _ _ h => sp_B (fun x y r k ⟨q, p, h1, h2, h3⟩ hk => by
    subst h1 h2 h3
    exact ⟨q, _, rfl, .inl ⟨p, .sh p, hk⟩⟩) h
  refine RcB.eqB okR_sh (rcB_ins (E := E0) (C := CS X.K) G2 ?_ T.m_Share_eq.at_ T.m_Share_eq.fn b pass0) ?_
  · rintro x y r ⟨q, p, rfl, rfl, _⟩
    exact ⟨⟨_, rfl⟩, _, .base (.ins _ _), notFirst_self _ _⟩
  · rintro x y r ⟨q, p, rfl, rfl, _⟩
    exact ⟨fun K F v => ref_ins, fun K F v => ref_ins⟩
end
/-! ### Term.__eq__ -/
instance : DecidableEq Lin := fun a b => if h : a.c = b.c ∧ a.x = b.x ∧ a.y = b.y ∧ a.z = b.z then isTrue (by cases a; cases b; simp_all) else isFalse fun e => h (by subst e; exact ⟨rfl, rfl, rfl, rfl⟩)
def S_Teq (K : PySem.W.Frag) : SpD := fun ds m k => ∃ t d, ds = [tmD K t, d] ∧ ((∃ u, d = tmD K u ∧ k (.bl (decide (t = u))) m) ∨ ∃ ty, Knd K d ty ∧ PySem.W.kitOne K ty (.ref (CT K)) = some false ∧ k (.bl false) m)
theorem lin_eq (t u : Lin) : t = u ↔ t.c = u.c ∧ t.x = u.x ∧ t.y = u.y ∧ t.z = u.z := ⟨fun e => by subst e; exact ⟨rfl, rfl, rfl, rfl⟩, fun h => by cases t; cases u; simp_all⟩
theorem seq3 {q1 q2 q3 p1 p2 p3 : Rat} : seqR (ShR K) (.tup [shD K q1, shD K q2, shD K q3]) (.tup [shD K p1, shD K p2, shD K p3]) (decide (q1 = p1) && (decide (q2 = p2) && (decide (q3 = p3) && true))) :=
  ⟨_, _, .inr ⟨rfl, rfl⟩, .cons ⟨_, _, rfl, rfl, rfl⟩ (.cons ⟨_, _, rfl, rfl, rfl⟩ (.cons ⟨_, _, rfl, rfl, rfl⟩ .nil))⟩
section
variable {X : Cx} {K' : PySem.W.Frag} {mg' : Str → Option Value} {n : Nat} {fd : FuncData} {ps : List Str}
theorem oEqTimes (T : Txt K' mg') (G : FnOk X.prog X.w X.K X.mg X.base CX0 n (mS K' "__eq__") fd ps (spOf K' (S_Seq K'))) (hr : Room (n + 1) X.A) (b : Binds X.K fd ps []) (hK : X.K = K' := by rfl) : OpR X (compareOp .Eq) (rEqB K' (seqR (ShR K'))) := by
  subst hK
  exact op_eqB (rcB_seq (eqB_sh T G b)) hr
end
theorem sc_Term_eq : FnScope ["self", "other"] ["self", "other"] (defScope s_Term_eq) := ⟨rfl, rfl, rfl, by decide +kernel, rfl, by decide +kernel, by decide +kernel⟩
theorem fn_Term_eq (T : Txt K mg) (O : Fn P w K mg base 5 (mS K "__eq__") ["self", "other"] (S_Seq K)) : Fn P w K mg base 7 (mT K "__eq__") ["self", "other"] (S_Teq K) := by
  obtain ⟨⟨_, G_Share_eq, b_Share_eq⟩, _⟩ := O
  refine fn_of1 (kk := 6) T.F_Term_eq sc_Term_eq (fun ds m k h => by obtain ⟨q, d, rfl, _⟩ := h; rfl) (fun _ _ _ _ _ _ us hl => match us, hl with | [_, _], _ => rfl) ?_
  intro cdv A outer s H E hr
  refine ⟨_, (pss_one (ps_ret (pe_and (pe_callB call_isi rfl T.n_isinstance (by decide +kernel) (pa_cons (pv 1) (pa_cons (pe_glob (v := .ref _) rfl T.g_Term rfl) pa_nil))) (pe_and (pe_cmpR (oCmpA (op := .Eq) (fun _ _ => rfl) rfl T.m_Share_eq (n := 5) G_Share_eq (hr.mono (by decide)) b_Share_eq) (pe_fld (pv 0) rfl) (pe_fld (pv 1) rfl) (nomark _)) (pe_one (pe_cmpR (oEqTimes (n := 5) T G_Share_eq (hr.mono (by decide)) b_Share_eq) (pe_fld (pv 0) rfl) (pe_fld (pv 1) rfl) (nomark _))))))), ?_⟩
  intro ds m k hS
  obtain ⟨t, d, rfl, hS⟩ := hS
  walk_at "s"
  rcases hS with ⟨u, rfl, hk⟩ | ⟨ty, hd, hty, hk⟩
  · walk_at "d"
    refine c_isi (.inr ⟨_, rfl, rfl⟩) (.ins (.inl rfl) T.i_Term) T.kk_Term_Term ?_
    walk_at "d"
    refine r_CA (.ins _ T.i_Share) (notFirst_self _ _) ⟨_, _, rfl, .inl ⟨_, .sh _, ?_⟩⟩
    walk_at "d"
    by_cases h1 : t.c = u.c
    · refine ite_d1 (by simpa using h1) ?_
      walk_at "d"
      refine r_eqB seq3 ?_
      have e : decide (t = u) = (decide (t.x = u.x) && (decide (t.y = u.y) && (decide (t.z = u.z) && true))) := by
        rw [Bool.eq_iff_iff]
        simp only [decide_eq_true_eq, Bool.and_eq_true, lin_eq, h1, true_and, and_true]
      rw [← e]
      exact hk
    · refine ite_d0 (by simpa using h1) ?_
      have e : decide (t = u) = false := decide_eq_false fun h2 => h1 (by rw [h2])
      rw [e] at hk
      exact hk
  · walk_at "d"
    refine c_isi (.inr ⟨_, rfl, rfl⟩) (hd.ti m) hty ?_
    walk_at "d"
    exact hk
/-! ### Row.__eq__ -/
def S_Req (K : PySem.W.Frag) : SpD := fun ds m k => ∃ t st d, ds = [rwD K t st, d] ∧ ((∃ u su, d = rwD K u su ∧ k (.bl (decide (t = u) && decide (st = su))) m) ∨ ∃ ty, Knd K d ty ∧ PySem.W.kitOne K ty (.ref (CR K)) = some false ∧ k (.bl false) m)
theorem sc_Row_eq : FnScope ["self", "other"] ["self", "other"] (defScope s_Row_eq) := ⟨rfl, rfl, rfl, by decide +kernel, rfl, by decide +kernel, by decide +kernel⟩
theorem fn_Row_eq (T : Txt K mg) (O : Fn P w K mg base 7 (mT K "__eq__") ["self", "other"] (S_Teq K)) : Fn P w K mg base 8 (mR K "__eq__") ["self", "other"] (S_Req K) := by
  obtain ⟨⟨_, G_Term_eq, b_Term_eq⟩, _⟩ := O
  refine fn_of1 (kk := 7) T.F_Row_eq sc_Row_eq (fun ds m k h => by obtain ⟨q, st, d, rfl, _⟩ := h; rfl) (fun _ _ _ _ _ _ us hl => match us, hl with | [_, _], _ => rfl) ?_
  intro cdv A outer s H E hr
  refine ⟨_, (pss_one (ps_ret (pe_and (pe_callB call_isi rfl T.n_isinstance (by decide +kernel) (pa_cons (pv 1) (pa_cons (pe_glob (v := .ref _) rfl T.g_Row rfl) pa_nil))) (pe_and (pe_cmpR (oCmpA (op := .Eq) (fun _ _ => rfl) rfl T.m_Term_eq (n := 7) G_Term_eq (hr.mono (by decide)) b_Term_eq) (pe_fld (pv 0) rfl) (pe_fld (pv 1) rfl) (nomark _)) (pe_one (pe_cmpR op_eq (pe_fld (pv 0) rfl) (pe_fld (pv 1) rfl) (nomark _))))))), ?_⟩
  intro ds m k hS
  obtain ⟨t, st, d, rfl, hS⟩ := hS
  walk_at "s"
  rcases hS with ⟨u, su, rfl, hk⟩ | ⟨ty, hd, hty, hk⟩
  · walk_at "d"
    refine c_isi (.inr ⟨_, rfl, rfl⟩) (.ins (.inl rfl) T.i_Row) T.kk_Row_Row ?_
    walk_at "d"
    refine r_CA (.ins _ T.i_Term) (notFirst_self _ _) ⟨_, _, rfl, .inl ⟨_, rfl, ?_⟩⟩
    walk_at "d"
    by_cases h1 : t = u
    · refine ite_d1 (by simpa using h1) ?_
      walk_at "d"
      rw [decide_eq_true h1, Bool.true_and] at hk
      exact hk
    · refine ite_d0 (by simpa using h1) ?_
      rw [decide_eq_false h1, Bool.false_and] at hk
      exact hk
  · walk_at "d"
    refine c_isi (.inr ⟨_, rfl, rfl⟩) (hd.ti m) hty ?_
    walk_at "d"
    exact hk
theorem isi_SS (T : Txt K mg) {m : Mu} {k : D → Mu → Prop} {q : Rat} (h : k (.bl true) m) : wC K (rIsi K) [shD K q, .ref (He.ga K "Share")] m k := c_isi (.inr ⟨_, rfl, rfl⟩) (.ins (.inl rfl) T.i_Share) T.kk_Share_Share h
theorem isi_TT (T : Txt K mg) {m : Mu} {k : D → Mu → Prop} {t : Lin} (h : k (.bl true) m) : wC K (rIsi K) [tmD K t, .ref (He.ga K "Term")] m k := c_isi (.inr ⟨_, rfl, rfl⟩) (.ins (.inl rfl) T.i_Term) T.kk_Term_Term h
theorem isi_RR (T : Txt K mg) {m : Mu} {k : D → Mu → Prop} {t : Lin} {b : Bool} (h : k (.bl true) m) : wC K (rIsi K) [rwD K t b, .ref (He.ga K "Row")] m k := c_isi (.inr ⟨_, rfl, rfl⟩) (.ins (.inl rfl) T.i_Row) T.kk_Row_Row h
end
end LW
end

section
set_option Elab.async false
set_option linter.all false
set_option maxRecDepth 100000
set_option maxHeartbeats 1000000
set_option exponentiation.threshold 10000
namespace LW
open PySem PySem.Spec PyProof.Rows L2 DL MA
local macro_rules | `(tactic| walk_at "d1") => `(tactic| first
  | (with_reducible refine s_seq ?_) | (with_reducible refine s_set ?_) | (with_reducible refine s_ret ?_) | (with_reducible refine s_if ?_) | (with_reducible refine s_fld ?_) | (with_reducible refine s_next ?_) | (with_reducible refine s_par ?_)
  | (with_reducible refine e_var rfl ?_) | (with_reducible refine e_int ?_) | (with_reducible refine e_bl ?_) | (with_reducible refine e_non ?_) | (with_reducible refine e_str ?_) | (with_reducible refine e_ty ?_) | (with_reducible refine e_ref ?_)
  | (with_reducible refine e_op ?_) | (with_reducible refine e_un ?_) | (with_reducible refine e_cb ?_) | (with_reducible refine e_if ?_) | (with_reducible refine e_andV ?_) | (with_reducible refine e_orV ?_) | (with_reducible refine e_notV ?_) | (with_reducible refine e_fld ?_)
  | (with_reducible refine e_call0 ?_) | (with_reducible refine e_meth0 ?_) | (with_reducible refine e_make (dds := []) nilD ?_) | (with_reducible refine e_stat0 ?_)
  | (with_reducible refine a_nil ?_) | (with_reducible refine a_cons ?_) | (with_reducible refine e_tup ?_)
  | (with_reducible refine t_test ?_) | (with_reducible refine t_B ?_) | (with_reducible refine t_and ?_) | (with_reducible refine t_or ?_) | (with_reducible refine t_not ?_)
  | (with_reducible refine ri0 ?_) | (with_reducible refine rb0 ?_) | (with_reducible refine req ?_) | (with_reducible refine rne ?_) | (with_reducible refine reqb ?_) | (with_reducible refine ui ?_)
  | (with_reducible refine c_abs ?_) | (with_reducible refine c_int1 ?_) | (with_reducible refine c_bool1 ?_)
  | (with_reducible refine Exists.intro _ (And.intro rfl ?_)))
local macro_rules | `(tactic| walk_at "d") => `(tactic| repeat (walk_at "d1"; try dsimp only [List.set, wipeD, List.map]))
local macro_rules | `(tactic| walk_at "s") => `(tactic| dsimp only [cxOf, Cx.nox, Cx.wish, startD, List.map, List.length, Nat.reduceAdd, Nat.reduceSub, List.reduceReplicate, HAppend.hAppend, Append.append, List.append])
local macro_rules | `(tactic| walk_at "d1") => `(tactic| first
  | (with_reducible refine fld_top (by assumption) ?_) | (with_reducible refine fld_bottom (by assumption) ?_)
  | (with_reducible refine isnum_num (by assumption) (by assumption) ?_) | (with_reducible refine assh_num (by assumption) ?_) | (with_reducible refine isnum_num (by assumption) (Num.sh _) ?_) | (with_reducible refine assh_num (Num.sh _) ?_) | (with_reducible refine isnum_num (by assumption) (Num.int _) ?_) | (with_reducible refine assh_num (Num.int _) ?_)
  | (with_reducible refine e_Share1 ?_) | (with_reducible refine e_Share2 ?_))
local macro_rules | `(tactic| walk_at "d1") => `(tactic| first | (with_reducible refine r_SN (by assumption) ?_) | (with_reducible refine r_SN (Num.sh _) ?_) | (with_reducible refine r_SN (Num.int _) ?_) | (with_reducible refine u_S ?_))
local macro_rules | `(tactic| walk_at "d1") => `(tactic| first
  | (with_reducible refine fld_number (by assumption) ?_) | (with_reducible refine fld_times (by assumption) ?_) | (with_reducible refine e_Term ?_)
  | (with_reducible refine e_lcU (gin_name (by decide)) ?_) | (with_reducible refine i_rng1 ?_) | (with_reducible refine i_tup ?_) | (with_reducible refine i_list ?_) | (with_reducible refine t_yes ?_) | (with_reducible refine g_name ?_)
  | (with_reducible refine unrc_r3 ?_) | (with_reducible refine unrc_r4 ?_) | (with_reducible refine unr_r3 ?_) | (with_reducible refine unr_r4 ?_) | (with_reducible refine unr_r2 ?_) | (with_reducible refine unrc_cons ?_) | (with_reducible refine unrc_nil ?_) | (with_reducible refine unr_cons ?_) | (with_reducible refine unr_nil ?_) | (with_reducible refine s_forU ?_)
  | (with_reducible refine iteT ?_) | (with_reducible refine iteF ?_) | (with_reducible refine e_chain ?_) | (with_reducible refine And.intro len3 ?_) | (with_reducible refine And.intro len4 ?_) | (with_reducible refine And.intro (by decide) ?_) | (with_reducible refine ite_d1 (by decide) ?_) | (with_reducible refine ite_d0 (by decide) ?_))
local macro_rules | `(tactic| walk_at "d1") => `(tactic| first
  | (with_reducible refine isworth (by assumption) (by assumption) ?_) | (with_reducible refine asterm (by assumption) ?_) | (with_reducible refine isworth (by assumption) (Wth.tm _) ?_) | (with_reducible refine asterm (Wth.tm _) ?_)
  | (with_reducible refine i_zipT ?_) | (with_reducible refine unrc_z3 ?_) | (with_reducible refine e_lcU (gin_tup (gsin_one (by decide) (gsin_one (by decide) gsin_nil))) ?_) | (with_reducible refine g_tup rfl ?_) | (with_reducible refine gs_cons ?_) | (with_reducible refine gs_nil ?_)
  | (with_reducible refine And.intro lenz3 ?_) | (with_reducible refine Exists.intro _ (Exists.intro _ (And.intro rfl ?_)))
  | (with_reducible refine EN.i_enumT ?_) | (with_reducible refine unr_e3 ?_) | (with_reducible refine e_methT (fun _ => rfl) ?_) | (with_reducible refine a_star ?_)
  | (with_reducible refine r_TW (by assumption) ?_) | (with_reducible refine r_TW (Wth.tm _) ?_))
local macro_rules | `(tactic| walk_at "d1") => `(tactic| first
  | (with_reducible refine a_starT ?_) | (with_reducible refine And.intro len4' ?_) | (with_reducible refine fld_term (by assumption) ?_) | (with_reducible refine fld_strict (by assumption) ?_) | (with_reducible refine e_Row ?_))
section
variable {P : Program} {w : World} {K : PySem.W.Frag} {mg : Str → Option Value} {base : Heap}
/-! ### operators of shares decline what is no number -/
def NoNum (K : PySem.W.Frag) : List D → Prop := fun ds => ∃ x d t i, ds = [x, d] ∧ Knd K d t ∧ TyA K t i false
def NI (P : Program) (w : World) (K : PySem.W.Frag) (mg : Str → Option Value) (base : Heap) (f : Addr) : Prop := ∃ fd, OW.FnNI P w K mg base 3 f fd ["self", "other"] (preOf K (NoNum K)) ∧ Binds K fd ["self", "other"] []
theorem ni_gen {mn qual : Str} {params : Arguments} {body rest : List Stmt} {scope : Scope} {kws : List (Str × V)} {f : Addr} {N : List Str} {c : Expr} {p1 p2 p3 : Pos}
    (hF : ∃ fd, FunD K mn qual params body scope [] kws f fd) (hbd : body = .If c [.Return (some (.Name "NotImplemented" p1)) p2] [] p3 :: rest) (S : FnScope N ["self", "other"] scope)
    (hg : scope.names.lookup ("NotImplemented" : Str) = some NameKind.globalImplicit) (hm : mg "NotImplemented" = none)
    (hbi : ∀ (kV doc pm : Value) (an : Option Addr) (cdv ct : Value) (us : List Value), us.length = 2 → bindArgs (PySem.W.fnOf mn qual params body scope .none kV doc pm an cdv ct) ⟨us, []⟩ = pure ((["self", "other"] : List Str).zip us))
    (hb : ∀ (cdv : Value) (A : Around) (outer : List Env) (s : Shared) (H : Hp), Room 2 (A.deeper (envOfC qual scope s.heap.objs.size f cdv)) →
      ∃ t, PT (cxOf CX0 P w K mg base N qual scope f cdv A outer s H (fun _ _ _ => False)).nox c t ∧ ∀ ds m, NoNum K ds → wT K t (startD N ds) m fun b m' => b = true ∧ m' = m) : NI P w K mg base f := by
  obtain ⟨fd, F⟩ := hF
  refine ⟨fd, OW.ni_of F hbd S hg hm (fun vs H Q h => ?_) (fun cdv A outer s H vs Q hr h => ?_), F.bindsN hbi⟩
  · obtain ⟨ds, F0, m, _, i, ⟨x, d, t, z, rfl, _⟩, _⟩ := h
    rw [← i.len]; rfl
  · obtain ⟨ds, F0, m, w0, i, hn, q⟩ := h
    obtain ⟨t, ht, hw⟩ := hb cdv A outer s H hr
    refine ⟨t, ht, hw ds m hn _ F0 H _ w0 (env_start i) fun b m' F' H' ⟨h1, h2⟩ w1 s1 => ?_⟩
    subst h2
    exact ⟨h1, q F' H' w1 s1⟩
theorem ni_Share_add (T : Txt K mg) (O : Fn P w K mg base 2 (He.ga K "is_number") ["thing"] (S_is_number K)) : NI P w K mg base (mS K "__add__") := by
  obtain ⟨⟨_, G_is_number, b_is_number⟩, k_is_number⟩ := O
  refine ni_gen T.F_Share_add rfl sc_Share_add (by decide +kernel) T.n_NotImplemented (fun _ _ _ _ _ _ us hl => match us, hl with | [_, _], _ => rfl) ?_
  intro cdv A outer s H hr
  refine ⟨_, (pt_not (pt_val (pe_call G_is_number (hr.mono (by decide)) rfl T.g_is_number k_is_number b_is_number .nil pass0 (pa_cons (pv 1) pa_nil)))), ?_⟩
  rintro ds m ⟨x, d, t, i, rfl, hd, hty⟩
  walk_at "s"
  walk_at "d"
  exact ⟨d, t, i, false, rfl, hd.ti m, hty, _, rfl, rfl, rfl⟩
theorem ni_Share_sub (T : Txt K mg) (O : Fn P w K mg base 2 (He.ga K "is_number") ["thing"] (S_is_number K)) : NI P w K mg base (mS K "__sub__") := by
  obtain ⟨⟨_, G_is_number, b_is_number⟩, k_is_number⟩ := O
  refine ni_gen T.F_Share_sub rfl sc_Share_sub (by decide +kernel) T.n_NotImplemented (fun _ _ _ _ _ _ us hl => match us, hl with | [_, _], _ => rfl) ?_
  intro cdv A outer s H hr
  refine ⟨_, (pt_not (pt_val (pe_call G_is_number (hr.mono (by decide)) rfl T.g_is_number k_is_number b_is_number .nil pass0 (pa_cons (pv 1) pa_nil)))), ?_⟩
  rintro ds m ⟨x, d, t, i, rfl, hd, hty⟩
  walk_at "s"
  walk_at "d"
  exact ⟨d, t, i, false, rfl, hd.ti m, hty, _, rfl, rfl, rfl⟩
theorem ni_Share_mul (T : Txt K mg) (O : Fn P w K mg base 2 (He.ga K "is_number") ["thing"] (S_is_number K)) : NI P w K mg base (mS K "__mul__") := by
  obtain ⟨⟨_, G_is_number, b_is_number⟩, k_is_number⟩ := O
  refine ni_gen T.F_Share_mul rfl sc_Share_mul (by decide +kernel) T.n_NotImplemented (fun _ _ _ _ _ _ us hl => match us, hl with | [_, _], _ => rfl) ?_
  intro cdv A outer s H hr
  refine ⟨_, (pt_not (pt_val (pe_call G_is_number (hr.mono (by decide)) rfl T.g_is_number k_is_number b_is_number .nil pass0 (pa_cons (pv 1) pa_nil)))), ?_⟩
  rintro ds m ⟨x, d, t, i, rfl, hd, hty⟩
  walk_at "s"
  walk_at "d"
  exact ⟨d, t, i, false, rfl, hd.ti m, hty, _, rfl, rfl, rfl⟩
theorem ni_Share_lt (T : Txt K mg) (O : Fn P w K mg base 2 (He.ga K "is_number") ["thing"] (S_is_number K)) : NI P w K mg base (mS K "__lt__") := by
  obtain ⟨⟨_, G_is_number, b_is_number⟩, k_is_number⟩ := O
  refine ni_gen T.F_Share_lt rfl sc_Share_lt (by decide +kernel) T.n_NotImplemented (fun _ _ _ _ _ _ us hl => match us, hl with | [_, _], _ => rfl) ?_
  intro cdv A outer s H hr
  refine ⟨_, (pt_not (pt_val (pe_call G_is_number (hr.mono (by decide)) rfl T.g_is_number k_is_number b_is_number .nil pass0 (pa_cons (pv 1) pa_nil)))), ?_⟩
  rintro ds m ⟨x, d, t, i, rfl, hd, hty⟩
  walk_at "s"
  walk_at "d"
  exact ⟨d, t, i, false, rfl, hd.ti m, hty, _, rfl, rfl, rfl⟩
theorem ni_Share_le (T : Txt K mg) (O : Fn P w K mg base 2 (He.ga K "is_number") ["thing"] (S_is_number K)) : NI P w K mg base (mS K "__le__") := by
  obtain ⟨⟨_, G_is_number, b_is_number⟩, k_is_number⟩ := O
  refine ni_gen T.F_Share_le rfl sc_Share_le (by decide +kernel) T.n_NotImplemented (fun _ _ _ _ _ _ us hl => match us, hl with | [_, _], _ => rfl) ?_
  intro cdv A outer s H hr
  refine ⟨_, (pt_not (pt_val (pe_call G_is_number (hr.mono (by decide)) rfl T.g_is_number k_is_number b_is_number .nil pass0 (pa_cons (pv 1) pa_nil)))), ?_⟩
  rintro ds m ⟨x, d, t, i, rfl, hd, hty⟩
  walk_at "s"
  walk_at "d"
  exact ⟨d, t, i, false, rfl, hd.ti m, hty, _, rfl, rfl, rfl⟩
theorem ni_Share_gt (T : Txt K mg) (O : Fn P w K mg base 2 (He.ga K "is_number") ["thing"] (S_is_number K)) : NI P w K mg base (mS K "__gt__") := by
  obtain ⟨⟨_, G_is_number, b_is_number⟩, k_is_number⟩ := O
  refine ni_gen T.F_Share_gt rfl sc_Share_gt (by decide +kernel) T.n_NotImplemented (fun _ _ _ _ _ _ us hl => match us, hl with | [_, _], _ => rfl) ?_
  intro cdv A outer s H hr
  refine ⟨_, (pt_not (pt_val (pe_call G_is_number (hr.mono (by decide)) rfl T.g_is_number k_is_number b_is_number .nil pass0 (pa_cons (pv 1) pa_nil)))), ?_⟩
  rintro ds m ⟨x, d, t, i, rfl, hd, hty⟩
  walk_at "s"
  walk_at "d"
  exact ⟨d, t, i, false, rfl, hd.ti m, hty, _, rfl, rfl, rfl⟩
theorem ni_Share_ge (T : Txt K mg) (O : Fn P w K mg base 2 (He.ga K "is_number") ["thing"] (S_is_number K)) : NI P w K mg base (mS K "__ge__") := by
  obtain ⟨⟨_, G_is_number, b_is_number⟩, k_is_number⟩ := O
  refine ni_gen T.F_Share_ge rfl sc_Share_ge (by decide +kernel) T.n_NotImplemented (fun _ _ _ _ _ _ us hl => match us, hl with | [_, _], _ => rfl) ?_
  intro cdv A outer s H hr
  refine ⟨_, (pt_not (pt_val (pe_call G_is_number (hr.mono (by decide)) rfl T.g_is_number k_is_number b_is_number .nil pass0 (pa_cons (pv 1) pa_nil)))), ?_⟩
  rintro ds m ⟨x, d, t, i, rfl, hd, hty⟩
  walk_at "s"
  walk_at "d"
  exact ⟨d, t, i, false, rfl, hd.ti m, hty, _, rfl, rfl, rfl⟩
/-! ### a share on the left, a term on the right -/
def rST (K : PySem.W.Frag) (S : SpD) : R2 := fun x y H Q => ∃ a dx fs b dy gs, x = .ref a ∧ y = .ref b ∧ H a = some (.ins (CS K) dx fs) ∧ H b = some (.ins (CT K) dy gs) ∧ preOf K (NoNum K) [x, y] H fun H1 => (∃ dx' fs', H1 a = some (.ins (CS K) dx' fs')) ∧ (∃ dy' gs', H1 b = some (.ins (CT K) dy' gs')) ∧ spOf K S [y, x] H1 Q E0
def rSTc (K : PySem.W.Frag) (S : SpD) : R2 := fun x y H Q => ∃ a dx fs b dy gs, x = .ref a ∧ y = .ref b ∧ H a = some (.ins (CS K) dx fs) ∧ H b = some (.ins (CT K) dy gs) ∧ preOf K (NoNum K) [x, y] H fun H1 => (∃ dy' gs', H1 b = some (.ins (CT K) dy' gs')) ∧ spOf K S [y, x] H1 Q E0
def rITg (K : PySem.W.Frag) (S : SpD) : R2 := fun x y H Q => ∃ i b dx fs, x = .int i ∧ y = .ref b ∧ H b = some (.ins (CT K) dx fs) ∧ spOf K S [y, x] H Q E0
theorem nn_tm (T : Txt K mg) (x : D) (t : Lin) : NoNum K [x, tmD K t] := ⟨_, _, _, _, rfl, .ins _ T.i_Term, tya_Term T⟩
/-- a number on the left, a term on the right: the term's reflected method -/
def rNT (K : PySem.W.Frag) (S : SpD) : R2 := fun x y H Q => rITg K S x y H Q ∨ rST K S x y H Q
def rNTc (K : PySem.W.Frag) (S : SpD) : R2 := fun x y H Q => rITg K S x y H Q ∨ rSTc K S x y H Q
theorem r_NT (T : Txt K mg) {S : SpD} {m : Mu} {k : D → Mu → Prop} {d : D} {q : Rat} {t : Lin} (hn : Num K d q) (h : S [tmD K t, d] m k) : wR K (rNT K S) d (tmD K t) m k := by
  cases hn with
  | int i => exact r_or1 (r_rint (.inl rfl) h)
  | sh q => exact r_or2 (r_rtwo rfl rfl (nn_tm T _ _) h)
theorem r_NTc (T : Txt K mg) {S : SpD} {m : Mu} {k : D → Mu → Prop} {d : D} {q : Rat} {t : Lin} (hn : Num K d q) (h : S [tmD K t, d] m k) : wR K (rNTc K S) d (tmD K t) m k := by
  cases hn with
  | int i => exact r_or1 (r_rint (.inl rfl) h)
  | sh q => exact r_or2 (r_rcmp2 rfl rfl (nn_tm T _ _) h)
/-- a worth on the left, a term on the right or the other way round -/
def rWT (K : PySem.W.Frag) (S S' : SpD) : R2 := fun x y H Q => rTW K S x y H Q ∨ rNT K S' x y H Q
def rWTc (K : PySem.W.Frag) (S S' : SpD) : R2 := fun x y H Q => rCA K (CT K) S x y H Q ∨ rNTc K S' x y H Q
theorem Wth.kd (T : Txt K mg) {d : D} {u : Lin} (h : Wth K d u) : ∃ t, Knd K d t ∧ PySem.W.notFirst K (CT K) t = true := by
  cases h with
  | tm u => exact ⟨_, .ins _ T.i_Term, notFirst_self _ _⟩
  | num h =>
    cases h with
    | int i => exact ⟨_, .int i, notFirst_int _ _⟩
    | sh q => exact ⟨_, .ins _ T.i_Share, nf_su T.su_Share_Term⟩
theorem r_CAw (T : Txt K mg) {S : SpD} {m : Mu} {k : D → Mu → Prop} {d : D} {t u : Lin} (hn : Wth K d u) (h : S [tmD K t, d] m k) : wR K (rCA K (CT K) S) (tmD K t) d m k := by
  obtain ⟨ty, h1, h2⟩ := hn.kd T
  exact r_CA h1 h2 h
section
variable {X : Cx} {K' : PySem.W.Frag} {mg' : Str → Option Value} {S S' : SpD} {n n' : Nat} {fd fd' : FuncData} {ps ps' : List Str}
theorem oNTg {op : Operator} {idl : String} {bi : Builtin} {f0 f1 f : Addr} {rc1 : Option Value} (T : Txt K' mg') (IO : OW.IntOp op idl bi) (O1 : OW.OpC K' (CS K') op.info.2 f1 rc1) (O2 : OW.OpC K' (CT K') op.info.2 f0 (some (.ref f))) (hf : PySem.W.isFn K' (.ref f) = true) (N : NI X.prog X.w X.K X.mg X.base f1)
    (G : FnOk X.prog X.w X.K X.mg X.base CX0 n f fd ps (spOf K' S)) (hr3 : Room 3 X.A) (hr : Room n X.A) (b : Binds X.K fd ps []) (hK : X.K = K' := by rfl) : OpR X (binaryOp op) (rNT K' S) := by
  subst hK
  obtain ⟨fd1, N1, b1⟩ := N
  exact op_or (OW.op_rint IO O2 rfl hf T.su_Term_int G hr b pass0) (OW.op_rtwo O1 O2 rfl hf T.ne_Share_Term T.su_Term_Share N1 hr3 b1 G hr b pass0)
theorem oNTAdd (T : Txt K' mg') (N : NI X.prog X.w X.K X.mg X.base (mS K' "__add__")) (G : FnOk X.prog X.w X.K X.mg X.base CX0 n (mT K' "__radd__") fd ps (spOf K' S)) (hr3 : Room 3 X.A) (hr : Room n X.A) (b : Binds X.K fd ps []) (hK : X.K = K' := by rfl) : OpR X (binaryOp .Add) (rNT K' S) := oNTg T OW.int_add (opc_add T) (opcT_add T) T.m_Term_radd.fn N G hr3 hr b hK
theorem oNTSub (T : Txt K' mg') (N : NI X.prog X.w X.K X.mg X.base (mS K' "__sub__")) (G : FnOk X.prog X.w X.K X.mg X.base CX0 n (mT K' "__rsub__") fd ps (spOf K' S)) (hr3 : Room 3 X.A) (hr : Room n X.A) (b : Binds X.K fd ps []) (hK : X.K = K' := by rfl) : OpR X (binaryOp .Sub) (rNT K' S) := oNTg T OW.int_sub (opc_sub T) (opcT_sub T) T.m_Term_rsub.fn N G hr3 hr b hK
theorem oNTMul (T : Txt K' mg') (N : NI X.prog X.w X.K X.mg X.base (mS K' "__mul__")) (G : FnOk X.prog X.w X.K X.mg X.base CX0 n (mT K' "__rmul__") fd ps (spOf K' S)) (hr3 : Room 3 X.A) (hr : Room n X.A) (b : Binds X.K fd ps []) (hK : X.K = K' := by rfl) : OpR X (binaryOp .Mult) (rNT K' S) := oNTg T OW.int_mul (opc_mul T) (opcT_mul T) T.m_Term_rmul.fn N G hr3 hr b hK
theorem oNTc {op : CmpOp} {idl : String} {bi : Builtin} {m1 m2 : Str} {f1 f : Addr} (T : Txt K' mg') (IC : OW.IntCmp op idl bi) (hop : ∀ a b, compareOp op a b = richCompare op a b) (hone : ∀ i t a, oneThing? op (.int i t) (.ref a) = none) (e1 : (cmpInfo op).2.1 = m1) (e2 : (cmpInfo op).2.2 = m2) (M1 : Meth K' (CS K') m1 f1) (M2 : Meth K' (CT K') m2 f) (N : NI X.prog X.w X.K X.mg X.base f1)
    (G : FnOk X.prog X.w X.K X.mg X.base CX0 n f fd ps (spOf K' S)) (hr3 : Room 3 X.A) (hr : Room n X.A) (b : Binds X.K fd ps []) (hK : X.K = K' := by rfl) : OpR X (compareOp op) (rNTc K' S) := by
  subst hK e1 e2
  obtain ⟨fd1, N1, b1⟩ := N
  exact op_or (OW.op_rcmp IC hop hone M2.at_ M2.fn T.su_Term_int G hr b pass0) (OW.op_rcmp2 hop M1.at_ M1.fn M2.at_ M2.fn T.ne_Share_Term T.su_Term_Share N1 hr3 b1 G hr b pass0)
theorem oLtW (T : Txt K' mg') (N : NI X.prog X.w X.K X.mg X.base (mS K' "__lt__")) (G : FnOk X.prog X.w X.K X.mg X.base CX0 n (mT K' "__lt__") fd ps (spOf K' S)) (G' : FnOk X.prog X.w X.K X.mg X.base CX0 n' (mT K' "__gt__") fd' ps' (spOf K' S')) (hr3 : Room 3 X.A) (hr : Room n X.A) (hr' : Room n' X.A) (b : Binds X.K fd ps []) (b' : Binds X.K fd' ps' []) (hK : X.K = K' := by rfl) : OpR X (compareOp .Lt) (rWTc K' S S') :=
  op_or (oCmpA (op := .Lt) (fun _ _ => rfl) rfl T.m_Term_lt G hr b hK) (oNTc T OW.int_lt (fun _ _ => rfl) (fun _ _ _ => rfl) rfl rfl T.m_Share_lt T.m_Term_gt N G' hr3 hr' b' hK)
theorem oLeW (T : Txt K' mg') (N : NI X.prog X.w X.K X.mg X.base (mS K' "__le__")) (G : FnOk X.prog X.w X.K X.mg X.base CX0 n (mT K' "__le__") fd ps (spOf K' S)) (G' : FnOk X.prog X.w X.K X.mg X.base CX0 n' (mT K' "__ge__") fd' ps' (spOf K' S')) (hr3 : Room 3 X.A) (hr : Room n X.A) (hr' : Room n' X.A) (b : Binds X.K fd ps []) (b' : Binds X.K fd' ps' []) (hK : X.K = K' := by rfl) : OpR X (compareOp .LtE) (rWTc K' S S') :=
  op_or (oCmpA (op := .LtE) (fun _ _ => rfl) rfl T.m_Term_le G hr b hK) (oNTc T OW.int_le (fun _ _ => rfl) (fun _ _ _ => rfl) rfl rfl T.m_Share_le T.m_Term_ge N G' hr3 hr' b' hK)
theorem oGtW (T : Txt K' mg') (N : NI X.prog X.w X.K X.mg X.base (mS K' "__gt__")) (G : FnOk X.prog X.w X.K X.mg X.base CX0 n (mT K' "__gt__") fd ps (spOf K' S)) (G' : FnOk X.prog X.w X.K X.mg X.base CX0 n' (mT K' "__lt__") fd' ps' (spOf K' S')) (hr3 : Room 3 X.A) (hr : Room n X.A) (hr' : Room n' X.A) (b : Binds X.K fd ps []) (b' : Binds X.K fd' ps' []) (hK : X.K = K' := by rfl) : OpR X (compareOp .Gt) (rWTc K' S S') :=
  op_or (oCmpA (op := .Gt) (fun _ _ => rfl) rfl T.m_Term_gt G hr b hK) (oNTc T OW.int_gt (fun _ _ => rfl) (fun _ _ _ => rfl) rfl rfl T.m_Share_gt T.m_Term_lt N G' hr3 hr' b' hK)
theorem oGeW (T : Txt K' mg') (N : NI X.prog X.w X.K X.mg X.base (mS K' "__ge__")) (G : FnOk X.prog X.w X.K X.mg X.base CX0 n (mT K' "__ge__") fd ps (spOf K' S)) (G' : FnOk X.prog X.w X.K X.mg X.base CX0 n' (mT K' "__le__") fd' ps' (spOf K' S')) (hr3 : Room 3 X.A) (hr : Room n X.A) (hr' : Room n' X.A) (b : Binds X.K fd ps []) (b' : Binds X.K fd' ps' []) (hK : X.K = K' := by rfl) : OpR X (compareOp .GtE) (rWTc K' S S') :=
  op_or (oCmpA (op := .GtE) (fun _ _ => rfl) rfl T.m_Term_ge G hr b hK) (oNTc T OW.int_ge (fun _ _ => rfl) (fun _ _ _ => rfl) rfl rfl T.m_Share_ge T.m_Term_le N G' hr3 hr' b' hK)
end
end
end LW
end

section
set_option Elab.async false
set_option linter.all false
set_option maxRecDepth 100000
set_option maxHeartbeats 1000000
namespace LW
open PySem PySem.Spec PyProof.Rows L2 DL MA
/-! ### what stands in a tree -/
inductive At where
  | int (i : Int) | bl (b : Bool) | st (s : Str) | no | sh (q : Rat) | tm (t : Lin) | rw (t : Lin) (b : Bool)
def eqA : At → At → Bool
  | .int i, .int j => decide (i = j)
  | .int i, .bl b => decide (i = if b then 1 else 0)
  | .bl b, .int i => decide ((if b then 1 else 0) = i)
  | .bl a, .bl b => decide (a = b)
  | .st a, .st b => decide (a = b)
  | .no, .no => true
  | .sh q, .sh p => decide (q = p)
  | .sh q, .int i => decide (q = (i : Rat))
  | .int i, .sh q => decide (q = (i : Rat))
  | .tm t, .tm u => decide (t = u)
  | .rw t b, .rw u c => decide (t = u) && decide (b = c)
  | _, _ => false
theorem eqA_self : ∀ a, eqA a a = true := fun a => by cases a <;> simp [eqA]
section
variable {K : PySem.W.Frag} {mg : Str → Option Value}
def atD (K : PySem.W.Frag) : At → D
  | .int i => .int i
  | .bl b => .bl b
  | .st s => .str s
  | .no => .non
  | .sh q => shD K q
  | .tm t => tmD K t
  | .rw t b => rwD K t b
def cls : At → Nat
  | .sh _ => 1
  | .tm _ => 2
  | .rw _ _ => 3
  | _ => 0
def atR (K : PySem.W.Frag) : EqR := fun x y r => ∃ a b, x = atD K a ∧ y = atD K b ∧ r = eqA a b
theorem nor_at (a : At) : nor (atD K a) = true := by cases a <;> rfl
theorem sh_inj {q p : Rat} (h : shD K q = shD K p) : q = p := by
  injection h with _ h
  simp only [shF, List.cons.injEq, Prod.mk.injEq, D.int.injEq, true_and, and_true] at h
  exact Rat.ext h.1 (by omega)
theorem tm_inj {t u : Lin} (h : tmD K t = tmD K u) : t = u := by
  injection h with _ h
  simp only [List.cons.injEq, Prod.mk.injEq, true_and, and_true, D.tup.injEq] at h
  obtain ⟨h1, h2, h3, h4⟩ := h
  exact (lin_eq t u).mpr ⟨sh_inj h1, sh_inj h2, sh_inj h3, sh_inj h4⟩
theorem at_rf {a b : At} (hn : He.ga K "Share" ≠ He.ga K "Term" ∧ He.ga K "Share" ≠ He.ga K "Row" ∧ He.ga K "Term" ≠ He.ga K "Row") (h : atD K a = atD K b) : eqA a b = true := by
  cases a <;> cases b <;> first
    | rfl
    | (simp only [atD, D.int.injEq, D.bl.injEq, D.str.injEq] at h; subst h; simp [eqA]; done)
    | (have := sh_inj h; subst this; simp [eqA]; done)
    | (have := tm_inj h; subst this; simp [eqA]; done)
    | (simp [atD] at h; done)
    | (injection h with h1 h2; first | exact absurd h1 hn.1 | exact absurd h1 hn.2.1 | exact absurd h1 hn.2.2 | exact absurd h1.symm hn.1 | exact absurd h1.symm hn.2.1 | exact absurd h1.symm hn.2.2)
    | (injection h with _ h
       simp only [List.cons.injEq, Prod.mk.injEq, true_and, and_true, D.bl.injEq] at h
       have := tm_inj h.1; subst this; simp [eqA, h.2])
theorem okR_at (T : Txt K mg) : OkR (atR K) := ⟨fun x y r ⟨a, b, h1, h2, _⟩ => by rw [h1, h2]; exact ⟨nor_at a, nor_at b⟩, fun x r ⟨a, b, h1, h2, h3⟩ => by
  rw [h3]
  exact at_rf ⟨T.ne_Share_Term, T.ne_Share_Row, T.ne_Term_Row⟩ (h1.symm.trans h2)⟩
/-- the kind of an atom -/
def tyV (K : PySem.W.Frag) : At → Value
  | .int _ => .type "int"
  | .bl _ => .type "bool"
  | .st _ => .type "str"
  | .no => .type "NoneType"
  | .sh _ => .ref (CS K)
  | .tm _ => .ref (CT K)
  | .rw _ _ => .ref (CR K)
theorem kn_at (T : Txt K mg) (a : At) : Knd K (atD K a) (tyV K a) := by
  cases a with
  | int i => exact .int i
  | bl b => exact .bl b
  | st s => exact .str s
  | no => exact .non
  | sh q => exact .ins _ T.i_Share
  | tm t => exact .ins _ T.i_Term
  | rw t b => exact .ins _ T.i_Row
theorem nfS (T : Txt K mg) (a : At) : PySem.W.notFirst K (CS K) (tyV K a) = true := by
  cases a with
  | sh q => exact notFirst_self _ _
  | tm t => exact nf_su T.su_Term_Share
  | rw t b => exact nf_su T.su_Row_Share
  | _ => rfl
theorem nfT (T : Txt K mg) (a : At) : PySem.W.notFirst K (CT K) (tyV K a) = true := by
  cases a with
  | sh q => exact nf_su T.su_Share_Term
  | tm t => exact notFirst_self _ _
  | rw t b => exact nf_su T.su_Row_Term
  | _ => rfl
theorem nfR (T : Txt K mg) (a : At) : PySem.W.notFirst K (CR K) (tyV K a) = true := by
  cases a with
  | sh q => exact nf_su T.su_Share_Row
  | tm t => exact nf_su T.su_Term_Row
  | rw t b => exact notFirst_self _ _
  | _ => rfl
theorem tya_Row' (T : Txt K mg) : TyA K (.ref (CR K)) false false := ⟨⟨false, false, T.kb_Row_int, T.kb_Row_bool, rfl⟩, ⟨false, T.kk_Row_Share, rfl⟩⟩
/-- what the own == tells of atoms -/
def clR (K : PySem.W.Frag) (c : Nat) : EqR := fun x y r => ∃ a b, x = atD K a ∧ y = atD K b ∧ r = eqA a b ∧ cls a = c
theorem spS (T : Txt K mg) {vs : List V} {H : Hp} {Q : VK} {E : XK} (h : spB K (clR K 1) vs H Q E) : spOf K (S_Seq K) vs H Q E := by
  refine sp_B (fun x y r k ⟨a, b, h1, h2, h3, h4⟩ hk => ?_) h
  subst h1 h2 h3
  obtain ⟨q, rfl⟩ : ∃ q, a = .sh q := by cases a <;> first | exact ⟨_, rfl⟩ | (simp [cls] at h4)
  refine ⟨q, _, rfl, ?_⟩
  cases b with
  | int i => exact .inl ⟨_, .int i, hk⟩
  | sh p => exact .inl ⟨p, .sh p, hk⟩
  | bl b => exact .inr ⟨_, _, .bl b, tya_bool T, hk⟩
  | st s => exact .inr ⟨_, _, .str s, tya_str T, hk⟩
  | no => exact .inr ⟨_, _, .non, tya_none T, hk⟩
  | tm t => exact .inr ⟨_, _, .ins _ T.i_Term, tya_Term T, hk⟩
  | rw t b => exact .inr ⟨_, _, .ins _ T.i_Row, tya_Row' T, hk⟩
theorem spT (T : Txt K mg) {vs : List V} {H : Hp} {Q : VK} {E : XK} (h : spB K (clR K 2) vs H Q E) : spOf K (S_Teq K) vs H Q E := by
  refine sp_B (fun x y r k ⟨a, b, h1, h2, h3, h4⟩ hk => ?_) h
  subst h1 h2 h3
  obtain ⟨t, rfl⟩ : ∃ t, a = .tm t := by cases a <;> first | exact ⟨_, rfl⟩ | (simp [cls] at h4)
  refine ⟨t, _, rfl, ?_⟩
  cases b with
  | tm u => exact .inl ⟨u, rfl, hk⟩
  | int i => exact .inr ⟨_, .int i, T.kt_int_Term, hk⟩
  | sh p => exact .inr ⟨_, .ins _ T.i_Share, T.kk_Share_Term, hk⟩
  | bl b => exact .inr ⟨_, .bl b, T.kt_bool_Term, hk⟩
  | st s => exact .inr ⟨_, .str s, T.kt_str_Term, hk⟩
  | no => exact .inr ⟨_, .non, T.kt_NoneType_Term, hk⟩
  | rw t b => exact .inr ⟨_, .ins _ T.i_Row, T.kk_Row_Term, hk⟩
theorem spR (T : Txt K mg) {vs : List V} {H : Hp} {Q : VK} {E : XK} (h : spB K (clR K 3) vs H Q E) : spOf K (S_Req K) vs H Q E := by
  refine sp_B (fun x y r k ⟨a, b, h1, h2, h3, h4⟩ hk => ?_) h
  subst h1 h2 h3
  obtain ⟨t, c, rfl⟩ : ∃ t c, a = .rw t c := by cases a <;> first | exact ⟨_, _, rfl⟩ | (simp [cls] at h4)
  refine ⟨t, c, _, rfl, ?_⟩
  cases b with
  | rw u d => exact .inl ⟨u, d, rfl, hk⟩
  | tm u => exact .inr ⟨_, .ins _ T.i_Term, T.kk_Term_Row, hk⟩
  | int i => exact .inr ⟨_, .int i, T.kt_int_Row, hk⟩
  | sh p => exact .inr ⟨_, .ins _ T.i_Share, T.kk_Share_Row, hk⟩
  | bl b => exact .inr ⟨_, .bl b, T.kt_bool_Row, hk⟩
  | st s => exact .inr ⟨_, .str s, T.kt_str_Row, hk⟩
  | no => exact .inr ⟨_, .non, T.kt_NoneType_Row, hk⟩
theorem sub_of {C : Addr} (h1 : PySem.W.subIn K (.ref C) (.type "int") = some false) (h2 : PySem.W.subIn K (.ref C) (.type "bool") = some false) (h3 : PySem.W.subIn K (.ref C) (.type "NoneType") = some false) (h4 : PySem.W.subIn K (.ref C) (.type "str") = some false) (h5 : PySem.W.subIn K (.ref C) (.type "list") = some false) (h6 : PySem.W.subIn K (.ref C) (.type "tuple") = some false) (h7 : PySem.W.subIn K (.ref C) (.type "dict") = some false) :
    ∀ t ∈ ["int", "bool", "NoneType", "str", "list", "tuple", "dict"], PySem.W.subIn K (.ref C) (.type t) = some false := by
  intro t ht
  simp only [List.mem_cons, List.not_mem_nil, or_false] at ht
  rcases ht with rfl | rfl | rfl | rfl | rfl | rfl | rfl <;> assumption
theorem bld_at {a : At} (h : cls a = 0) : ∃ t, BLD (atD K a) t := by
  cases a with
  | int i => exact ⟨_, .int i⟩
  | bl b => exact ⟨_, .bl b⟩
  | st s => exact ⟨_, .str s⟩
  | no => exact ⟨_, .non⟩
  | _ => simp [cls] at h
theorem sc_at {a : At} (h : cls a = 0) : ∃ u, sc (atD K a) = some u := by
  cases a <;> first | exact ⟨_, rfl⟩ | (simp [cls] at h)
theorem ins_at {a : At} (h : cls a ≠ 0) : ∃ C fs, atD K a = .ins C fs := by
  cases a <;> first | exact ⟨_, _, rfl⟩ | (simp [cls] at h)
theorem eqA_comm0 {a b : At} (ha : cls a = 0) (hb : cls b ≠ 0) : eqA a b = eqA b a := by
  cases a <;> simp [cls] at ha <;> cases b <;> simp [cls] at hb <;> rfl
theorem flR_at {a b : At} (ha : cls a = 0) (hb : cls b = 0) : flR (atD K a) (atD K b) (eqA a b) := by
  cases a <;> simp [cls] at ha <;> cases b <;> simp [cls] at hb <;> exact ⟨_, _, rfl, rfl, by first | rfl | simp [eqA, eqV, Bool.beq_eq_decide_eq] | (simp only [eqA, eqV]; rfl)⟩
section
variable {X : Cx} {K' : PySem.W.Frag} {mg' : Str → Option Value} {fd fd2 fd3 : FuncData} {ps ps2 ps3 : List Str}
theorem eqB_cl {c n : Nat} {C f : Addr} {fd : FuncData} {ps : List Str} (T : Txt X.K mg') (G : FnOk X.prog X.w X.K X.mg X.base CX0 n f fd ps (spB X.K (clR X.K c))) (hc : ∀ a, cls a = c → ∃ fs, atD X.K a = .ins C fs) (hc0 : c ≠ 0) (hn : ∀ b, PySem.W.notFirst X.K C (tyV X.K b) = true)
    (hs : PySem.W.findIn X.K (.ref C) "__eq__" = some (some (.ref f))) (hf : PySem.W.isFn X.K (.ref f) = true) (hsub : ∀ t ∈ ["int", "bool", "NoneType", "str", "list", "tuple", "dict"], PySem.W.subIn X.K (.ref C) (.type t) = some false) (hb : Binds X.K fd ps []) :
    EqB X n (fun x y r => ∃ a b, x = atD X.K a ∧ y = atD X.K b ∧ r = eqA a b ∧ (cls a = c ∨ cls a = 0 ∧ cls b = c)) := by
  have R1 : RcB X n (clR X.K c) := rcB_ins (E := E0) (C := C) G (fun x y r ⟨a, b, h1, h2, _, h4⟩ => by
    subst h1 h2
    exact ⟨hc a h4, _, (kn_at T b).tda, hn b⟩) hs hf hb pass0
  have R2 : RcB X n (refR C (clR X.K c)) := rcB_ref (E := E0) G hs hf hsub hb pass0
  have o := okR_at T
  have E1 : EqB X n (fun x y r => ∃ a b, x = atD X.K a ∧ y = atD X.K b ∧ r = eqA a b ∧ cls a = c ∧ cls b ≠ 0) := by
    refine RcB.eqB ⟨fun x y r ⟨a, b, h1, h2, h3, _⟩ => o.nr x y r ⟨a, b, h1, h2, h3⟩, fun x r ⟨a, b, h1, h2, h3, _⟩ => o.rf x r ⟨a, b, h1, h2, h3⟩⟩ (fun A pins s σ H x y u v r sb I rx ry d => ?_) ?_
    · obtain ⟨dx, dy, F, sm, ix, iy, a, b, h1, h2, h3, h4, h5⟩ := d
      exact R1 A pins s σ H x y u v r sb I rx ry ⟨dx, dy, F, sm, ix, iy, a, b, h1, h2, h3, h4⟩
    · rintro x y r ⟨a, b, rfl, rfl, _, h4, h5⟩
      obtain ⟨fs, e⟩ := hc a h4
      obtain ⟨C2, gs, e2⟩ := ins_at (K := X.K) h5
      rw [e, e2]
      exact ⟨fun K F v => ref_ins, fun K F v => ref_ins⟩
  have E2 : EqB X n (fun x y r => ∃ a b, x = atD X.K a ∧ y = atD X.K b ∧ r = eqA a b ∧ cls a = c ∧ cls b = 0) := by
    refine RcB.eqM (fun A pins s σ H x y u v r sb I rx ry d => ?_) ?_
    · obtain ⟨dx, dy, F, sm, ix, iy, a, b, h1, h2, h3, h4, h5⟩ := d
      exact R1 A pins s σ H x y u v r sb I rx ry ⟨dx, dy, F, sm, ix, iy, a, b, h1, h2, h3, h4⟩
    · rintro x y r ⟨a, b, rfl, rfl, _, h4, h5⟩
      obtain ⟨fs, e⟩ := hc a h4
      exact .inr ⟨⟨_, _, e⟩, sc_at h5⟩
  have E3 : EqB X n (fun x y r => ∃ a b, x = atD X.K a ∧ y = atD X.K b ∧ r = eqA a b ∧ cls a = 0 ∧ cls b = c) := by
    refine RcB.eqM (fun A pins s σ H x y u v r sb I rx ry d => ?_) ?_
    · obtain ⟨dx, dy, F, sm, ix, iy, a, b, h1, h2, h3, h4, h5⟩ := d
      subst h1 h2
      exact R2 A pins s σ H x y u v r sb I rx ry ⟨_, _, F, sm, ix, iy, bld_at h4, hc b h5, b, a, rfl, rfl, by rw [h3]; exact eqA_comm0 h4 (by omega), h5⟩
    · rintro x y r ⟨a, b, rfl, rfl, _, h4, h5⟩
      obtain ⟨fs, e⟩ := hc b h5
      exact .inl ⟨sc_at h4, ⟨_, _, e⟩⟩
  intro A pins s σ H x y u v r sb I rx ry d
  obtain ⟨dx, dy, F, sm, ix, iy, a, b, h1, h2, h3, h4⟩ := d
  rcases h4 with h4 | ⟨h4, h5⟩
  · by_cases h5 : cls b = 0
    · exact E2 A pins s σ H x y u v r sb I rx ry ⟨dx, dy, F, sm, ix, iy, a, b, h1, h2, h3, h4, h5⟩
    · exact E1 A pins s σ H x y u v r sb I rx ry ⟨dx, dy, F, sm, ix, iy, a, b, h1, h2, h3, h4, h5⟩
  · exact E3 A pins s σ H x y u v r sb I rx ry ⟨dx, dy, F, sm, ix, iy, a, b, h1, h2, h3, h4, h5⟩
/-- == of atoms -/
theorem eqB_at (T : Txt K' mg') (Gs : FnOk X.prog X.w X.K X.mg X.base CX0 5 (mS K' "__eq__") fd ps (spOf K' (S_Seq K'))) (bs : Binds X.K fd ps []) (Gt : FnOk X.prog X.w X.K X.mg X.base CX0 7 (mT K' "__eq__") fd2 ps2 (spOf K' (S_Teq K'))) (bt : Binds X.K fd2 ps2 []) (Gr : FnOk X.prog X.w X.K X.mg X.base CX0 8 (mR K' "__eq__") fd3 ps3 (spOf K' (S_Req K'))) (br : Binds X.K fd3 ps3 []) (hK : X.K = K' := by rfl) : EqB X 8 (atR K') := by
  subst hK
  have eS := eqB_cl (c := 1) (C := CS X.K) T (Gs.imp fun _ _ _ _ h => spS T h) (fun a h => by cases a <;> first | exact ⟨_, rfl⟩ | (simp [cls] at h)) (by decide) (nfS T) T.m_Share_eq.at_ T.m_Share_eq.fn (sub_of T.su_Share_int T.su_Share_bool T.su_Share_NoneType T.su_Share_str T.su_Share_list T.su_Share_tuple T.su_Share_dict) bs
  have eT := eqB_cl (c := 2) (C := CT X.K) T (Gt.imp fun _ _ _ _ h => spT T h) (fun a h => by cases a <;> first | exact ⟨_, rfl⟩ | (simp [cls] at h)) (by decide) (nfT T) T.m_Term_eq.at_ T.m_Term_eq.fn (sub_of T.su_Term_int T.su_Term_bool T.su_Term_NoneType T.su_Term_str T.su_Term_list T.su_Term_tuple T.su_Term_dict) bt
  have eR := eqB_cl (c := 3) (C := CR X.K) T (Gr.imp fun _ _ _ _ h => spR T h) (fun a h => by cases a <;> first | exact ⟨_, rfl⟩ | (simp [cls] at h)) (by decide) (nfR T) T.m_Row_eq.at_ T.m_Row_eq.fn (sub_of T.su_Row_int T.su_Row_bool T.su_Row_NoneType T.su_Row_str T.su_Row_list T.su_Row_tuple T.su_Row_dict) br
  have eF := eqB_fl (X := X)
  intro A pins s σ H x y u v r sb I rx ry d
  obtain ⟨dx, dy, F, sm, ix, iy, a, b, h1, h2, h3⟩ := d
  have c4 : cls a = 0 ∨ cls a = 1 ∨ cls a = 2 ∨ cls a = 3 := by cases a <;> simp [cls]
  have d4 : cls b = 0 ∨ cls b = 1 ∨ cls b = 2 ∨ cls b = 3 := by cases b <;> simp [cls]
  rcases c4 with h | h | h | h
  · rcases d4 with g | g | g | g
    · subst h1 h2
      exact eF.mono (by decide) A pins s σ H x y u v r sb I rx ry ⟨_, _, F, sm, ix, iy, by rw [h3]; exact flR_at h g⟩
    · exact eS.mono (by decide) A pins s σ H x y u v r sb I rx ry ⟨dx, dy, F, sm, ix, iy, a, b, h1, h2, h3, .inr ⟨h, g⟩⟩
    · exact eT.mono (by decide) A pins s σ H x y u v r sb I rx ry ⟨dx, dy, F, sm, ix, iy, a, b, h1, h2, h3, .inr ⟨h, g⟩⟩
    · exact eR.mono (by decide) A pins s σ H x y u v r sb I rx ry ⟨dx, dy, F, sm, ix, iy, a, b, h1, h2, h3, .inr ⟨h, g⟩⟩
  · exact eS.mono (by decide) A pins s σ H x y u v r sb I rx ry ⟨dx, dy, F, sm, ix, iy, a, b, h1, h2, h3, .inl h⟩
  · exact eT.mono (by decide) A pins s σ H x y u v r sb I rx ry ⟨dx, dy, F, sm, ix, iy, a, b, h1, h2, h3, .inl h⟩
  · exact eR.mono (by decide) A pins s σ H x y u v r sb I rx ry ⟨dx, dy, F, sm, ix, iy, a, b, h1, h2, h3, .inl h⟩
end
end
end LW
end

section
set_option Elab.async false
set_option linter.all false
set_option maxRecDepth 100000
set_option maxHeartbeats 1000000
namespace LW
open PySem PySem.Spec PyProof.Rows L2 DL MA
section
variable {X : Cx} {K' : PySem.W.Frag} {mg' : Str → Option Value} {fd fd2 fd3 : FuncData} {ps ps2 ps3 : List Str}
theorem rcB_fl : RcB X 0 flR := by
  intro A pins s σ H x y u v r sb I rx ry d
  obtain ⟨dx, dy, F, sm, ix, iy, a, b, h1, h2, rfl⟩ := d
  obtain rfl := sc_is h1 ix
  obtain rfl := sc_is h2 iy
  have hx := sc_flat h1
  have hy := sc_flat h2
  have fin : ∀ {b : Bool}, SeqAt.RcAt A s u v b → b = eqV x y → wpAny (model X.prog X.w) A (richCompare .Eq u v) (fun r' s' => r' = .bool (eqV x y) ∧ LoopI X pins σ H s') X.xe s := fun {b} h e => h X.prog X.w X.xe _ ⟨by rw [e], H, I, Ext.rfl'⟩
  cases x <;> simp [flatV] at hx <;> cases y <;> simp [flatV] at hy
  · obtain rfl := rx; obtain rfl := ry; exact fin SeqAt.RcAt.none_none rfl
  · obtain rfl := rx; obtain rfl := ry; exact fin (SeqAt.RcAt.none_bool _) rfl
  · obtain rfl := rx; obtain ⟨_, rfl⟩ := ry; exact fin (SeqAt.RcAt.none_int _ _) rfl
  · obtain rfl := rx; obtain ⟨_, rfl⟩ := ry; exact fin (SeqAt.RcAt.none_str _ _) rfl
  · obtain rfl := rx; obtain rfl := ry; exact fin (SeqAt.RcAt.bool_none _) rfl
  · obtain rfl := rx; obtain rfl := ry; exact fin (SeqAt.RcAt.bool_bool _ _) rfl
  · obtain rfl := rx; obtain ⟨_, rfl⟩ := ry; exact fin (SeqAt.RcAt.bool_int _ _ _) rfl
  · obtain rfl := rx; obtain ⟨_, rfl⟩ := ry; exact fin (SeqAt.RcAt.bool_str _ _ _) rfl
  · obtain ⟨_, rfl⟩ := rx; obtain rfl := ry; exact fin (SeqAt.RcAt.int_none _ _) rfl
  · obtain ⟨_, rfl⟩ := rx; obtain rfl := ry; exact fin (SeqAt.RcAt.int_bool _ _ _) rfl
  · obtain ⟨_, rfl⟩ := rx; obtain ⟨_, rfl⟩ := ry; exact fin (SeqAt.RcAt.int_int _ _ _ _) rfl
  · obtain ⟨_, rfl⟩ := rx; obtain ⟨_, rfl⟩ := ry; exact fin (SeqAt.RcAt.int_str _ _ _ _) rfl
  · obtain ⟨_, rfl⟩ := rx; obtain rfl := ry; exact fin (SeqAt.RcAt.str_none _ _) rfl
  · obtain ⟨_, rfl⟩ := rx; obtain rfl := ry; exact fin (SeqAt.RcAt.str_bool _ _ _) rfl
  · obtain ⟨_, rfl⟩ := rx; obtain ⟨_, rfl⟩ := ry; exact fin (SeqAt.RcAt.str_int _ _ _ _) rfl
  · obtain ⟨_, rfl⟩ := rx; obtain ⟨_, rfl⟩ := ry; exact fin (SeqAt.RcAt.str_str _ _ _ _) rfl
theorem rcB_cl {c n : Nat} {C f : Addr} {fd : FuncData} {ps : List Str} (T : Txt X.K mg') (G : FnOk X.prog X.w X.K X.mg X.base CX0 n f fd ps (spB X.K (clR X.K c))) (hc : ∀ a, cls a = c → ∃ fs, atD X.K a = .ins C fs) (hc0 : c ≠ 0) (hn : ∀ b, PySem.W.notFirst X.K C (tyV X.K b) = true)
    (hs : PySem.W.findIn X.K (.ref C) "__eq__" = some (some (.ref f))) (hf : PySem.W.isFn X.K (.ref f) = true) (hsub : ∀ t ∈ ["int", "bool", "NoneType", "str", "list", "tuple", "dict"], PySem.W.subIn X.K (.ref C) (.type t) = some false) (hb : Binds X.K fd ps []) :
    RcB X n (fun x y r => ∃ a b, x = atD X.K a ∧ y = atD X.K b ∧ r = eqA a b ∧ (cls a = c ∨ cls a = 0 ∧ cls b = c)) := by
  intro A pins s σ H x y u v r sb I rx ry d
  obtain ⟨dx, dy, F, sm, ix, iy, a, b, h1, h2, h3, h4⟩ := d
  rcases h4 with h4 | ⟨h4, h5⟩
  · refine rcB_ins (R := clR X.K c) (E := E0) (C := C) G (fun x y r ⟨a, b, h1, h2, _, h4⟩ => ?_) hs hf hb pass0 A pins s σ H x y u v r sb I rx ry ⟨dx, dy, F, sm, ix, iy, a, b, h1, h2, h3, h4⟩
    subst h1 h2
    exact ⟨hc a h4, _, (kn_at T b).tda, hn b⟩
  · subst h1 h2
    exact rcB_ref (E := E0) G hs hf hsub hb pass0 A pins s σ H x y u v r sb I rx ry ⟨_, _, F, sm, ix, iy, bld_at h4, hc b h5, b, a, rfl, rfl, by rw [h3]; exact eqA_comm0 h4 (by omega), h5⟩
/-- == of atoms, as an expression -/
theorem rcB_at (T : Txt K' mg') (Gs : FnOk X.prog X.w X.K X.mg X.base CX0 5 (mS K' "__eq__") fd ps (spOf K' (S_Seq K'))) (bs : Binds X.K fd ps []) (Gt : FnOk X.prog X.w X.K X.mg X.base CX0 7 (mT K' "__eq__") fd2 ps2 (spOf K' (S_Teq K'))) (bt : Binds X.K fd2 ps2 []) (Gr : FnOk X.prog X.w X.K X.mg X.base CX0 8 (mR K' "__eq__") fd3 ps3 (spOf K' (S_Req K'))) (br : Binds X.K fd3 ps3 []) (hK : X.K = K' := by rfl) : RcB X 8 (atR K') := by
  subst hK
  have eS := rcB_cl (c := 1) (C := CS X.K) T (Gs.imp fun _ _ _ _ h => spS T h) (fun a h => by cases a <;> first | exact ⟨_, rfl⟩ | (simp [cls] at h)) (by decide) (nfS T) T.m_Share_eq.at_ T.m_Share_eq.fn (sub_of T.su_Share_int T.su_Share_bool T.su_Share_NoneType T.su_Share_str T.su_Share_list T.su_Share_tuple T.su_Share_dict) bs
  have eT := rcB_cl (c := 2) (C := CT X.K) T (Gt.imp fun _ _ _ _ h => spT T h) (fun a h => by cases a <;> first | exact ⟨_, rfl⟩ | (simp [cls] at h)) (by decide) (nfT T) T.m_Term_eq.at_ T.m_Term_eq.fn (sub_of T.su_Term_int T.su_Term_bool T.su_Term_NoneType T.su_Term_str T.su_Term_list T.su_Term_tuple T.su_Term_dict) bt
  have eR := rcB_cl (c := 3) (C := CR X.K) T (Gr.imp fun _ _ _ _ h => spR T h) (fun a h => by cases a <;> first | exact ⟨_, rfl⟩ | (simp [cls] at h)) (by decide) (nfR T) T.m_Row_eq.at_ T.m_Row_eq.fn (sub_of T.su_Row_int T.su_Row_bool T.su_Row_NoneType T.su_Row_str T.su_Row_list T.su_Row_tuple T.su_Row_dict) br
  have eF := rcB_fl (X := X)
  intro A pins s σ H x y u v r sb I rx ry d
  obtain ⟨dx, dy, F, sm, ix, iy, a, b, h1, h2, h3⟩ := d
  have c4 : cls a = 0 ∨ cls a = 1 ∨ cls a = 2 ∨ cls a = 3 := by cases a <;> simp [cls]
  have d4 : cls b = 0 ∨ cls b = 1 ∨ cls b = 2 ∨ cls b = 3 := by cases b <;> simp [cls]
  rcases c4 with h | h | h | h
  · rcases d4 with g | g | g | g
    · subst h1 h2
      exact eF.mono (by decide) A pins s σ H x y u v r sb I rx ry ⟨_, _, F, sm, ix, iy, by rw [h3]; exact flR_at h g⟩
    · exact eS.mono (by decide) A pins s σ H x y u v r sb I rx ry ⟨dx, dy, F, sm, ix, iy, a, b, h1, h2, h3, .inr ⟨h, g⟩⟩
    · exact eT.mono (by decide) A pins s σ H x y u v r sb I rx ry ⟨dx, dy, F, sm, ix, iy, a, b, h1, h2, h3, .inr ⟨h, g⟩⟩
    · exact eR.mono (by decide) A pins s σ H x y u v r sb I rx ry ⟨dx, dy, F, sm, ix, iy, a, b, h1, h2, h3, .inr ⟨h, g⟩⟩
  · exact eS.mono (by decide) A pins s σ H x y u v r sb I rx ry ⟨dx, dy, F, sm, ix, iy, a, b, h1, h2, h3, .inl h⟩
  · exact eT.mono (by decide) A pins s σ H x y u v r sb I rx ry ⟨dx, dy, F, sm, ix, iy, a, b, h1, h2, h3, .inl h⟩
  · exact eR.mono (by decide) A pins s σ H x y u v r sb I rx ry ⟨dx, dy, F, sm, ix, iy, a, b, h1, h2, h3, .inl h⟩
end
/-! ### trees -/
inductive Tr where
  | leaf (a : At) | ask (t : Lin) (s : Bool) (n y : Tr)
def eqT : Tr → Tr → Bool
  | .leaf a, .leaf b => eqA a b
  | .ask t s n y, .ask t' s' n' y' => decide (t = t') && decide (s = s') && (eqT n n' && eqT y y')
  | _, _ => false
def dep : Tr → Nat
  | .leaf _ => 0
  | .ask _ _ n y => 1 + max (dep n) (dep y)
def pr : Tr → Tr
  | .leaf a => .leaf a
  | .ask t s n y => if eqT (pr n) (pr y) = true then pr n else .ask t s (pr n) (pr y)
def wk (qs : List Rat) : Tr → At
  | .leaf a => a
  | .ask t s n y => if hld t s qs = true then wk qs y else wk qs n
def Ok (S : At → Prop) (B : Nat) : Tr → Prop
  | .leaf a => S a
  | .ask t _ n y => SzL B t ∧ Ok S B n ∧ Ok S B y
theorem eqT_self : ∀ a, eqT a a = true
  | .leaf a => eqA_self a
  | .ask t s n y => by simp [eqT, eqT_self n, eqT_self y]
theorem pr_dep : ∀ a, dep (pr a) ≤ dep a
  | .leaf a => Nat.le_refl _
  | .ask t s n y => by
    have h1 := pr_dep n
    have h2 := pr_dep y
    unfold pr
    split
    · show dep (pr n) ≤ 1 + max (dep n) (dep y); omega
    · show 1 + max (dep (pr n)) (dep (pr y)) ≤ 1 + max (dep n) (dep y); omega
theorem pr_pr : ∀ a, pr (pr a) = pr a
  | .leaf a => rfl
  | .ask t s n y => by
    have h1 := pr_pr n
    have h2 := pr_pr y
    by_cases h : eqT (pr n) (pr y) = true
    · have e : pr (.ask t s n y) = pr n := by show (if _ then _ else _) = _; rw [if_pos h]
      rw [e, h1]
    · have e : pr (.ask t s n y) = .ask t s (pr n) (pr y) := by show (if _ then _ else _) = _; rw [if_neg h]
      rw [e]
      show (if eqT (pr (pr n)) (pr (pr y)) = true then pr (pr n) else Tr.ask t s (pr (pr n)) (pr (pr y))) = _
      rw [h1, h2, if_neg h]
theorem pr_ok {S : At → Prop} {B : Nat} : ∀ {a}, Ok S B a → Ok S B (pr a)
  | .leaf a, h => h
  | .ask t s n y, ⟨h1, h2, h3⟩ => by
    unfold pr
    split
    · exact pr_ok h2
    · exact ⟨h1, pr_ok h2, pr_ok h3⟩
theorem wk_in {S : At → Prop} {B : Nat} (qs : List Rat) : ∀ {a}, Ok S B a → S (wk qs a)
  | .leaf a, h => h
  | .ask t s n y, ⟨h1, h2, h3⟩ => by
    unfold wk
    split
    · exact wk_in qs h3
    · exact wk_in qs h2
theorem eqT_wk (qs : List Rat) : ∀ {a b}, eqT a b = true → eqA (wk qs a) (wk qs b) = true
  | .leaf a, .leaf b, h => h
  | .leaf a, .ask t s n y, h => by simp [eqT] at h
  | .ask t s n y, .leaf a, h => by simp [eqT] at h
  | .ask t s n y, .ask t' s' n' y', h => by
    simp only [eqT, Bool.and_eq_true, decide_eq_true_eq] at h
    obtain ⟨⟨rfl, rfl⟩, h3, h4⟩ := h
    unfold wk
    split
    · exact eqT_wk qs h4
    · exact eqT_wk qs h3
/-- values among which == goes on -/
def Go (S : At → Prop) : Prop := ∀ a b c, S a → S b → S c → eqA a b = true → eqA b c = true → eqA a c = true
theorem pr_wk {S : At → Prop} {B : Nat} (g : Go S) (qs : List Rat) : ∀ {a}, Ok S B a → eqA (wk qs (pr a)) (wk qs a) = true
  | .leaf a, h => eqA_self a
  | .ask t s n y, ⟨h1, h2, h3⟩ => by
    have i1 := pr_wk g qs h2
    have i2 := pr_wk g qs h3
    by_cases h : eqT (pr n) (pr y) = true
    · have e : pr (.ask t s n y) = pr n := by show (if _ then _ else _) = _; rw [if_pos h]
      rw [e]
      show eqA _ (if hld t s qs = true then wk qs y else wk qs n) = true
      split
      · exact g _ _ _ (wk_in qs (pr_ok h2)) (wk_in qs (pr_ok h3)) (wk_in qs h3) (eqT_wk qs h) i2
      · exact i1
    · have e : pr (.ask t s n y) = .ask t s (pr n) (pr y) := by show (if _ then _ else _) = _; rw [if_neg h]
      rw [e]
      show eqA (if hld t s qs = true then wk qs (pr y) else wk qs (pr n)) (if hld t s qs = true then wk qs y else wk qs n) = true
      split
      · exact i2
      · exact i1
section
variable {K : PySem.W.Frag} {mg : Str → Option Value}
def trD (K : PySem.W.Frag) : Tr → D
  | .leaf a => .tup [.str "leaf", atD K a]
  | .ask t s n y => .tup [.str "ask", rwD K t s, trD K n, trD K y]
theorem nor_tr : ∀ a, nor (trD K a) = true
  | .leaf a => by simp [trD, nor, norL, nor_at]
  | .ask t s n y => by
    have : nor (rwD K t s) = true := nor_at (.rw t s)
    simp only [nor] at this
    simp [trD, nor, norL, nor_tr n, nor_tr y, this]
theorem at_dp {x y : D} {r : Bool} (h : atR K x y r) : ∀ d, dpR (atR K) d x y r
  | 0 => .inr h
  | d + 1 => .inl (at_dp h d)
theorem dp_up {x y : D} {r : Bool} {d : Nat} (h : dpR (atR K) d x y r) : dpR (atR K) (d + 1) x y r := .inl h
theorem tr_seq : ∀ (d : Nat) (a b : Tr), dep a ≤ d → dep b ≤ d → seqR (dpR (atR K) d) (trD K a) (trD K b) (eqT a b)
  | d, .leaf a, .leaf b, _, _ => by
    refine ⟨_, _, .inr ⟨rfl, rfl⟩, ?_⟩
    have h := EqLs.cons (R := dpR (atR K) d) (at_dp (K := K) ⟨.st "leaf", .st "leaf", rfl, rfl, rfl⟩ d) (.cons (at_dp (K := K) ⟨a, b, rfl, rfl, rfl⟩ d) .nil)
    have e : eqT (.leaf a) (.leaf b) = (eqA (.st "leaf") (.st "leaf") && (eqA a b && true)) := by simp [eqT, eqA_self]
    rw [e]; exact h
  | d, .leaf a, .ask t s n y, _, _ => by
    refine ⟨_, _, .inr ⟨rfl, rfl⟩, ?_⟩
    have h := EqLs.cons (R := dpR (atR K) d) (at_dp (K := K) ⟨.st "leaf", .st "ask", rfl, rfl, rfl⟩ d) (.cons (at_dp (K := K) ⟨a, .rw t s, rfl, rfl, rfl⟩ d) (.nl (y := trD K n) (ys := [trD K y]) (by simp [norL, nor_tr])))
    have e : eqT (.leaf a) (.ask t s n y) = (eqA (.st "leaf") (.st "ask") && (eqA a (.rw t s) && false)) := by simp [eqT]
    rw [e]; exact h
  | d, .ask t s n y, .leaf a, _, _ => by
    refine ⟨_, _, .inr ⟨rfl, rfl⟩, ?_⟩
    have h := EqLs.cons (R := dpR (atR K) d) (at_dp (K := K) ⟨.st "ask", .st "leaf", rfl, rfl, rfl⟩ d) (.cons (at_dp (K := K) ⟨.rw t s, a, rfl, rfl, rfl⟩ d) (.nr (y := trD K n) (ys := [trD K y]) (by simp [norL, nor_tr])))
    have e : eqT (.ask t s n y) (.leaf a) = (eqA (.st "ask") (.st "leaf") && (eqA (.rw t s) a && false)) := by simp [eqT]
    rw [e]; exact h
  | 0, .ask t s n y, .ask t' s' n' y', h, _ => by simp [dep] at h
  | d + 1, .ask t s n y, .ask t' s' n' y', h, h' => by
    simp only [dep] at h h'
    refine ⟨_, _, .inr ⟨rfl, rfl⟩, ?_⟩
    have hh := EqLs.cons (R := dpR (atR K) (d + 1)) (at_dp (K := K) ⟨.st "ask", .st "ask", rfl, rfl, rfl⟩ (d + 1)) (.cons (at_dp (K := K) ⟨.rw t s, .rw t' s', rfl, rfl, rfl⟩ (d + 1)) (.cons (.inr (tr_seq d n n' (by omega) (by omega))) (.cons (.inr (tr_seq d y y' (by omega) (by omega))) .nil)))
    have e : eqT (.ask t s n y) (.ask t' s' n' y') = (eqA (.st "ask") (.st "ask") && (eqA (.rw t s) (.rw t' s') && (eqT n n' && (eqT y y' && true)))) := by simp [eqT, eqA_self, eqA]
    rw [e]; exact hh
end
end LW
end

section
set_option Elab.async false
set_option linter.all false
set_option maxRecDepth 100000
set_option maxHeartbeats 1000000
set_option exponentiation.threshold 10000
namespace LW
open PySem PySem.Spec PyProof.Rows L2 DL MA
local macro_rules | `(tactic| walk_at "d1") => `(tactic| first
  | (with_reducible refine s_seq ?_) | (with_reducible refine s_set ?_) | (with_reducible refine s_ret ?_) | (with_reducible refine s_if ?_) | (with_reducible refine s_fld ?_) | (with_reducible refine s_next ?_) | (with_reducible refine s_par ?_)
  | (with_reducible refine e_var rfl ?_) | (with_reducible refine e_int ?_) | (with_reducible refine e_bl ?_) | (with_reducible refine e_non ?_) | (with_reducible refine e_str ?_) | (with_reducible refine e_ty ?_) | (with_reducible refine e_ref ?_)
  | (with_reducible refine e_op ?_) | (with_reducible refine e_un ?_) | (with_reducible refine e_cb ?_) | (with_reducible refine e_if ?_) | (with_reducible refine e_andV ?_) | (with_reducible refine e_orV ?_) | (with_reducible refine e_notV ?_) | (with_reducible refine e_fld ?_)
  | (with_reducible refine e_call0 ?_) | (with_reducible refine e_meth0 ?_) | (with_reducible refine e_make (dds := []) nilD ?_) | (with_reducible refine e_stat0 ?_)
  | (with_reducible refine a_nil ?_) | (with_reducible refine a_cons ?_) | (with_reducible refine e_tup ?_)
  | (with_reducible refine t_test ?_) | (with_reducible refine t_B ?_) | (with_reducible refine t_and ?_) | (with_reducible refine t_or ?_) | (with_reducible refine t_not ?_)
  | (with_reducible refine ri0 ?_) | (with_reducible refine rb0 ?_) | (with_reducible refine req ?_) | (with_reducible refine rne ?_) | (with_reducible refine reqb ?_) | (with_reducible refine ui ?_)
  | (with_reducible refine c_abs ?_) | (with_reducible refine c_int1 ?_) | (with_reducible refine c_bool1 ?_)
  | (with_reducible refine Exists.intro _ (And.intro rfl ?_)))
local macro_rules | `(tactic| walk_at "d") => `(tactic| repeat (walk_at "d1"; try dsimp only [List.set, wipeD, List.map]))
local macro_rules | `(tactic| walk_at "s") => `(tactic| dsimp only [cxOf, Cx.nox, Cx.wish, startD, List.map, List.length, Nat.reduceAdd, Nat.reduceSub, List.reduceReplicate, HAppend.hAppend, Append.append, List.append])
local macro_rules | `(tactic| walk_at "d1") => `(tactic| first
  | (with_reducible refine fld_top (by assumption) ?_) | (with_reducible refine fld_bottom (by assumption) ?_)
  | (with_reducible refine isnum_num (by assumption) (by assumption) ?_) | (with_reducible refine assh_num (by assumption) ?_) | (with_reducible refine isnum_num (by assumption) (Num.sh _) ?_) | (with_reducible refine assh_num (Num.sh _) ?_) | (with_reducible refine isnum_num (by assumption) (Num.int _) ?_) | (with_reducible refine assh_num (Num.int _) ?_)
  | (with_reducible refine e_Share1 ?_) | (with_reducible refine e_Share2 ?_))
local macro_rules | `(tactic| walk_at "d1") => `(tactic| first | (with_reducible refine r_SN (by assumption) ?_) | (with_reducible refine r_SN (Num.sh _) ?_) | (with_reducible refine r_SN (Num.int _) ?_) | (with_reducible refine u_S ?_))
section
variable {P : Program} {w : World} {K : PySem.W.Frag} {mg : Str → Option Value} {base : Heap}
/-! ### what a law draws -/
def Dr (a : Addr) (n : Nat) (m : Mu) : Prop := ∃ x y z : Int, m a = some (.lst [.int x, .int y, .int z]) ∧ 0 ≤ y ∧ y < 2147483647 ∧ 0 ≤ z ∧ z + (n : Int) < 2 ^ 64
def Off (a : Addr) (m m' : Mu) : Prop := ∀ b, b ≠ a → m' b = m b
theorem Dr.mono {a : Addr} {n j : Nat} {m : Mu} (h : Dr a n m) (hj : j ≤ n) : Dr a j m := by
  obtain ⟨x, y, z, h1, h2, h3, h4, h5⟩ := h
  exact ⟨x, y, z, h1, h2, h3, h4, by omega⟩
def S_source (K : PySem.W.Frag) : SpD := fun ds m k => ∃ (is : List Int) (i : Nat), ds = [.lst (is.map D.int), .int (i : Int)] ∧ i < 1000 ∧ ∀ a m', m a = none → Off a m m' → Dr a 10000 m' → k (.ref a) m'
theorem cpow {i : Int} {j : Int} (h1 : 0 ≤ j) (h2 : j ≤ 1000000) (h3 : i.natAbs < 2 ^ 64) : CPow i j := ⟨h1, h2, h3⟩
theorem cmulS {i j : Int} {B C : Nat} (hi : i.natAbs < 2 ^ B) (hj : j.natAbs < 2 ^ C) (h : B + C ≤ 900000) : CMulW i j := cmul hi hj h
theorem sc_law_source : FnScope ["_law_script", "_law_at", "_law_cell"] ["_law_script", "_law_at"] (defScope s_law_source) := ⟨rfl, rfl, rfl, by decide +kernel, rfl, by decide +kernel, by decide +kernel⟩
theorem fn_source (T : Txt K mg) : Fn P w K mg base 1 (He.ga K "_law_source") ["_law_script", "_law_at"] (S_source K) := by
  refine fn_of1 (kk := 0) T.F_law_source sc_law_source (fun ds m k h => by obtain ⟨is, i, rfl, _⟩ := h; rfl) (fun _ _ _ _ _ _ us hl => match us, hl with | [_, _], _ => rfl) ?_
  intro cdv A outer s H E hr
  refine ⟨_, (pss_cons (ps_set (i := 2) sc_law_source.nd rfl (.inl rfl) (pe_ifExp (pt_cmpR op_lt (pv 1) (pe_callB call_len_seq rfl T.n_len PySem.boot_len (pa_cons (pv 0) pa_nil)) (nomark _)) (pe_ix ix_seq (pv 0) (pv 1) (fun _ _ => rfl)) (pe_op op_add (pe_op op_mulW pe_int (pv 1)) pe_int)))
      (pss_one (ps_ret (pe_lst (pa_cons (pe_ifExp (pt_cmpR op_ge (pv 2) (pe_op op_pow pe_int pe_int) (nomark _)) (pv 2) pe_int) (pa_cons (pe_op op_modN (pe_callTy call_int1 rfl T.n_int (by decide +kernel) (pa_cons (pv 2) pa_nil)) pe_int) (pa_cons pe_int pa_nil))))))), ?_⟩
  intro ds m k hS
  obtain ⟨is, i, rfl, hi, hk⟩ := hS
  walk_at "s"
  walk_at "d"
  refine c_len (.inl ⟨_, rfl, rfl⟩) ?_
  walk_at "d"
  by_cases h : i < is.length
  · refine ite_d1 (by simp [h]) ?_
    walk_at "d"
    refine r_ix1 (r_ixL (d := .int is[i]) (atI_nat (by simp [h])) ?_)
    generalize is[i] = cell
    walk_at "d"
    refine e_lstM ?_
    walk_at "d"
    refine ri (cpow (by decide) (by decide) (by decide)) ?_
    walk_at "d"
    split
    all_goals
      walk_at "d"
      refine ri (by decide) ?_
      walk_at "d"
      refine ⟨(by show 3 ≤ 100000; decide), fun a ha => hk a _ ha (fun b hb => updM_ne hb) ⟨_, _, _, updM_same, Int.fmod_nonneg_of_pos _ (by decide), Int.fmod_lt_of_pos _ (by decide), by decide, by decide⟩⟩
  · refine ite_d0 (by simp; omega) ?_
    walk_at "d"
    refine ri (cmulS (B := 3) (C := 10) (by decide) (by rw [Int.natAbs_natCast]; omega) (by decide)) ?_
    walk_at "d"
    generalize 7 * (i : Int) + 5 = cell
    walk_at "d"
    refine e_lstM ?_
    walk_at "d"
    refine ri (cpow (by decide) (by decide) (by decide)) ?_
    walk_at "d"
    split
    all_goals
      walk_at "d"
      refine ri (by decide) ?_
      walk_at "d"
      refine ⟨(by show 3 ≤ 100000; decide), fun a ha => hk a _ ha (fun b hb => updM_ne hb) ⟨_, _, _, updM_same, Int.fmod_nonneg_of_pos _ (by decide), Int.fmod_lt_of_pos _ (by decide), by decide, by decide⟩⟩
def S_draw : SpD := fun ds m k => ∃ (a : Addr) (many : Int) (n : Nat), ds = [.ref a, .int many] ∧ 0 < many ∧ many < 2 ^ 100 ∧ Dr a (n + 1) m ∧ ∀ r m', 0 ≤ r → r < many → Off a m m' → Dr a n m' → k (.int r) m'
theorem fdiv_eq' (a b : Int) (h : 0 < b) : a.fdiv b = a / b := Int.fdiv_eq_ediv_of_nonneg _ (by omega)
theorem sc_law_draw : FnScope ["_law_draws", "_law_many", "_law_found"] ["_law_draws", "_law_many"] (defScope s_law_draw) := ⟨rfl, rfl, rfl, by decide +kernel, rfl, by decide +kernel, by decide +kernel⟩
theorem fn_draw (T : Txt K mg) : Fn P w K mg base 1 (He.ga K "_law_draw") ["_law_draws", "_law_many"] S_draw := by
  refine fn_of1 (kk := 0) T.F_law_draw sc_law_draw (fun ds m k h => by obtain ⟨a, j, n, rfl, _⟩ := h; rfl) (fun _ _ _ _ _ _ us hl => match us, hl with | [_, _], _ => rfl) ?_
  intro cdv A outer s H E hr
  refine ⟨_, (pss_cons (ps_if (pt_cmpR op_gt (pe_ix ix_seq (pv 0) pe_int (fun _ _ => rfl)) pe_int (nomark _)) (pss_cons (ps_set (i := 2) sc_law_draw.nd rfl (.inl rfl) (pe_op op_modN (pe_callTy call_int1 rfl T.n_int (by decide +kernel) (pa_cons (pe_ix ix_seq (pv 0) pe_int (fun _ _ => rfl)) pa_nil)) (pv 1)))
      (pss_cons (ps_asg (pe_op op_fdivZ (pe_ix ix_seq (pv 0) pe_int (fun _ _ => rfl)) (pv 1)) (pg_sub (pv 0) pe_int set_list))
      (pss_one (ps_ret (pv 2))))) pss_nil)
      (pss_cons (ps_asg (pe_op op_add (pe_ix ix_seq (pv 0) pe_int (fun _ _ => rfl)) pe_int) (pg_sub (pv 0) pe_int set_list))
      (pss_cons (ps_asg (pe_op op_modN (pe_callTy call_int1 rfl T.n_int (by decide +kernel) (pa_cons (pe_op op_add (pe_op op_add (pe_op op_mulW (pe_ix ix_seq (pv 0) pe_int (fun _ _ => rfl)) pe_int) (pe_op op_mulW (pe_ix ix_seq (pv 0) pe_int (fun _ _ => rfl)) pe_int)) pe_int) pa_nil)) pe_int) (pg_sub (pv 0) pe_int set_list))
      (pss_one (ps_ret (pe_op op_modN (pe_callTy call_int1 rfl T.n_int (by decide +kernel) (pa_cons (pe_op op_add (pe_op op_fdivZ (pe_ix ix_seq (pv 0) pe_int (fun _ _ => rfl)) pe_int) (pe_ix ix_seq (pv 0) pe_int (fun _ _ => rfl))) pa_nil)) (pv 1))))))), ?_⟩
  intro ds m k hS
  obtain ⟨a, many, n, rfl, h0, h9, ⟨x, y, z, hm, hy0, hy, hz0, hz⟩, hk⟩ := hS
  have hmz : many ≠ 0 := by omega
  have hdv : many.natAbs < 2 ^ 8999 := Nat.lt_of_lt_of_le (show many.natAbs < 2 ^ 100 by omega) (Nat.pow_le_pow_right (by decide) (by decide))
  walk_at "s"
  walk_at "d"
  refine r_ix1 (r_ixM hm rfl ?_)
  walk_at "d"
  by_cases hx : 0 < x
  · refine ite_d1 (by rw [decide_eq_true_eq]; exact hx) ?_
    walk_at "d"
    refine r_ix1 (r_ixM hm rfl ?_)
    walk_at "d"
    refine ri hmz ?_
    walk_at "d"
    refine s_setL ?_
    walk_at "d"
    refine r_ix1 (r_ixM hm rfl ?_)
    walk_at "d"
    refine ri (cdiv hmz hdv) ?_
    walk_at "d"
    refine ⟨a, _, 0, 0, rfl, rfl, hm, rfl, ?_⟩
    walk_at "d"
    refine hk _ _ (Int.fmod_nonneg_of_pos _ h0) (Int.fmod_lt_of_pos _ h0) (fun b hb => updM_ne hb) ⟨_, y, z, updM_same, hy0, hy, hz0, by omega⟩
  · refine ite_d0 (by rw [decide_eq_false_iff_not]; exact hx) ?_
    walk_at "d"
    refine s_setL ?_
    walk_at "d"
    refine r_ix1 (r_ixM hm rfl ?_)
    walk_at "d"
    refine ⟨a, _, 2, 2, rfl, rfl, hm, rfl, ?_⟩
    walk_at "d"
    refine s_setL ?_
    walk_at "d"
    refine r_ix1 (r_ixM updM_same rfl ?_)
    walk_at "d"
    refine ri (cmulS (B := 31) (C := 16) (by omega) (by decide) (by decide)) ?_
    walk_at "d"
    refine r_ix1 (r_ixM updM_same rfl ?_)
    walk_at "d"
    refine ri (cmulS (B := 65) (C := 13) (by omega) (by decide) (by decide)) ?_
    walk_at "d"
    refine ri (by decide) ?_
    walk_at "d"
    refine ⟨a, _, 1, 1, rfl, rfl, updM_same, rfl, ?_⟩
    rw [updM_updM]
    generalize hyy : (y * 48271 + (z + 1) * 7919 + 12345).fmod 2147483647 = yy
    have hy1 : 0 ≤ yy := by rw [← hyy]; exact Int.fmod_nonneg_of_pos _ (by decide)
    have hy2 : yy < 2147483647 := by rw [← hyy]; exact Int.fmod_lt_of_pos _ (by decide)
    walk_at "d"
    refine r_ix1 (r_ixM updM_same rfl ?_)
    walk_at "d"
    refine ri (cdiv (by decide) (Nat.lt_of_lt_of_le (show (65536 : Int).natAbs < 2 ^ 17 by decide) (Nat.pow_le_pow_right (by decide) (by decide)))) ?_
    walk_at "d"
    refine r_ix1 (r_ixM updM_same rfl ?_)
    walk_at "d"
    refine ri hmz ?_
    walk_at "d"
    refine hk _ _ (Int.fmod_nonneg_of_pos _ h0) (Int.fmod_lt_of_pos _ h0) (fun b hb => updM_ne hb) ⟨x, yy, z + 1, updM_same, hy1, hy2, by omega, by omega⟩
end
end LW
end

section
set_option Elab.async false
set_option linter.all false
set_option maxRecDepth 100000
set_option maxHeartbeats 1000000
namespace LW
open PySem PySem.Spec PyProof.Rows L2 DL MA
theorem Off.trans {a : Addr} {m m1 m2 : Mu} (h : Off a m m1) (g : Off a m1 m2) : Off a m m2 := fun b hb => (g b hb).trans (h b hb)
theorem Off.refl {a : Addr} {m : Mu} : Off a m m := fun _ _ => rfl
theorem dr_auto {a : Addr} {many : Int} {n : Nat} {m m0 : Mu} {k : D → Mu → Prop} (hd : Dr a (n + 1) m) (ho : Off a m0 m) (h0 : 0 < many) (h9 : many < 2 ^ 100) (h : ∀ r m', 0 ≤ r → r < many → Off a m0 m' → Dr a n m' → k (.int r) m') : S_draw [.ref a, .int many] m k :=
  ⟨a, many, n, rfl, h0, h9, hd, fun r m' h1 h2 h3 h4 => h r m' h1 h2 (ho.trans h3) h4⟩
theorem szu (k : Nat) : SzL 1 (.unk k) := by
  have h0 : Sz 1 0 := sz_int (i := 0) (by decide) (by decide)
  have h1 : Sz 1 1 := sz_int (i := 1) (by decide) (by decide)
  refine ⟨h0, ?_, ?_, ?_⟩
  · show Sz 1 (if k = 0 then 1 else 0); split <;> assumption
  · show Sz 1 (if k = 1 then 1 else 0); split <;> assumption
  · show Sz 1 (if k = 2 then 1 else 0); split <;> assumption
theorem ixT0 {K : PySem.W.Frag} {m : Mu} {k : D → Mu → Prop} {a : D} {l : List D} (h : k a m) : wR K (rIx K) (.tup (a :: l)) (.int 0) m k := r_ix2 (r_ixT (atI_nat (xs := a :: l) (j := 0) rfl) h)
theorem ixT1 {K : PySem.W.Frag} {m : Mu} {k : D → Mu → Prop} {a b : D} {l : List D} (h : k b m) : wR K (rIx K) (.tup (a :: b :: l)) (.int 1) m k := r_ix2 (r_ixT (atI_nat (xs := a :: b :: l) (j := 1) rfl) h)
theorem ixT2 {K : PySem.W.Frag} {m : Mu} {k : D → Mu → Prop} {a b c : D} {l : List D} (h : k c m) : wR K (rIx K) (.tup (a :: b :: c :: l)) (.int 2) m k := r_ix2 (r_ixT (atI_nat (xs := a :: b :: c :: l) (j := 2) rfl) h)
theorem ixT3 {K : PySem.W.Frag} {m : Mu} {k : D → Mu → Prop} {a b c e : D} {l : List D} (h : k e m) : wR K (rIx K) (.tup (a :: b :: c :: e :: l)) (.int 3) m k := r_ix2 (r_ixT (atI_nat (xs := a :: b :: c :: e :: l) (j := 3) rfl) h)
end LW
end

section
set_option Elab.async false
set_option linter.all false
set_option maxRecDepth 100000
set_option maxHeartbeats 1000000
set_option exponentiation.threshold 10000
namespace LW
open PySem PySem.Spec PyProof.Rows L2 DL MA
local macro_rules | `(tactic| walk_at "d1") => `(tactic| first
  | (with_reducible refine s_seq ?_) | (with_reducible refine s_set ?_) | (with_reducible refine s_ret ?_) | (with_reducible refine s_if ?_) | (with_reducible refine s_fld ?_) | (with_reducible refine s_next ?_) | (with_reducible refine s_par ?_)
  | (with_reducible refine e_var rfl ?_) | (with_reducible refine e_int ?_) | (with_reducible refine e_bl ?_) | (with_reducible refine e_non ?_) | (with_reducible refine e_str ?_) | (with_reducible refine e_ty ?_) | (with_reducible refine e_ref ?_)
  | (with_reducible refine e_op ?_) | (with_reducible refine e_un ?_) | (with_reducible refine e_cb ?_) | (with_reducible refine e_if ?_) | (with_reducible refine e_andV ?_) | (with_reducible refine e_orV ?_) | (with_reducible refine e_notV ?_) | (with_reducible refine e_fld ?_)
  | (with_reducible refine e_call0 ?_) | (with_reducible refine e_meth0 ?_) | (with_reducible refine e_make (dds := []) nilD ?_) | (with_reducible refine e_stat0 ?_)
  | (with_reducible refine a_nil ?_) | (with_reducible refine a_cons ?_) | (with_reducible refine e_tup ?_)
  | (with_reducible refine t_test ?_) | (with_reducible refine t_B ?_) | (with_reducible refine t_and ?_) | (with_reducible refine t_or ?_) | (with_reducible refine t_not ?_)
  | (with_reducible refine ri0 ?_) | (with_reducible refine rb0 ?_) | (with_reducible refine req ?_) | (with_reducible refine rne ?_) | (with_reducible refine reqb ?_) | (with_reducible refine ui ?_)
  | (with_reducible refine c_abs ?_) | (with_reducible refine c_int1 ?_) | (with_reducible refine c_bool1 ?_)
  | (with_reducible refine Exists.intro _ (And.intro rfl ?_)))
local macro_rules | `(tactic| walk_at "d") => `(tactic| repeat (walk_at "d1"; try dsimp only [List.set, wipeD, List.map]))
local macro_rules | `(tactic| walk_at "s") => `(tactic| dsimp only [cxOf, Cx.nox, Cx.wish, startD, List.map, List.length, Nat.reduceAdd, Nat.reduceSub, List.reduceReplicate, HAppend.hAppend, Append.append, List.append])
local macro_rules | `(tactic| walk_at "d1") => `(tactic| with_reducible refine e_lst ?_)
local macro_rules | `(tactic| walk_at "d1") => `(tactic| first
  | (with_reducible refine fld_top (by assumption) ?_) | (with_reducible refine fld_bottom (by assumption) ?_)
  | (with_reducible refine isnum_num (by assumption) (by assumption) ?_) | (with_reducible refine assh_num (by assumption) ?_) | (with_reducible refine isnum_num (by assumption) (Num.sh _) ?_) | (with_reducible refine assh_num (Num.sh _) ?_) | (with_reducible refine isnum_num (by assumption) (Num.int _) ?_) | (with_reducible refine assh_num (Num.int _) ?_)
  | (with_reducible refine e_Share1 ?_) | (with_reducible refine e_Share2 ?_))
local macro_rules | `(tactic| walk_at "d1") => `(tactic| first | (with_reducible refine r_SN (by assumption) ?_) | (with_reducible refine r_SN (Num.sh _) ?_) | (with_reducible refine r_SN (Num.int _) ?_) | (with_reducible refine u_S ?_))
local macro_rules | `(tactic| walk_at "d1") => `(tactic| first
  | (with_reducible refine fld_number (by assumption) ?_) | (with_reducible refine fld_times (by assumption) ?_) | (with_reducible refine e_Term ?_)
  | (with_reducible refine e_lcU (gin_name (by decide)) ?_) | (with_reducible refine i_rng1 ?_) | (with_reducible refine i_tup ?_) | (with_reducible refine i_list ?_) | (with_reducible refine t_yes ?_) | (with_reducible refine g_name ?_)
  | (with_reducible refine unrc_r3 ?_) | (with_reducible refine unrc_r4 ?_) | (with_reducible refine unr_r3 ?_) | (with_reducible refine unr_r4 ?_) | (with_reducible refine unr_r2 ?_) | (with_reducible refine unrc_cons ?_) | (with_reducible refine unrc_nil ?_) | (with_reducible refine unr_cons ?_) | (with_reducible refine unr_nil ?_) | (with_reducible refine s_forU ?_)
  | (with_reducible refine iteT ?_) | (with_reducible refine iteF ?_) | (with_reducible refine e_chain ?_) | (with_reducible refine And.intro len3 ?_) | (with_reducible refine And.intro len4 ?_) | (with_reducible refine And.intro (by decide) ?_) | (with_reducible refine ite_d1 (by decide) ?_) | (with_reducible refine ite_d0 (by decide) ?_))
local macro_rules | `(tactic| walk_at "d1") => `(tactic| first
  | (with_reducible refine isworth (by assumption) (by assumption) ?_) | (with_reducible refine asterm (by assumption) ?_) | (with_reducible refine isworth (by assumption) (Wth.tm _) ?_) | (with_reducible refine asterm (Wth.tm _) ?_)
  | (with_reducible refine i_zipT ?_) | (with_reducible refine unrc_z3 ?_) | (with_reducible refine e_lcU (gin_tup (gsin_one (by decide) (gsin_one (by decide) gsin_nil))) ?_) | (with_reducible refine g_tup rfl ?_) | (with_reducible refine gs_cons ?_) | (with_reducible refine gs_nil ?_)
  | (with_reducible refine And.intro lenz3 ?_) | (with_reducible refine Exists.intro _ (Exists.intro _ (And.intro rfl ?_)))
  | (with_reducible refine EN.i_enumT ?_) | (with_reducible refine unr_e3 ?_) | (with_reducible refine e_methT (fun _ => rfl) ?_) | (with_reducible refine a_star ?_)
  | (with_reducible refine r_TW (by assumption) ?_) | (with_reducible refine r_TW (Wth.tm _) ?_))
local macro_rules | `(tactic| walk_at "d1") => `(tactic| first | (with_reducible refine isi_SS (by assumption) ?_) | (with_reducible refine isi_TT (by assumption) ?_) | (with_reducible refine isi_RR (by assumption) ?_))
local macro_rules | `(tactic| walk_at "d1") => `(tactic| first | (with_reducible refine s_asg ?_))
section
variable {P : Program} {w : World} {K : PySem.W.Frag} {mg : Str → Option Value} {base : Heap}
theorem rneb {m : Mu} {k : D → Mu → Prop} {i j : Bool} (q : k (.bl (!decide (i = j))) m) : wR K rNe (.bl i) (.bl j) m k := r_ne (u := .bl i) (v := .bl j) rfl rfl rfl (by
  have e : decide (V.bl i = V.bl j) = decide (i = j) := decide_eq_decide.mpr ⟨fun z => V.bl.inj z, fun z => by rw [z]⟩
  rw [e]; exact q)
theorem kit4 {t a b c d : Value} {b1 b2 b3 b4 : Bool} (h1 : PySem.W.kitOne K t a = some b1) (h2 : PySem.W.kitOne K t b = some b2) (h3 : PySem.W.kitOne K t c = some b3) (h4 : PySem.W.kitOne K t d = some b4) : PySem.W.kitAny K t [a, b, c, d] = some (b1 || (b2 || (b3 || b4))) := by
  refine kitAny_cons h1 (fun hb => ?_) (fun hb => by rw [hb]; rfl)
  rw [hb]
  refine kitAny_cons h2 (fun hb => ?_) (fun hb => by rw [hb]; rfl)
  rw [hb]
  show PySem.W.kitAny K t [c, d] = some (b3 || b4)
  exact kit2 h3 h4
/-- of which kind -/
structure Kd (K : PySem.W.Frag) (m : Mu) (x : D) (l t i b : Bool) : Prop where
  ex : ∃ v, TI2 K m x v ∧ PySem.W.kitOne K v (.type "list") = some l ∧ PySem.W.kitOne K v (.type "tuple") = some t ∧ PySem.W.kitOne K v (.type "int") = some i ∧ PySem.W.kitOne K v (.type "bool") = some b
theorem Kd.li {m : Mu} {k : D → Mu → Prop} {x : D} {l t i b : Bool} (h : Kd K m x l t i b) (q : k (.bl l) m) : wC K (rIsi K) [x, .ty "list"] m k := let ⟨_, h0, h1, _⟩ := h.ex; c_isi (.inl ⟨_, rfl, rfl⟩) h0 h1 q
theorem Kd.tu {m : Mu} {k : D → Mu → Prop} {x : D} {l t i b : Bool} (h : Kd K m x l t i b) (q : k (.bl t) m) : wC K (rIsi K) [x, .ty "tuple"] m k := let ⟨_, h0, _, h1, _⟩ := h.ex; c_isi (.inl ⟨_, rfl, rfl⟩) h0 h1 q
theorem Kd.in_ {m : Mu} {k : D → Mu → Prop} {x : D} {l t i b : Bool} (h : Kd K m x l t i b) (q : k (.bl i) m) : wC K (rIsi K) [x, .ty "int"] m k := let ⟨_, h0, _, _, h1, _⟩ := h.ex; c_isi (.inl ⟨_, rfl, rfl⟩) h0 h1 q
theorem Kd.bo {m : Mu} {k : D → Mu → Prop} {x : D} {l t i b : Bool} (h : Kd K m x l t i b) (q : k (.bl b) m) : wC K (rIsi K) [x, .ty "bool"] m k := let ⟨_, h0, _, _, _, h1⟩ := h.ex; c_isi (.inl ⟨_, rfl, rfl⟩) h0 h1 q
theorem isi_lt {r : En} {m : Mu} {k : D → Mu → Prop} {j : Nat} {x : D} {l t i b : Bool} (hr : r[j]? = some (some x)) (h : Kd K m x l t i b) (q : k (.bl (l || t)) m) : wE K (tCB (rIsiT K) (tCons (tVar j) (tCons (tTup (tCons (tC (.ty "list")) (tCons (tC (.ty "tuple")) tNil))) tNil))) r m k :=
  let ⟨_, h0, h1, h2, _⟩ := h.ex
  e_isiT (e_var hr (a_cons (e_ty (a_cons (e_ty (a_nil ⟨rfl, by show 2 ≤ 100000; decide, _, _, .ty _ (.ty _ .nil), h0, kit2 h1 h2, q⟩))))))
theorem isi_bi {r : En} {m : Mu} {k : D → Mu → Prop} {j : Nat} {x : D} {l t i b : Bool} (hr : r[j]? = some (some x)) (h : Kd K m x l t i b) (q : k (.bl (b || i)) m) : wE K (tCB (rIsiT K) (tCons (tVar j) (tCons (tTup (tCons (tC (.ty "bool")) (tCons (tC (.ty "int")) tNil))) tNil))) r m k :=
  let ⟨_, h0, _, _, h1, h2⟩ := h.ex
  e_isiT (e_var hr (a_cons (e_ty (a_cons (e_ty (a_nil ⟨rfl, by show 2 ≤ 100000; decide, _, _, .ty _ (.ty _ .nil), h0, kit2 h2 h1, q⟩))))))
theorem isi_4 {r : En} {m : Mu} {k : D → Mu → Prop} {j : Nat} {x : D} {l t i b : Bool} (hr : r[j]? = some (some x)) (h : Kd K m x l t i b) (q : k (.bl (b || (i || (l || t)))) m) : wE K (tCB (rIsiT K) (tCons (tVar j) (tCons (tTup (tCons (tC (.ty "bool")) (tCons (tC (.ty "int")) (tCons (tC (.ty "list")) (tCons (tC (.ty "tuple")) tNil))))) tNil))) r m k :=
  let ⟨_, h0, h3, h4, h1, h2⟩ := h.ex
  e_isiT (e_var hr (a_cons (e_ty (a_cons (e_ty (a_cons (e_ty (a_cons (e_ty (a_nil ⟨rfl, by show 4 ≤ 100000; decide, _, _, .ty _ (.ty _ (.ty _ (.ty _ .nil))), h0, kit4 h2 h1 h3 h4, q⟩))))))))))
def isI : At → Bool
  | .int _ => true
  | .bl _ => true
  | _ => false
def isB : At → Bool
  | .bl _ => true
  | _ => false
theorem kd_at (T : Txt K mg) (m : Mu) (a : At) : Kd K m (atD K a) false false (isI a) (isB a) := by
  refine ⟨tyV K a, (kn_at T a).ti m, ?_⟩
  cases a with
  | int i =>
    show PySem.W.kitOne K (.type "int") (.type "list") = some false ∧ PySem.W.kitOne K (.type "int") (.type "tuple") = some false ∧ PySem.W.kitOne K (.type "int") (.type "int") = some true ∧ PySem.W.kitOne K (.type "int") (.type "bool") = some false
    exact ⟨kit_ty (by decide +kernel), kit_ty (by decide +kernel), kit_ty (by decide +kernel), kit_ty (by decide +kernel)⟩
  | bl b =>
    show PySem.W.kitOne K (.type "bool") (.type "list") = some false ∧ PySem.W.kitOne K (.type "bool") (.type "tuple") = some false ∧ PySem.W.kitOne K (.type "bool") (.type "int") = some true ∧ PySem.W.kitOne K (.type "bool") (.type "bool") = some true
    exact ⟨kit_ty (by decide +kernel), kit_ty (by decide +kernel), kit_ty (by decide +kernel), kit_ty (by decide +kernel)⟩
  | st s =>
    show PySem.W.kitOne K (.type "str") (.type "list") = some false ∧ PySem.W.kitOne K (.type "str") (.type "tuple") = some false ∧ PySem.W.kitOne K (.type "str") (.type "int") = some false ∧ PySem.W.kitOne K (.type "str") (.type "bool") = some false
    exact ⟨kit_ty (by decide +kernel), kit_ty (by decide +kernel), kit_ty (by decide +kernel), kit_ty (by decide +kernel)⟩
  | no =>
    show PySem.W.kitOne K (.type "NoneType") (.type "list") = some false ∧ PySem.W.kitOne K (.type "NoneType") (.type "tuple") = some false ∧ PySem.W.kitOne K (.type "NoneType") (.type "int") = some false ∧ PySem.W.kitOne K (.type "NoneType") (.type "bool") = some false
    exact ⟨kit_ty (by decide +kernel), kit_ty (by decide +kernel), kit_ty (by decide +kernel), kit_ty (by decide +kernel)⟩
  | sh q => exact ⟨T.kb_Share_list, T.kb_Share_tuple, T.kb_Share_int, T.kb_Share_bool⟩
  | tm t => exact ⟨T.kb_Term_list, T.kb_Term_tuple, T.kb_Term_int, T.kb_Term_bool⟩
  | rw t b => exact ⟨T.kb_Row_list, T.kb_Row_tuple, T.kb_Row_int, T.kb_Row_bool⟩
theorem kd_lst {m : Mu} (b : List D) : Kd K m (.lst b) true false false false := ⟨_, .lst b, kit_ty (by decide +kernel), kit_ty (by decide +kernel), kit_ty (by decide +kernel), kit_ty (by decide +kernel)⟩
theorem kd_tup {m : Mu} (b : List D) : Kd K m (.tup b) false true false false := ⟨_, .tup b, kit_ty (by decide +kernel), kit_ty (by decide +kernel), kit_ty (by decide +kernel), kit_ty (by decide +kernel)⟩
inductive Sx (K : PySem.W.Frag) : Nat → D → Prop where
  | atm {n : Nat} (a : At) : Sx K n (atD K a)
  | tup {n : Nat} {xs : List D} (h : ∀ x ∈ xs, Sx K n x) (hl : xs.length < 100000) : Sx K (n + 1) (.tup xs)
  | lst {n : Nat} {xs : List D} (h : ∀ x ∈ xs, Sx K n x) (hl : xs.length < 100000) : Sx K (n + 1) (.lst xs)
def S_self (K : PySem.W.Frag) (n : Nat) : SpD := fun ds m k => ∃ x, ds = [x, x] ∧ Sx K n x ∧ k (.bl true) m
structure Eqs (P : Program) (w : World) (K : PySem.W.Frag) (mg : Str → Option Value) (base : Heap) : Prop where
  s : Fn P w K mg base 5 (mS K "__eq__") ["self", "other"] (S_Seq K)
  t : Fn P w K mg base 7 (mT K "__eq__") ["self", "other"] (S_Teq K)
  r : Fn P w K mg base 8 (mR K "__eq__") ["self", "other"] (S_Req K)
local macro_rules | `(tactic| walk_at "d1") => `(tactic| first
  | (with_reducible refine isi_lt rfl (by assumption) ?_) | (with_reducible refine isi_bi rfl (by assumption) ?_) | (with_reducible refine isi_4 rfl (by assumption) ?_) | (with_reducible refine ite_d1 rfl ?_) | (with_reducible refine ite_d0 rfl ?_)
  | (with_reducible refine Kd.li (by assumption) ?_) | (with_reducible refine Kd.tu (by assumption) ?_) | (with_reducible refine Kd.in_ (by assumption) ?_) | (with_reducible refine Kd.bo (by assumption) ?_) | (with_reducible refine rneb ?_))
theorem sc_law_same : FnScope ["_law_found", "_law_due", "_law_left", "_law_right"] ["_law_found", "_law_due"] (defScope s_law_same) := ⟨rfl, rfl, rfl, by decide +kernel, rfl, by decide +kernel, by decide +kernel⟩
theorem fn_same0 (T : Txt K mg) (O : Eqs P w K mg base) : Fn P w K mg base 9 (He.ga K "_law_same") ["_law_found", "_law_due"] (S_self K 0) := by
  obtain ⟨⟨⟨_, G_s, b_s⟩, _⟩, ⟨⟨_, G_t, b_t⟩, _⟩, ⟨⟨_, G_r, b_r⟩, _⟩⟩ := O
  refine fn_of1 (kk := 8) T.F_law_same sc_law_same (fun ds m k h => by obtain ⟨x, rfl, _⟩ := h; rfl) (fun _ _ _ _ _ _ us hl => match us, hl with | [_, _], _ => rfl) ?_
  intro cdv A outer s H E hr
  refine ⟨_, (pss_cons (ps_if (pt_val (pe_callB call_isiT rfl T.n_isinstance (by decide +kernel) (pa_cons (pv 1) (pa_cons (pe_tup (pa_cons (pe_bltn (v := .ty "list") rfl T.n_list (by decide +kernel) rfl) (pa_cons (pe_bltn (v := .ty "tuple") rfl T.n_tuple (by decide +kernel) rfl) pa_nil))) pa_nil)))) (pss_cons ps_never
      (pss_one ps_never)) pss_nil)
      (pss_cons (ps_if (pt_val (pe_callB call_isiT rfl T.n_isinstance (by decide +kernel) (pa_cons (pv 1) (pa_cons (pe_tup (pa_cons (pe_bltn (v := .ty "bool") rfl T.n_bool (by decide +kernel) rfl) (pa_cons (pe_bltn (v := .ty "int") rfl T.n_int (by decide +kernel) rfl) pa_nil))) pa_nil)))) (pss_one (ps_ret (pe_and (pe_callB call_isi rfl T.n_isinstance (by decide +kernel) (pa_cons (pv 0) (pa_cons (pe_bltn (v := .ty "int") rfl T.n_int (by decide +kernel) rfl) pa_nil))) (pe_and (pe_cmpR op_eq (pe_callB call_isi rfl T.n_isinstance (by decide +kernel) (pa_cons (pv 0) (pa_cons (pe_bltn (v := .ty "bool") rfl T.n_bool (by decide +kernel) rfl) pa_nil))) (pe_callB call_isi rfl T.n_isinstance (by decide +kernel) (pa_cons (pv 1) (pa_cons (pe_bltn (v := .ty "bool") rfl T.n_bool (by decide +kernel) rfl) pa_nil))) (nomark _)) (pe_one (pe_cmpR (op_eqB (rcB_at T G_s b_s G_t b_t G_r b_r) hr) (pv 0) (pv 1) (nomark _))))))) pss_nil)
      (pss_one (ps_ret (pe_and (pe_not (pe_callB call_isiT rfl T.n_isinstance (by decide +kernel) (pa_cons (pv 0) (pa_cons (pe_tup (pa_cons (pe_bltn (v := .ty "bool") rfl T.n_bool (by decide +kernel) rfl) (pa_cons (pe_bltn (v := .ty "int") rfl T.n_int (by decide +kernel) rfl) (pa_cons (pe_bltn (v := .ty "list") rfl T.n_list (by decide +kernel) rfl) (pa_cons (pe_bltn (v := .ty "tuple") rfl T.n_tuple (by decide +kernel) rfl) pa_nil))))) pa_nil)))) (pe_one (pe_cmpR (op_eqB (rcB_at T G_s b_s G_t b_t G_r b_r) hr) (pv 0) (pv 1) (nomark _)))))))), ?_⟩
  intro ds m k hS
  obtain ⟨x, rfl, hx, hk⟩ := hS
  cases hx with
  | atm a =>
    have k1 := kd_at T m a
    have he : atR K (atD K a) (atD K a) true := ⟨a, a, rfl, rfl, (eqA_self a).symm⟩
    walk_at "s"
    cases a
    all_goals
      walk_at "d"
      refine r_eqB he ?_
      exact hk
theorem reqS {m : Mu} {k : D → Mu → Prop} {a b : Str} (q : k (.bl (decide (a = b))) m) : wR K rEq (.str a) (.str b) m k := r_eq (u := .str a) (v := .str b) rfl rfl rfl (by
  have e : decide (V.str a = V.str b) = decide (a = b) := decide_eq_decide.mpr ⟨fun z => V.str.inj z, fun z => by rw [z]⟩
  rw [e]; exact q)
local macro_rules | `(tactic| walk_at "d1") => `(tactic| first
  | (with_reducible refine isi_lt rfl (by assumption) ?_) | (with_reducible refine isi_bi rfl (by assumption) ?_) | (with_reducible refine isi_4 rfl (by assumption) ?_) | (with_reducible refine ite_d1 rfl ?_) | (with_reducible refine ite_d0 rfl ?_)
  | (with_reducible refine Kd.li (by assumption) ?_) | (with_reducible refine Kd.tu (by assumption) ?_) | (with_reducible refine Kd.in_ (by assumption) ?_) | (with_reducible refine Kd.bo (by assumption) ?_) | (with_reducible refine rneb ?_) | (with_reducible refine reqS ?_)
  | (with_reducible refine ixT0 ?_) | (with_reducible refine ixT1 ?_) | (with_reducible refine ixT2 ?_) | (with_reducible refine ixT3 ?_))
theorem zip_self {xs : List D} {d : D} (h : d ∈ zipD xs xs) : ∃ x, x ∈ xs ∧ d = .tup [x, x] := by
  obtain ⟨i, hi⟩ := List.getElem?_of_mem h
  obtain ⟨x, y, h1, h2, h3⟩ := zipD_get hi
  rw [h1] at h2
  cases h2
  exact ⟨x, List.mem_of_getElem? h1, h3⟩
theorem fn_sameS (T : Txt K mg) {n : Nat} (O : Eqs P w K mg base) (Os : Fn P w K mg base (9 + n) (He.ga K "_law_same") ["_law_found", "_law_due"] (S_self K n)) : Fn P w K mg base (9 + n + 1) (He.ga K "_law_same") ["_law_found", "_law_due"] (S_self K (n + 1)) := by
  obtain ⟨⟨⟨_, G_s, b_s⟩, _⟩, ⟨⟨_, G_t, b_t⟩, _⟩, ⟨⟨_, G_r, b_r⟩, _⟩⟩ := O
  obtain ⟨⟨_, G_law_same, b_law_same⟩, k_law_same⟩ := Os
  refine fn_of1 (kk := 9 + n) T.F_law_same sc_law_same (fun ds m k h => by obtain ⟨x, rfl, _⟩ := h; rfl) (fun _ _ _ _ _ _ us hl => match us, hl with | [_, _], _ => rfl) ?_
  intro cdv A outer s H E hr
  refine ⟨_, (pss_cons (ps_if (pt_val (pe_callB call_isiT rfl T.n_isinstance (by decide +kernel) (pa_cons (pv 1) (pa_cons (pe_tup (pa_cons (pe_bltn (v := .ty "list") rfl T.n_list (by decide +kernel) rfl) (pa_cons (pe_bltn (v := .ty "tuple") rfl T.n_tuple (by decide +kernel) rfl) pa_nil))) pa_nil)))) (pss_cons (ps_if (PW.pt (pw_or (pt_cmpR op_ne (pe_callB call_isi rfl T.n_isinstance (by decide +kernel) (pa_cons (pv 0) (pa_cons (pe_bltn (v := .ty "list") rfl T.n_list (by decide +kernel) rfl) pa_nil))) (pe_callB call_isi rfl T.n_isinstance (by decide +kernel) (pa_cons (pv 1) (pa_cons (pe_bltn (v := .ty "list") rfl T.n_list (by decide +kernel) rfl) pa_nil))) (nomark _)) (pw_or1 (pt_cmpR op_ne (pe_callB call_isi rfl T.n_isinstance (by decide +kernel) (pa_cons (pv 0) (pa_cons (pe_bltn (v := .ty "tuple") rfl T.n_tuple (by decide +kernel) rfl) pa_nil))) (pe_callB call_isi rfl T.n_isinstance (by decide +kernel) (pa_cons (pv 1) (pa_cons (pe_bltn (v := .ty "tuple") rfl T.n_tuple (by decide +kernel) rfl) pa_nil))) (nomark _))))) (pss_one (ps_ret pe_bl)) pss_nil)
      (pss_one (ps_ret (pe_and (pe_cmpR op_eq (pe_callB call_len_seq rfl T.n_len PySem.boot_len (pa_cons (pv 0) pa_nil)) (pe_callB call_len_seq rfl T.n_len PySem.boot_len (pa_cons (pv 1) pa_nil)) (nomark _)) (pe_one (pe_callB (cr_all rfl) rfl T.n_all (by decide +kernel) (pa_cons (pe_lc (own := [("_law_left", 2), ("_law_right", 3)]) rfl sc_law_same.nd (RZ.pi_zipA rfl T.n_zip (pa_cons (pv 0) (pa_cons (pv 1) pa_nil))) (blkOk_by (own := [("_law_left", 2), ("_law_right", 3)]) (N := ["_law_found", "_law_due", "_law_left", "_law_right"]) (sc := defScope s_law_same) (by decide +kernel)) (fun _ _ _ _ _ => (pg_tupK2 (K := K) rfl (pg_tup rfl (pgs_cons (pg_name (i := 2) sc_law_same.nd rfl (.inl rfl)) (pgs_cons (pg_name (i := 3) sc_law_same.nd rfl (.inl rfl)) pgs_nil))))) (fun _ _ _ _ _ => pts_nil) (fun _ _ _ _ _ => (pe_call G_law_same (hr.mono (by omega)) rfl T.g_law_same k_law_same b_law_same .nil pass0 (pa_cons (pv 2) (pa_cons (pv 3) pa_nil))))) pa_nil))))))) pss_nil)
      (pss_cons (ps_if (pt_val (pe_callB call_isiT rfl T.n_isinstance (by decide +kernel) (pa_cons (pv 1) (pa_cons (pe_tup (pa_cons (pe_bltn (v := .ty "bool") rfl T.n_bool (by decide +kernel) rfl) (pa_cons (pe_bltn (v := .ty "int") rfl T.n_int (by decide +kernel) rfl) pa_nil))) pa_nil)))) (pss_one (ps_ret (pe_and (pe_callB call_isi rfl T.n_isinstance (by decide +kernel) (pa_cons (pv 0) (pa_cons (pe_bltn (v := .ty "int") rfl T.n_int (by decide +kernel) rfl) pa_nil))) (pe_and (pe_cmpR op_eq (pe_callB call_isi rfl T.n_isinstance (by decide +kernel) (pa_cons (pv 0) (pa_cons (pe_bltn (v := .ty "bool") rfl T.n_bool (by decide +kernel) rfl) pa_nil))) (pe_callB call_isi rfl T.n_isinstance (by decide +kernel) (pa_cons (pv 1) (pa_cons (pe_bltn (v := .ty "bool") rfl T.n_bool (by decide +kernel) rfl) pa_nil))) (nomark _)) (pe_one (pe_cmpR (op_eqB (rcB_at T G_s b_s G_t b_t G_r b_r) (hr.mono (by omega))) (pv 0) (pv 1) (nomark _))))))) pss_nil)
      (pss_one (ps_ret (pe_and (pe_not (pe_callB call_isiT rfl T.n_isinstance (by decide +kernel) (pa_cons (pv 0) (pa_cons (pe_tup (pa_cons (pe_bltn (v := .ty "bool") rfl T.n_bool (by decide +kernel) rfl) (pa_cons (pe_bltn (v := .ty "int") rfl T.n_int (by decide +kernel) rfl) (pa_cons (pe_bltn (v := .ty "list") rfl T.n_list (by decide +kernel) rfl) (pa_cons (pe_bltn (v := .ty "tuple") rfl T.n_tuple (by decide +kernel) rfl) pa_nil))))) pa_nil)))) (pe_one (pe_cmpR (op_eqB (rcB_at T G_s b_s G_t b_t G_r b_r) (hr.mono (by omega))) (pv 0) (pv 1) (nomark _)))))))), ?_⟩
  intro ds m k hS
  obtain ⟨x, rfl, hx, hk⟩ := hS
  cases hx with
  | atm a =>
    have k1 := kd_at T m a
    have he : atR K (atD K a) (atD K a) true := ⟨a, a, rfl, rfl, (eqA_self a).symm⟩
    walk_at "s"
    cases a
    all_goals
      walk_at "d"
      refine r_eqB he ?_
      exact hk
  | @tup _ xs h hl =>
    have k1 := kd_tup (K := K) (m := m) xs
    walk_at "s"
    walk_at "d"
    refine c_len (.inr (.inl ⟨_, rfl, rfl⟩)) ?_
    walk_at "d"
    refine c_len (.inr (.inl ⟨_, rfl, rfl⟩)) ?_
    walk_at "d"
    refine ite_d1 (by simp) ?_
    walk_at "d"
    refine ⟨by rw [zipD_len]; omega, unrc_map (fun _ => D.bl true) (fun d hd => ?_) ?_⟩
    · obtain ⟨x, hx, rfl⟩ := zip_self hd
      refine g_tup rfl (gs_cons (g_name (gs_cons (g_name (gs_nil ⟨rfl, e_call0 (a_cons (e_var rfl (a_cons (e_var rfl (a_nil ⟨x, rfl, h x hx, ?_⟩)))))⟩)))))
      exact ⟨rfl, rfl⟩
    · refine a_nil (c_all (bs := (zipD xs xs).map fun _ => true) (by simp) ?_)
      have e : ((zipD xs xs).map fun _ => true).all id = true := by simp
      rw [e]
      exact hk
  | @lst _ xs h hl =>
    have k1 := kd_lst (K := K) (m := m) xs
    walk_at "s"
    walk_at "d"
    refine c_len (.inl ⟨_, rfl, rfl⟩) ?_
    walk_at "d"
    refine c_len (.inl ⟨_, rfl, rfl⟩) ?_
    walk_at "d"
    refine ite_d1 (by simp) ?_
    refine e_cb (a_cons (e_lcU (gin_tup (gsin_one (by decide) (gsin_one (by decide) gsin_nil))) (i_zipL (a_cons (e_var rfl (a_cons (e_var rfl (a_nil ⟨xs, xs, rfl, ?_⟩))))))))
    walk_at "d"
    refine ⟨by rw [zipD_len]; omega, unrc_map (fun _ => D.bl true) (fun d hd => ?_) ?_⟩
    · obtain ⟨x, hx, rfl⟩ := zip_self hd
      refine g_tup rfl (gs_cons (g_name (gs_cons (g_name (gs_nil ⟨rfl, e_call0 (a_cons (e_var rfl (a_cons (e_var rfl (a_nil ⟨x, rfl, h x hx, ?_⟩)))))⟩)))))
      exact ⟨rfl, rfl⟩
    · refine a_nil (c_all (bs := (zipD xs xs).map fun _ => true) (by simp) ?_)
      have e : ((zipD xs xs).map fun _ => true).all id = true := by simp
      rw [e]
      exact hk
theorem fn_sameN (T : Txt K mg) (O : Eqs P w K mg base) : ∀ n, Fn P w K mg base (9 + n) (He.ga K "_law_same") ["_law_found", "_law_due"] (S_self K n)
  | 0 => fn_same0 T O
  | n + 1 => fn_sameS T O (fn_sameN T O n)
theorem sx_up {n : Nat} {x : D} (h : Sx K n x) : Sx K (n + 1) x := by
  induction h with
  | atm a => exact .atm a
  | tup h hl ih => exact .tup ih hl
  | lst h hl ih => exact .lst ih hl
theorem sx_le {n j : Nat} {x : D} (h : Sx K n x) : Sx K (n + j) x := by
  induction j with
  | zero => exact h
  | succ j ih => exact sx_up ih
end
end LW
end

section
set_option Elab.async false
set_option linter.all false
set_option maxRecDepth 100000
set_option maxHeartbeats 1000000
set_option exponentiation.threshold 10000
namespace LW
open PySem PySem.Spec PyProof.Rows L2 DL MA
local macro_rules | `(tactic| walk_at "d1") => `(tactic| first
  | (with_reducible refine s_seq ?_) | (with_reducible refine s_set ?_) | (with_reducible refine s_ret ?_) | (with_reducible refine s_if ?_) | (with_reducible refine s_fld ?_) | (with_reducible refine s_next ?_) | (with_reducible refine s_par ?_)
  | (with_reducible refine e_var rfl ?_) | (with_reducible refine e_int ?_) | (with_reducible refine e_bl ?_) | (with_reducible refine e_non ?_) | (with_reducible refine e_str ?_) | (with_reducible refine e_ty ?_) | (with_reducible refine e_ref ?_)
  | (with_reducible refine e_op ?_) | (with_reducible refine e_un ?_) | (with_reducible refine e_cb ?_) | (with_reducible refine e_if ?_) | (with_reducible refine e_andV ?_) | (with_reducible refine e_orV ?_) | (with_reducible refine e_notV ?_) | (with_reducible refine e_fld ?_)
  | (with_reducible refine e_call0 ?_) | (with_reducible refine e_meth0 ?_) | (with_reducible refine e_make (dds := []) nilD ?_) | (with_reducible refine e_stat0 ?_)
  | (with_reducible refine a_nil ?_) | (with_reducible refine a_cons ?_) | (with_reducible refine e_tup ?_)
  | (with_reducible refine t_test ?_) | (with_reducible refine t_B ?_) | (with_reducible refine t_and ?_) | (with_reducible refine t_or ?_) | (with_reducible refine t_not ?_)
  | (with_reducible refine ri0 ?_) | (with_reducible refine rb0 ?_) | (with_reducible refine req ?_) | (with_reducible refine rne ?_) | (with_reducible refine reqb ?_) | (with_reducible refine ui ?_)
  | (with_reducible refine c_abs ?_) | (with_reducible refine c_int1 ?_) | (with_reducible refine c_bool1 ?_)
  | (with_reducible refine Exists.intro _ (And.intro rfl ?_)))
local macro_rules | `(tactic| walk_at "d") => `(tactic| repeat (walk_at "d1"; try dsimp only [List.set, wipeD, List.map]))
local macro_rules | `(tactic| walk_at "s") => `(tactic| dsimp only [cxOf, Cx.nox, Cx.wish, startD, List.map, List.length, Nat.reduceAdd, Nat.reduceSub, List.reduceReplicate, HAppend.hAppend, Append.append, List.append])
local macro_rules | `(tactic| walk_at "d1") => `(tactic| first
  | (with_reducible refine fld_top (by assumption) ?_) | (with_reducible refine fld_bottom (by assumption) ?_)
  | (with_reducible refine isnum_num (by assumption) (by assumption) ?_) | (with_reducible refine assh_num (by assumption) ?_) | (with_reducible refine isnum_num (by assumption) (Num.sh _) ?_) | (with_reducible refine assh_num (Num.sh _) ?_) | (with_reducible refine isnum_num (by assumption) (Num.int _) ?_) | (with_reducible refine assh_num (Num.int _) ?_)
  | (with_reducible refine e_Share1 ?_) | (with_reducible refine e_Share2 ?_))
local macro_rules | `(tactic| walk_at "d1") => `(tactic| first | (with_reducible refine r_SN (by assumption) ?_) | (with_reducible refine r_SN (Num.sh _) ?_) | (with_reducible refine r_SN (Num.int _) ?_) | (with_reducible refine u_S ?_))
local macro_rules | `(tactic| walk_at "d1") => `(tactic| first
  | (with_reducible refine fld_number (by assumption) ?_) | (with_reducible refine fld_times (by assumption) ?_) | (with_reducible refine e_Term ?_)
  | (with_reducible refine e_lcU (gin_name (by decide)) ?_) | (with_reducible refine i_rng1 ?_) | (with_reducible refine i_tup ?_) | (with_reducible refine i_list ?_) | (with_reducible refine t_yes ?_) | (with_reducible refine g_name ?_)
  | (with_reducible refine unrc_r3 ?_) | (with_reducible refine unrc_r4 ?_) | (with_reducible refine unr_r3 ?_) | (with_reducible refine unr_r4 ?_) | (with_reducible refine unr_r2 ?_) | (with_reducible refine unrc_cons ?_) | (with_reducible refine unrc_nil ?_) | (with_reducible refine unr_cons ?_) | (with_reducible refine unr_nil ?_) | (with_reducible refine s_forU ?_)
  | (with_reducible refine iteT ?_) | (with_reducible refine iteF ?_) | (with_reducible refine e_chain ?_) | (with_reducible refine And.intro len3 ?_) | (with_reducible refine And.intro len4 ?_) | (with_reducible refine And.intro (by decide) ?_) | (with_reducible refine ite_d1 (by decide) ?_) | (with_reducible refine ite_d0 (by decide) ?_))
local macro_rules | `(tactic| walk_at "d1") => `(tactic| first
  | (with_reducible refine isworth (by assumption) (by assumption) ?_) | (with_reducible refine asterm (by assumption) ?_) | (with_reducible refine isworth (by assumption) (Wth.tm _) ?_) | (with_reducible refine asterm (Wth.tm _) ?_)
  | (with_reducible refine i_zipT ?_) | (with_reducible refine unrc_z3 ?_) | (with_reducible refine e_lcU (gin_tup (gsin_one (by decide) (gsin_one (by decide) gsin_nil))) ?_) | (with_reducible refine g_tup rfl ?_) | (with_reducible refine gs_cons ?_) | (with_reducible refine gs_nil ?_)
  | (with_reducible refine And.intro lenz3 ?_) | (with_reducible refine Exists.intro _ (Exists.intro _ (And.intro rfl ?_)))
  | (with_reducible refine EN.i_enumT ?_) | (with_reducible refine unr_e3 ?_) | (with_reducible refine e_methT (fun _ => rfl) ?_) | (with_reducible refine a_star ?_)
  | (with_reducible refine r_TW (by assumption) ?_) | (with_reducible refine r_TW (Wth.tm _) ?_))
local macro_rules | `(tactic| walk_at "d1") => `(tactic| first | (with_reducible refine Exists.intro _ (Exists.intro _ (And.intro rfl ?_))) | (with_reducible refine And.intro len2' ?_))
local macro_rules | `(tactic| walk_at "d") => `(tactic| repeat (walk_at "d1"; try dsimp only [List.set, wipeD, List.map, Int.reduceAdd]))
local macro_rules | `(tactic| walk_at "d1") => `(tactic| first
  | (with_reducible refine And.intro rfl ?_) | (with_reducible refine ixT0 ?_) | (with_reducible refine ixT1 ?_) | (with_reducible refine ixL0 ?_) | (with_reducible refine ixL1 ?_) | (with_reducible refine ixL2 ?_) | (with_reducible refine ixL3 ?_))
local macro_rules | `(tactic| walk_at "d1") => `(tactic| first | (with_reducible refine isi_SS (by assumption) ?_) | (with_reducible refine isi_TT (by assumption) ?_) | (with_reducible refine isi_RR (by assumption) ?_))
local macro_rules | `(tactic| walk_at "d1") => `(tactic| first | (with_reducible refine s_asg ?_))
/-- below 2 ^ n -/
structure Bn (x : Int) (n : Nat) : Prop where
  lt : x.natAbs < 2 ^ n
theorem Bn.mono {x : Int} {n j : Nat} (h : Bn x n) (hj : n ≤ j) : Bn x j := ⟨Nat.lt_of_lt_of_le h.lt (Nat.pow_le_pow_right (by decide) hj)⟩
theorem Bn.mul {x y : Int} {a b : Nat} (h : Bn x a) (g : Bn y b) : Bn (x * y) (a + b) := ⟨by
  rw [Int.natAbs_mul, Nat.pow_add]
  exact Nat.mul_lt_mul'' h.lt g.lt⟩
theorem Bn.neg {x : Int} {a : Nat} (h : Bn x a) : Bn (-x) a := ⟨by rw [Int.natAbs_neg]; exact h.lt⟩
theorem Bn.add {x y : Int} {a : Nat} (h : Bn x a) (g : Bn y a) : Bn (x + y) (a + 1) := ⟨by
  have h1 := h.lt
  have h2 := g.lt
  have h3 := Int.natAbs_add_le x y
  rw [Nat.pow_succ]
  omega⟩
theorem Bn.sub {x y : Int} {a : Nat} (h : Bn x a) (g : Bn y a) : Bn (x - y) (a + 1) := by
  rw [Int.sub_eq_add_neg]
  exact h.add g.neg
theorem Bn.addL {x y : Int} {a : Nat} (h : Bn x (a + 1)) (g : Bn y a) : Bn (x + y) (a + 1 + 1) := h.add (g.mono (by omega))
theorem bmul {x y : Int} {a b : Nat} (h : Bn x a) (g : Bn y b) (hl : a + b ≤ 900000) : CMulW x y := cmul h.lt g.lt hl
local macro_rules | `(tactic| walk_at "bn") => `(tactic| repeat (first | with_reducible assumption | with_reducible apply Bn.mul | with_reducible apply Bn.sub | with_reducible apply Bn.neg | with_reducible apply Bn.add | with_reducible apply Bn.addL))
local macro_rules | `(tactic| walk_at "d1") => `(tactic| first
  | (with_reducible refine ixT0 ?_) | (with_reducible refine ixT1 ?_) | (with_reducible refine ixT2 ?_) | (with_reducible refine And.intro rfl ?_) | (with_reducible refine And.intro len2' ?_) | (with_reducible refine ri (Cc := CMulW) ?_ ?_; refine bmul (by walk_at "bn") (by walk_at "bn") (by omega)))
theorem len2' {a b : D} : [a, b].length ≤ 100000 := by show 2 ≤ 100000; decide
theorem len1' {a : D} : [a].length ≤ 100000 := by show 1 ≤ 100000; decide
theorem len3' {a b c : D} : [a, b, c].length ≤ 100000 := by show 3 ≤ 100000; decide
theorem len0' : ([] : List D).length ≤ 100000 := by show 0 ≤ 100000; decide
local macro_rules | `(tactic| walk_at "d1") => `(tactic| first
  | (with_reducible refine And.intro len2' ?_) | (with_reducible refine And.intro len3' ?_) | (with_reducible refine And.intro len1' ?_) | (with_reducible refine And.intro len0' ?_))
section
variable {P : Program} {w : World} {K : PySem.W.Frag} {mg : Str → Option Value} {base : Heap}
/-- a fraction: a pair of a top and a bottom above 0 -/
def Fr (n : Nat) (d : D) : Prop := ∃ a b : Int, d = .tup [.int a, .int b] ∧ 0 < b ∧ Bn a n ∧ Bn b n
theorem Fr.mono {n j : Nat} {d : D} (h : Fr n d) (hj : n ≤ j) : Fr j d := let ⟨a, b, e, p, h1, h2⟩ := h; ⟨a, b, e, p, h1.mono hj, h2.mono hj⟩
def Rw (n : Nat) (d : D) : Prop := ∃ c x y z : Int, d = .tup [.int c, .tup [.int x, .int y, .int z]] ∧ Bn c n ∧ Bn x n ∧ Bn y n ∧ Bn z n
theorem unrc_all {g : TG} {tt : TT} {te : TE} {r0 : En} {k : D → Mu → Prop} {m : Mu} (Pd : D → Prop) : ∀ {xs acc : List D}, (∀ x ∈ acc, Pd x) →
    (∀ x ∈ xs, wG K g x r0 m fun r2 m2 => wT K tt r2 m2 fun b m3 => m3 = m ∧ (b = true → wE K te r2 m fun d m4 => Pd d ∧ m4 = m)) →
    (∀ ys, (∀ y ∈ ys, Pd y) → ys.length ≤ acc.length + xs.length → k (.lst ys) m) → UnrC K g tt te r0 k xs acc m
  | [], acc, ha, _, hk => hk acc ha (Nat.le_refl _)
  | x :: xs, acc, ha, h, hk => by
    have h1 := h x (List.mem_cons_self ..)
    refine unrc_cons fun v σ F H Q w iv e p => ?_
    refine h1 v σ F H Q w iv e fun r2 m2 σ2 F2 H2 h2 w2 s2 e2 => p r2 m2 σ2 F2 H2 (h2.mono fun b m3 hb => ?_) w2 s2 e2
    obtain ⟨rfl, hb⟩ := hb
    cases b with
    | false =>
      rw [if_neg (by decide)]
      exact unrc_all Pd ha (fun y hy => h y (List.mem_cons_of_mem _ hy)) fun ys hy hl => hk ys hy (by rw [List.length_cons]; omega)
    | true =>
      rw [if_pos rfl]
      refine (hb rfl).mono fun d m4 hd => ?_
      obtain ⟨hd, rfl⟩ := hd
      refine unrc_all Pd (fun y hy => ?_) (fun y hy => h y (List.mem_cons_of_mem _ hy)) fun ys hy hl => hk ys hy (by rw [List.length_append, List.length_singleton] at hl; rw [List.length_cons]; omega)
      rcases List.mem_append.mp hy with z | z
      · exact ha y z
      · rw [List.mem_singleton.mp z]; exact hd
theorem ite_by {c : Bool} {A B : Prop} (h1 : c = true → A) (h0 : c = false → B) : if c = true then A else B := by
  cases c with
  | true => exact (if_pos rfl).mpr (h1 rfl)
  | false => exact (if_neg Bool.false_ne_true).mpr (h0 rfl)
def S_less : SpD := fun ds m k => ∃ x y n, ds = [x, y] ∧ Fr n x ∧ Fr n y ∧ n ≤ 1000 ∧ ∀ b, k (.bl b) m
theorem sc_law_less : FnScope ["_law_one", "_law_two"] ["_law_one", "_law_two"] (defScope s_law_less) := ⟨rfl, rfl, rfl, by decide +kernel, rfl, by decide +kernel, by decide +kernel⟩
theorem fn_less (T : Txt K mg) : Fn P w K mg base 1 (He.ga K "_law_less") ["_law_one", "_law_two"] S_less := by
  refine fn_of1 (kk := 0) T.F_law_less sc_law_less (fun ds m k h => by obtain ⟨a, n, xs, rfl, _⟩ := h; rfl) (fun _ _ _ _ _ _ us hl => match us, hl with | [_, _], _ => rfl) ?_
  intro cdv A outer s H E hr
  refine ⟨_, (pss_one (ps_ret (pe_cmpR op_lt (pe_op op_mulW (pe_ix ix_seq (pv 0) pe_int (fun _ _ => rfl)) (pe_ix ix_seq (pv 1) pe_int (fun _ _ => rfl))) (pe_op op_mulW (pe_ix ix_seq (pv 1) pe_int (fun _ _ => rfl)) (pe_ix ix_seq (pv 0) pe_int (fun _ _ => rfl))) (nomark _)))), ?_⟩
  intro ds m k hS
  obtain ⟨_, _, n, rfl, ⟨a, b, rfl, hb, h1, h2⟩, ⟨c, d, rfl, hd, h3, h4⟩, hn, hk⟩ := hS
  walk_at "s"
  walk_at "d"
  exact hk _
def S_middle : SpD := fun ds m k => ∃ x y n, ds = [x, y] ∧ Fr n x ∧ Fr n y ∧ ∀ d, Fr (n + 1) d → k d m
theorem sc_law_middle : FnScope ["_law_one", "_law_two"] ["_law_one", "_law_two"] (defScope s_law_middle) := ⟨rfl, rfl, rfl, by decide +kernel, rfl, by decide +kernel, by decide +kernel⟩
theorem fn_middle (T : Txt K mg) : Fn P w K mg base 1 (He.ga K "_law_middle") ["_law_one", "_law_two"] S_middle := by
  refine fn_of1 (kk := 0) T.F_law_middle sc_law_middle (fun ds m k h => by obtain ⟨a, n, xs, rfl, _⟩ := h; rfl) (fun _ _ _ _ _ _ us hl => match us, hl with | [_, _], _ => rfl) ?_
  intro cdv A outer s H E hr
  refine ⟨_, (pss_one (ps_ret (pe_tup (pa_cons (pe_op op_add (pe_ix ix_seq (pv 0) pe_int (fun _ _ => rfl)) (pe_ix ix_seq (pv 1) pe_int (fun _ _ => rfl))) (pa_cons (pe_op op_add (pe_ix ix_seq (pv 0) pe_int (fun _ _ => rfl)) (pe_ix ix_seq (pv 1) pe_int (fun _ _ => rfl))) pa_nil))))), ?_⟩
  intro ds m k hS
  obtain ⟨_, _, n, rfl, ⟨a, b, rfl, hb, h1, h2⟩, ⟨c, d, rfl, hd, h3, h4⟩, hk⟩ := hS
  walk_at "s"
  walk_at "d"
  refine hk _ ⟨_, _, rfl, ?_, ?_, ?_⟩
  · omega
  · walk_at "bn"
  · walk_at "bn"
def S_root : SpD := fun ds m k => ∃ (x y : Int) (n : Nat), ds = [.int x, .int y] ∧ Bn x n ∧ Bn y n ∧ y ≠ 0 ∧ ∀ d, Fr n d → k d m
theorem sc_law_root : FnScope ["_law_low", "_law_high"] ["_law_low", "_law_high"] (defScope s_law_root) := ⟨rfl, rfl, rfl, by decide +kernel, rfl, by decide +kernel, by decide +kernel⟩
theorem fn_root (T : Txt K mg) : Fn P w K mg base 1 (He.ga K "_law_root") ["_law_low", "_law_high"] S_root := by
  refine fn_of1 (kk := 0) T.F_law_root sc_law_root (fun ds m k h => by obtain ⟨a, n, xs, rfl, _⟩ := h; rfl) (fun _ _ _ _ _ _ us hl => match us, hl with | [_, _], _ => rfl) ?_
  intro cdv A outer s H E hr
  refine ⟨_, (pss_one (ps_ret (pe_ifExp (pt_cmpR op_gt (pv 1) pe_int (nomark _)) (pe_tup (pa_cons (pe_un un_neg (pv 0)) (pa_cons (pv 1) pa_nil))) (pe_tup (pa_cons (pv 0) (pa_cons (pe_un un_neg (pv 1)) pa_nil)))))), ?_⟩
  intro ds m k hS
  obtain ⟨x, y, n, rfl, h1, h2, h0, hk⟩ := hS
  walk_at "s"
  walk_at "d"
  by_cases h : 0 < y
  · refine ite_d1 (by simpa using h) ?_
    walk_at "d"
    refine hk _ ⟨_, _, rfl, h, ?_, ?_⟩ <;> walk_at "bn"
  · refine ite_d0 (by simpa using h) ?_
    walk_at "d"
    refine hk _ ⟨_, _, rfl, by omega, ?_, ?_⟩ <;> walk_at "bn"
def S_det : SpD := fun ds m k => ∃ (a0 a1 a2 b0 b1 b2 c0 c1 c2 : Int) (n : Nat), ds = [.tup [.int a0, .int a1, .int a2], .tup [.int b0, .int b1, .int b2], .tup [.int c0, .int c1, .int c2]] ∧ (Bn a0 n ∧ Bn a1 n ∧ Bn a2 n) ∧ (Bn b0 n ∧ Bn b1 n ∧ Bn b2 n) ∧ (Bn c0 n ∧ Bn c1 n ∧ Bn c2 n) ∧ n ≤ 1000 ∧ ∀ d, Bn d (n + (n + n + 1) + 1 + 1) → k (.int d) m
theorem sc_law_det : FnScope ["_law_a", "_law_b", "_law_c", "_law_found"] ["_law_a", "_law_b", "_law_c"] (defScope s_law_det) := ⟨rfl, rfl, rfl, by decide +kernel, rfl, by decide +kernel, by decide +kernel⟩
theorem fn_det (T : Txt K mg) : Fn P w K mg base 1 (He.ga K "_law_det") ["_law_a", "_law_b", "_law_c"] S_det := by
  refine fn_of1 (kk := 0) T.F_law_det sc_law_det (fun ds m k h => by obtain ⟨a0, a1, a2, b0, b1, b2, c0, c1, c2, n, rfl, _⟩ := h; rfl) (fun _ _ _ _ _ _ us hl => match us, hl with | [_, _, _], _ => rfl) ?_
  intro cdv A outer s H E hr
  refine ⟨_, (pss_cons (ps_set (i := 3) sc_law_det.nd rfl (.inl rfl) (pe_op op_mulW (pe_ix ix_seq (pv 0) pe_int (fun _ _ => rfl)) (pe_op op_sub (pe_op op_mulW (pe_ix ix_seq (pv 1) pe_int (fun _ _ => rfl)) (pe_ix ix_seq (pv 2) pe_int (fun _ _ => rfl))) (pe_op op_mulW (pe_ix ix_seq (pv 1) pe_int (fun _ _ => rfl)) (pe_ix ix_seq (pv 2) pe_int (fun _ _ => rfl))))))
      (pss_cons (ps_set (i := 3) sc_law_det.nd rfl (.inl rfl) (pe_op op_sub (pv 3) (pe_op op_mulW (pe_ix ix_seq (pv 0) pe_int (fun _ _ => rfl)) (pe_op op_sub (pe_op op_mulW (pe_ix ix_seq (pv 1) pe_int (fun _ _ => rfl)) (pe_ix ix_seq (pv 2) pe_int (fun _ _ => rfl))) (pe_op op_mulW (pe_ix ix_seq (pv 1) pe_int (fun _ _ => rfl)) (pe_ix ix_seq (pv 2) pe_int (fun _ _ => rfl)))))))
      (pss_one (ps_ret (pe_op op_add (pv 3) (pe_op op_mulW (pe_ix ix_seq (pv 0) pe_int (fun _ _ => rfl)) (pe_op op_sub (pe_op op_mulW (pe_ix ix_seq (pv 1) pe_int (fun _ _ => rfl)) (pe_ix ix_seq (pv 2) pe_int (fun _ _ => rfl))) (pe_op op_mulW (pe_ix ix_seq (pv 1) pe_int (fun _ _ => rfl)) (pe_ix ix_seq (pv 2) pe_int (fun _ _ => rfl)))))))))), ?_⟩
  intro ds m k hS
  obtain ⟨a0, a1, a2, b0, b1, b2, c0, c1, c2, n, rfl, ⟨ha0, ha1, ha2⟩, ⟨hb0, hb1, hb2⟩, ⟨hc0, hc1, hc2⟩, hn, hk⟩ := hS
  walk_at "s"
  walk_at "d"
  exact hk _ (Bn.addL (Bn.sub (by walk_at "bn") (by walk_at "bn")) (by walk_at "bn"))
def S_line : SpD := fun ds m k => ∃ (rows : List D) (at_ : Int) (n : Nat), ds = [.lst rows, .int at_] ∧ (at_ = 0 ∨ at_ = 1 ∨ at_ = 2) ∧ rows.length < 1000 ∧ (∀ x ∈ rows, Rw n x) ∧ ∀ b ys, m b = none → (∀ y ∈ ys, Fr n y) → ys.length ≤ rows.length → k (.ref b) (updM m b (.lst ys))
theorem sc_law_line : FnScope ["_law_rows", "_law_at", "_law_number_here", "_law_times"] ["_law_rows", "_law_at"] (defScope s_law_line) := ⟨rfl, rfl, rfl, by decide +kernel, rfl, by decide +kernel, by decide +kernel⟩
theorem fn_line (T : Txt K mg) (Or : Fn P w K mg base 1 (He.ga K "_law_root") ["_law_low", "_law_high"] S_root) : Fn P w K mg base 2 (He.ga K "_law_line") ["_law_rows", "_law_at"] S_line := by
  obtain ⟨⟨_, G_law_root, b_law_root⟩, k_law_root⟩ := Or
  refine fn_of1 (kk := 1) T.F_law_line sc_law_line (fun ds m k h => by obtain ⟨a, n, xs, rfl, _⟩ := h; rfl) (fun _ _ _ _ _ _ us hl => match us, hl with | [_, _], _ => rfl) ?_
  intro cdv A outer s H E hr
  refine ⟨_, (pss_one (ps_ret (pe_lc (own := [("_law_number_here", 2), ("_law_times", 3)]) rfl sc_law_line.nd (pi_list (pv 0)) (blkOk_by (own := [("_law_number_here", 2), ("_law_times", 3)]) (N := ["_law_rows", "_law_at", "_law_number_here", "_law_times"]) (sc := defScope s_law_line) (by decide +kernel)) (fun _ _ _ _ _ => (pg_tupK2 (K := K) rfl (pg_tup rfl (pgs_cons (pg_name (i := 2) sc_law_line.nd rfl (.inl rfl)) (pgs_cons (pg_name (i := 3) sc_law_line.nd rfl (.inl rfl)) pgs_nil))))) (fun _ _ _ _ _ => (pts_one (pt_cmpR op_ne (pe_ix (ix_seqK (K := K) rfl) (pv 3) (pv 1) (fun _ _ => rfl)) pe_int (nomark _)))) (fun _ _ _ _ _ => (pe_call G_law_root (hr.mono (by decide)) rfl T.g_law_root k_law_root b_law_root .nil pass0 (pa_cons (pv 2) (pa_cons (pe_ix (ix_seqK (K := K) rfl) (pv 3) (pv 1) (fun _ _ => rfl)) pa_nil))))))), ?_⟩
  intro ds m k hS
  obtain ⟨rows, at_, n, rfl, ha, hl, hr, hk⟩ := hS
  walk_at "s"
  rcases ha with rfl | rfl | rfl
  all_goals
    refine s_ret (e_lcUM (gin_tup (gsin_one (by decide) (gsin_one (by decide) gsin_nil))) ?_)
    dsimp only [wipeD, List.set]
    walk_at "d"
    refine ⟨by omega, unrc_all (Fr n) (by simp) (fun x hx => ?_) fun ys h1 h2 => ⟨ys, rfl, fun b hb => hk b ys hb h1 (by simpa using h2)⟩⟩
    obtain ⟨c, x, y, z, rfl, hc, h1, h2, h3⟩ := hr x hx
    walk_at "d"
    intro hb
    walk_at "d"
    refine ⟨_, _, n, rfl, by assumption, by assumption, by simpa using hb, fun d hd => ?_⟩
    exact ⟨hd, rfl⟩
def S_meet : SpD := fun ds m k => ∃ (one two : D) (at_ ot : Int) (n : Nat), ds = [one, two, .int at_, .int ot] ∧ (at_ = 0 ∧ ot = 1 ∨ at_ = 0 ∧ ot = 2 ∨ at_ = 1 ∧ ot = 2) ∧ Rw n one ∧ Rw n two ∧ n ≤ 1000 ∧ ∀ b zs, m b = none → (∀ z ∈ zs, Fr (n + n + 1) z) → zs.length ≤ 1 → k (.ref b) (updM m b (.lst zs))
theorem sc_law_meet : FnScope ["_law_one", "_law_two", "_law_at", "_law_other", "_law_a", "_law_b", "_law_high"] ["_law_one", "_law_two", "_law_at", "_law_other"] (defScope s_law_meet) := ⟨rfl, rfl, rfl, by decide +kernel, rfl, by decide +kernel, by decide +kernel⟩
theorem fn_meet (T : Txt K mg) (Or : Fn P w K mg base 1 (He.ga K "_law_root") ["_law_low", "_law_high"] S_root) : Fn P w K mg base 2 (He.ga K "_law_meet") ["_law_one", "_law_two", "_law_at", "_law_other"] S_meet := by
  obtain ⟨⟨_, G_law_root, b_law_root⟩, k_law_root⟩ := Or
  refine fn_of1 (kk := 1) T.F_law_meet sc_law_meet (fun ds m k h => by obtain ⟨one, two, a, o, n, rfl, _⟩ := h; rfl) (fun _ _ _ _ _ _ us hl => match us, hl with | [_, _, _, _], _ => rfl) ?_
  intro cdv A outer s H E hr
  refine ⟨_, (pss_cons (ps_par (i := 4) (j := 5) rfl sc_law_meet.nd rfl rfl (by decide) rfl rfl (pa_cons (pe_ix ix_seq (pe_ix ix_seq (pv 0) pe_int (fun _ _ => rfl)) (pv 3) (fun _ _ => rfl)) (pa_cons (pe_ix ix_seq (pe_ix ix_seq (pv 1) pe_int (fun _ _ => rfl)) (pv 3) (fun _ _ => rfl)) pa_nil)) (by rfl))
      (pss_cons (ps_set (i := 6) sc_law_meet.nd rfl (.inl rfl) (pe_op op_sub (pe_op op_mulW (pe_ix ix_seq (pe_ix ix_seq (pv 0) pe_int (fun _ _ => rfl)) (pv 2) (fun _ _ => rfl)) (pv 5)) (pe_op op_mulW (pe_ix ix_seq (pe_ix ix_seq (pv 1) pe_int (fun _ _ => rfl)) (pv 2) (fun _ _ => rfl)) (pv 4))))
      (pss_cons (ps_if (PW.pt (pw_or (pt_cmpR op_eq (pv 4) pe_int (nomark _)) (pw_or (pt_cmpR op_eq (pv 5) pe_int (nomark _)) (pw_or1 (pt_cmpR op_eq (pv 6) pe_int (nomark _)))))) (pss_one (ps_ret (pe_lst pa_nil))) pss_nil)
      (pss_one (ps_ret (pe_lst (pa_cons (pe_call G_law_root (hr.mono (by decide)) rfl T.g_law_root k_law_root b_law_root .nil pass0 (pa_cons (pe_op op_sub (pe_op op_mulW (pe_ix ix_seq (pv 0) pe_int (fun _ _ => rfl)) (pv 5)) (pe_op op_mulW (pe_ix ix_seq (pv 1) pe_int (fun _ _ => rfl)) (pv 4))) (pa_cons (pv 6) pa_nil))) pa_nil))))))), ?_⟩
  intro ds m k hS
  obtain ⟨_, _, at_, ot, n, rfl, ha, ⟨c, x, y, z, rfl, hc, h1, h2, h3⟩, ⟨c', x', y', z', rfl, hc', h1', h2', h3'⟩, hn, hk⟩ := hS
  walk_at "s"
  have hnil : ∀ {r : En} {ke : KS}, ke.rt = k → wS K (tRet (tLst tNil)) r m ke := fun e => s_ret (e_lstM (a_nil ⟨len0', fun b hb => by rw [e]; exact hk b [] hb (by simp) (by simp)⟩))
  rcases ha with ⟨rfl, rfl⟩ | ⟨rfl, rfl⟩ | ⟨rfl, rfl⟩
  all_goals
    walk_at "d"
    refine ite_by (fun _ => iteT (hnil rfl)) (fun e1 => ?_)
    walk_at "d"
    refine ite_by (fun _ => iteT (hnil rfl)) (fun e2 => ?_)
    walk_at "d"
    refine ite_by (fun _ => hnil rfl) (fun e3 => ?_)
    walk_at "d"
    refine e_lstM ?_
    walk_at "d"
    refine ⟨_, _, n + n + 1, rfl, by walk_at "bn", by walk_at "bn", by simpa using e3, fun d hd => ?_⟩
    walk_at "d"
    intro b hb
    exact hk b [d] hb (by simpa using hd) (by simp)
def S_fixed : SpD := fun ds m k => ∃ (rows : List D) (at_ : Int) (x : D) (n j : Nat), ds = [.lst rows, .int at_, x] ∧ (at_ = 0 ∨ at_ = 1 ∨ at_ = 2) ∧ rows.length < 1000 ∧ (∀ x ∈ rows, Rw n x) ∧ Fr j x ∧ n ≤ 1000 ∧ j ≤ 1000 ∧ ∀ ys, (∀ y ∈ ys, Rw (n + j + 1) y) → ys.length ≤ rows.length → k (.lst ys) m
theorem sc_law_fixed : FnScope ["_law_rows", "_law_at", "_law_fraction", "_law_found", "_law_number_here", "_law_times", "_law_upper", "_law_lower", "_law_rest", "_law_k"] ["_law_rows", "_law_at", "_law_fraction"] (defScope s_law_fixed) := ⟨rfl, rfl, rfl, by decide +kernel, rfl, by decide +kernel, by decide +kernel⟩
theorem fn_fixed (T : Txt K mg) : Fn P w K mg base 1 (He.ga K "_law_fixed") ["_law_rows", "_law_at", "_law_fraction"] S_fixed := by
  refine fn_of1 (kk := 0) T.F_law_fixed sc_law_fixed (fun ds m k h => by obtain ⟨a, n, xs, _, _, rfl, _⟩ := h; rfl) (fun _ _ _ _ _ _ us hl => match us, hl with | [_, _, _], _ => rfl) ?_
  intro cdv A outer s H E hr
  refine ⟨_, (pss_cons (ps_set (i := 3) sc_law_fixed.nd rfl (.inl rfl) (pe_lst pa_nil))
      (pss_cons (ps_for PassesOwn.never rfl (pi_list (pv 0)) (pg_tup rfl (pgs_cons (pg_name (i := 4) sc_law_fixed.nd rfl (.inl rfl)) (pgs_cons (pg_name (i := 5) sc_law_fixed.nd rfl (.inr rfl)) pgs_nil))) (pss_cons (ps_asg (pv 2) (pg_tup rfl (pgs_cons (pg_name (i := 6) sc_law_fixed.nd rfl (.inl rfl)) (pgs_cons (pg_name (i := 7) sc_law_fixed.nd rfl (.inr rfl)) pgs_nil))))
      (pss_cons (ps_set (i := 8) sc_law_fixed.nd rfl (.inl rfl) (pe_callTy call_tuple_of rfl T.n_tuple (by decide +kernel) (pa_cons (pe_lc (own := [("_law_k", 9)]) rfl sc_law_fixed.nd (pi_range1 rfl T.n_range (pa_cons pe_int pa_nil)) (blkOk_by (own := [("_law_k", 9)]) (N := ["_law_rows", "_law_at", "_law_fraction", "_law_found", "_law_number_here", "_law_times", "_law_upper", "_law_lower", "_law_rest", "_law_k"]) (sc := defScope s_law_fixed) (by decide +kernel)) (fun _ _ _ _ _ => (pg_name (i := 9) sc_law_fixed.nd rfl (.inl rfl))) (fun _ _ _ _ _ => pts_nil) (fun _ _ _ _ _ => (pe_ifExp (pt_cmpR op_ne (pv 9) (pv 1) (nomark _)) (pe_op op_mulW (pv 7) (pe_ix (ix_seqK (K := K) rfl) (pv 5) (pv 9) (fun _ _ => rfl))) pe_int))) pa_nil)))
      (pss_one (ps_expr (pe_bm PySem.F.plainAttrs_list PySem.F.slot_list_append PySem.F.type_list_append mt_append (pv 3) (pa_cons (pe_tup (pa_cons (pe_op op_add (pe_op op_mulW (pv 4) (pv 7)) (pe_op op_mulW (pe_ix ix_seq (pv 5) (pv 1) (fun _ _ => rfl)) (pv 6))) (pa_cons (pv 8) pa_nil))) pa_nil)))))))
      (pss_one (ps_ret (pv 3))))), ?_⟩
  intro ds m k hS
  obtain ⟨rows, at_, _, n, j, rfl, ha, hl, hrw, ⟨fa, fb, rfl, hfb, hf1, hf2⟩, hn, hj, hk⟩ := hS
  walk_at "s"
  refine s_seq (s_set (e_lstM (a_nil ⟨len0', fun p hp => ?_⟩)))
  dsimp only [List.set]
  refine s_seq (s_forU (i_list (e_var rfl ⟨rows, rfl, ?_⟩)))
  refine unr_idx (i := 0) (fun i r' m' => ∃ (acc : List D) (x4 x5 x6 x7 x8 x9 : Option D), m' = updM m p (.lst acc) ∧ r' = [some (.lst rows), some (.int at_), some (.tup [.int fa, .int fb]), some (.ref p), x4, x5, x6, x7, x8, x9] ∧ acc.length ≤ i ∧ ∀ y ∈ acc, Rw (n + j + 1) y) ⟨[], none, none, none, none, none, none, rfl, rfl, Nat.le_refl _, by simp⟩ ?_ ?_
  · rintro i x r' m' hi ⟨acc, x4, x5, x6, x7, x8, x9, rfl, rfl, hac, hrow⟩
    obtain ⟨c, x, y, z, rfl, hc, h1, h2, h3⟩ := hrw x (List.mem_of_getElem? hi)
    have hil : i < rows.length := (List.getElem?_eq_some_iff.mp hi).1
    have hz : Bn 0 (n + j + 1) := ⟨by show 0 < _; exact Nat.two_pow_pos _⟩
    rcases ha with rfl | rfl | rfl
    all_goals
      walk_at "d"
      dsimp only [List.nil_append, List.cons_append]
      refine c_tuple ?_
      walk_at "d"
      refine s_app (e_var rfl ⟨p, acc, rfl, updM_same, ?_⟩)
      walk_at "d"
      refine ⟨acc, updM_same, by omega, ?_⟩
      rw [updM_updM]
      refine ⟨_, _, _, _, _, _, _, rfl, rfl, by rw [List.length_append, List.length_singleton]; omega, fun y hy => ?_⟩
      rcases List.mem_append.mp hy with q | q
      · exact hrow y q
      · rw [List.mem_singleton.mp q]
        refine ⟨_, _, _, _, rfl, ?_, ?_, ?_, ?_⟩ <;> first | exact hz | exact (Bn.mul hf2 (by assumption)).mono (by omega) | (walk_at "bn"; done)
  · rintro r' m' ⟨acc, x4, x5, x6, x7, x8, x9, rfl, rfl, hac, hrow⟩
    rw [Nat.zero_add] at hac
    refine s_frz (i := 3) rfl updM_same ?_
    rw [del_upd hp]
    dsimp only [List.set]
    walk_at "d"
    exact hk _ hrow hac
/-! ### plane, triple, room -/
theorem take_mem {rows : List D} {i : Nat} {x : D} (h : x ∈ rows.take i) : x ∈ rows := List.mem_of_mem_take h
def S_plane : SpD := fun ds m k => ∃ (rows : List D) (at_ ot : Int) (n : Nat), ds = [.lst rows, .int at_, .int ot] ∧ (at_ = 0 ∧ ot = 1 ∨ at_ = 0 ∧ ot = 2 ∨ at_ = 1 ∧ ot = 2) ∧ rows.length < 100 ∧ (∀ x ∈ rows, Rw n x) ∧ n ≤ 1000 ∧ ∀ ys, (∀ y ∈ ys, Fr (n + n + 1) y) → ys.length ≤ rows.length + rows.length * rows.length → k (.lst ys) m
theorem sc_law_plane : FnScope ["_law_rows", "_law_at", "_law_other", "_law_found", "_law_k", "_law_one", "_law_two", "_law_row_here"] ["_law_rows", "_law_at", "_law_other"] (defScope s_law_plane) := ⟨rfl, rfl, rfl, by decide +kernel, rfl, by decide +kernel, by decide +kernel⟩
theorem fn_plane (T : Txt K mg) (Ol : Fn P w K mg base 2 (He.ga K "_law_line") ["_law_rows", "_law_at"] S_line) (Om : Fn P w K mg base 2 (He.ga K "_law_meet") ["_law_one", "_law_two", "_law_at", "_law_other"] S_meet) : Fn P w K mg base 3 (He.ga K "_law_plane") ["_law_rows", "_law_at", "_law_other"] S_plane := by
  obtain ⟨⟨_, G_law_line, b_law_line⟩, k_law_line⟩ := Ol
  obtain ⟨⟨_, G_law_meet, b_law_meet⟩, k_law_meet⟩ := Om
  refine fn_of1 (kk := 2) T.F_law_plane sc_law_plane (fun ds m k h => by obtain ⟨a, n, xs, _, rfl, _⟩ := h; rfl) (fun _ _ _ _ _ _ us hl => match us, hl with | [_, _, _], _ => rfl) ?_
  intro cdv A outer s H E hr
  refine ⟨_, (pss_cons (ps_set (i := 3) sc_law_plane.nd rfl (.inl rfl) (pe_call G_law_line (hr.mono (by decide)) rfl T.g_law_line k_law_line b_law_line .nil pass0 (pa_cons (pe_lc (own := [("_law_row_here", 7)]) rfl sc_law_plane.nd (pi_list (pv 0)) (blkOk_by (own := [("_law_row_here", 7)]) (N := ["_law_rows", "_law_at", "_law_other", "_law_found", "_law_k", "_law_one", "_law_two", "_law_row_here"]) (sc := defScope s_law_plane) (by decide +kernel)) (fun _ _ _ _ _ => (pg_name (i := 7) sc_law_plane.nd rfl (.inl rfl))) (fun _ _ _ _ _ => (pts_one (pt_cmpR op_eq (pe_ix (ix_seqK (K := K) rfl) (pe_ix (ix_seqK (K := K) rfl) (pv 7) pe_int (fun _ _ => rfl)) (pv 2) (fun _ _ => rfl)) pe_int (nomark _)))) (fun _ _ _ _ _ => (pv 7))) (pa_cons (pv 1) pa_nil))))
      (pss_cons (ps_for PassesOwn.never rfl (pi_enum rfl T.n_enumerate (pa_cons (pv 0) pa_nil)) (pg_tup rfl (pgs_cons (pg_name (i := 4) sc_law_plane.nd rfl (.inl rfl)) (pgs_cons (pg_name (i := 5) sc_law_plane.nd rfl (.inl rfl)) pgs_nil))) (pss_one (ps_for PassesOwn.never rfl (pi_list (pe_slice sl_list (pv 0) po_none (po_some (pv 4)))) (pg_name (i := 6) sc_law_plane.nd rfl (.inl rfl)) (pss_one (ps_expr (pe_bm PySem.F.plainAttrs_list PySem.F.slot_list_extend PySem.F.type_list_extend mt_extend (pv 3) (pa_cons (pe_call G_law_meet (hr.mono (by decide)) rfl T.g_law_meet k_law_meet b_law_meet .nil pass0 (pa_cons (pv 5) (pa_cons (pv 6) (pa_cons (pv 1) (pa_cons (pv 2) pa_nil))))) pa_nil)))))))
      (pss_one (ps_ret (pv 3))))), ?_⟩
  intro ds m k hS
  obtain ⟨rows, at_, ot, n, rfl, ha, hl, hrw, hn, hk⟩ := hS
  walk_at "s"
  rcases ha with ⟨rfl, rfl⟩ | ⟨rfl, rfl⟩ | ⟨rfl, rfl⟩
  all_goals
    walk_at "d"
    refine ⟨by omega, unrc_all (Rw n) (by simp) (fun x hx => ?_) fun rs h1 h2 => ?_⟩
    · obtain ⟨c, x, y, z, rfl, hc, h1, h2, h3⟩ := hrw x hx
      walk_at "d"
      intro _
      walk_at "d"
      exact ⟨⟨c, x, y, z, rfl, hc, h1, h2, h3⟩, rfl⟩
    rw [List.length_nil, Nat.zero_add] at h2
    walk_at "d"
    refine ⟨rs, _, n, rfl, by omega, by omega, h1, fun p ys0 hp hy0 hl0 => ?_⟩
    walk_at "d"
    refine i_enumL ?_
    walk_at "d"
    refine unr_idx (i := 0) (fun i r' m' => ∃ (acc : List D) (x4 x5 x6 x7 : Option D), Sub (updM m p (.lst acc)) m' ∧ r' = [some (.lst rows), some (.int _), some (.int _), some (.ref p), x4, x5, x6, x7] ∧ acc.length ≤ rows.length + i * rows.length ∧ ∀ y ∈ acc, Fr (n + n + 1) y) ⟨ys0, none, none, none, none, Sub.refl, rfl, by omega, fun y hy => (hy0 y hy).mono (by omega)⟩ ?_ ?_
    · rintro i x r' m' hi ⟨acc, x4, x5, x6, x7, hsb, rfl, hac, hrow⟩
      obtain ⟨row, hi2, rfl⟩ := EN.enumD_get hi
      have hil : i < rows.length := (List.getElem?_eq_some_iff.mp hi2).1
      have hro := hrw row (List.mem_of_getElem? hi2)
      rw [Nat.zero_add] at hac
      have hm1 : (i + 1) * rows.length = i * rows.length + rows.length := Nat.succ_mul _ _
      have hm2 : (i + 1) * rows.length ≤ 100 * 100 := Nat.mul_le_mul (by omega) (by omega)
      refine wG.drop hsb ?_
      walk_at "d"
      refine e_sl2 ?_
      walk_at "d"
      refine unr_idx (i := 0) (fun j r' m' => ∃ (acc : List D) (x6 x7 : Option D), Sub (updM m p (.lst acc)) m' ∧ r' = [some (.lst rows), some (.int _), some (.int _), some (.ref p), some (.int (i : Int)), some row, x6, x7] ∧ acc.length ≤ rows.length + i * rows.length + j ∧ ∀ y ∈ acc, Fr (n + n + 1) y) ⟨acc, _, _, Sub.refl, rfl, by omega, hrow⟩ ?_ ?_
      · rintro j x r' m' hj ⟨acc, x6, x7, hsb, rfl, hac, hrow⟩
        have htw := hrw x (take_mem (List.mem_of_getElem? hj))
        have hjl : j < (rows.take i).length := (List.getElem?_eq_some_iff.mp hj).1
        rw [List.length_take] at hjl
        refine wG.drop hsb ?_
        walk_at "d"
        refine s_ext (e_var rfl ⟨p, acc, rfl, updM_same, ?_⟩)
        walk_at "d"
        refine ⟨row, x, _, _, n, rfl, by omega, hro, htw, hn, fun b zs hb hz hzl => ?_⟩
        refine ⟨b, acc, zs, rfl, ?_, updM_same, by omega, ?_⟩
        · rw [updM_ne (fun e => by rw [← e, updM_same] at hb; cases hb)]; exact updM_same
        refine ⟨acc ++ zs, _, _, sub_ext hb, rfl, by rw [List.length_append]; omega, fun y hy => ?_⟩
        rcases List.mem_append.mp hy with q | q
        · exact hrow y q
        · exact hz y q
      · rintro r' m' ⟨acc, x6, x7, hsb, rfl, hac, hrow⟩
        rw [List.length_take] at hac
        exact ⟨acc, _, _, _, _, hsb, rfl, by rw [Nat.zero_add]; omega, hrow⟩
    · rintro r' m' ⟨acc, x4, x5, x6, x7, hsb, rfl, hac, hrow⟩
      rw [EN.enumD_len, Nat.zero_add] at hac
      refine wS.drop hsb ?_
      refine s_frz (i := 3) rfl updM_same ?_
      rw [del_upd hp]
      dsimp only [List.set]
      walk_at "d"
      exact hk _ hrow hac
def S_triple : SpD := fun ds m k => ∃ (one two thr : D) (n : Nat), ds = [one, two, thr] ∧ Rw n one ∧ Rw n two ∧ Rw n thr ∧ n ≤ 1000 ∧ ∀ b zs, m b = none → (∀ z ∈ zs, Fr (n + (n + n + 1) + 1 + 1) z) → zs.length ≤ 1 → k (.ref b) (updM m b (.lst zs))
theorem sc_law_triple : FnScope ["_law_one", "_law_two", "_law_three", "_law_a", "_law_b", "_law_c", "_law_d", "_law_e", "_law_f", "_law_high", "_law_row_here"] ["_law_one", "_law_two", "_law_three"] (defScope s_law_triple) := ⟨rfl, rfl, rfl, by decide +kernel, rfl, by decide +kernel, by decide +kernel⟩
theorem fn_triple (T : Txt K mg) (Or : Fn P w K mg base 1 (He.ga K "_law_root") ["_law_low", "_law_high"] S_root) (Od : Fn P w K mg base 1 (He.ga K "_law_det") ["_law_a", "_law_b", "_law_c"] S_det) : Fn P w K mg base 2 (He.ga K "_law_triple") ["_law_one", "_law_two", "_law_three"] S_triple := by
  obtain ⟨⟨_, G_law_root, b_law_root⟩, k_law_root⟩ := Or
  obtain ⟨⟨_, G_law_det, b_law_det⟩, k_law_det⟩ := Od
  refine fn_of1 (kk := 1) T.F_law_triple sc_law_triple (fun ds m k h => by obtain ⟨one, two, a, n, rfl, _⟩ := h; rfl) (fun _ _ _ _ _ _ us hl => match us, hl with | [_, _, _], _ => rfl) ?_
  intro cdv A outer s H E hr
  refine ⟨_, (pss_cons (ps_asg (pe_lc (own := [("_law_row_here", 10)]) rfl sc_law_triple.nd (pi_tup (pe_tup (pa_cons (pv 0) (pa_cons (pv 1) (pa_cons (pv 2) pa_nil))))) (blkOk_by (own := [("_law_row_here", 10)]) (N := ["_law_one", "_law_two", "_law_three", "_law_a", "_law_b", "_law_c", "_law_d", "_law_e", "_law_f", "_law_high", "_law_row_here"]) (sc := defScope s_law_triple) (by decide +kernel)) (fun _ _ _ _ _ => (pg_name (i := 10) sc_law_triple.nd rfl (.inl rfl))) (fun _ _ _ _ _ => pts_nil) (fun _ _ _ _ _ => (pe_tup (pa_cons (pe_ix (ix_seqK (K := K) rfl) (pe_ix (ix_seqK (K := K) rfl) (pv 10) pe_int (fun _ _ => rfl)) pe_int (fun _ _ => rfl)) (pa_cons (pe_ix (ix_seqK (K := K) rfl) (pe_ix (ix_seqK (K := K) rfl) (pv 10) pe_int (fun _ _ => rfl)) pe_int (fun _ _ => rfl)) (pa_cons (pe_ix (ix_seqK (K := K) rfl) (pv 10) pe_int (fun _ _ => rfl)) pa_nil)))))) (pg_lst rfl (pgs_cons (pg_name (i := 3) sc_law_triple.nd rfl (.inl rfl)) (pgs_cons (pg_name (i := 4) sc_law_triple.nd rfl (.inl rfl)) (pgs_cons (pg_name (i := 5) sc_law_triple.nd rfl (.inl rfl)) pgs_nil)))))
      (pss_cons (ps_asg (pe_lc (own := [("_law_row_here", 10)]) rfl sc_law_triple.nd (pi_tup (pe_tup (pa_cons (pv 0) (pa_cons (pv 1) (pa_cons (pv 2) pa_nil))))) (blkOk_by (own := [("_law_row_here", 10)]) (N := ["_law_one", "_law_two", "_law_three", "_law_a", "_law_b", "_law_c", "_law_d", "_law_e", "_law_f", "_law_high", "_law_row_here"]) (sc := defScope s_law_triple) (by decide +kernel)) (fun _ _ _ _ _ => (pg_name (i := 10) sc_law_triple.nd rfl (.inl rfl))) (fun _ _ _ _ _ => pts_nil) (fun _ _ _ _ _ => (pe_tup (pa_cons (pe_ix (ix_seqK (K := K) rfl) (pe_ix (ix_seqK (K := K) rfl) (pv 10) pe_int (fun _ _ => rfl)) pe_int (fun _ _ => rfl)) (pa_cons (pe_ix (ix_seqK (K := K) rfl) (pe_ix (ix_seqK (K := K) rfl) (pv 10) pe_int (fun _ _ => rfl)) pe_int (fun _ _ => rfl)) (pa_cons (pe_ix (ix_seqK (K := K) rfl) (pe_ix (ix_seqK (K := K) rfl) (pv 10) pe_int (fun _ _ => rfl)) pe_int (fun _ _ => rfl)) pa_nil)))))) (pg_lst rfl (pgs_cons (pg_name (i := 6) sc_law_triple.nd rfl (.inl rfl)) (pgs_cons (pg_name (i := 7) sc_law_triple.nd rfl (.inl rfl)) (pgs_cons (pg_name (i := 8) sc_law_triple.nd rfl (.inl rfl)) pgs_nil)))))
      (pss_cons (ps_set (i := 9) sc_law_triple.nd rfl (.inl rfl) (pe_call G_law_det (hr.mono (by decide)) rfl T.g_law_det k_law_det b_law_det .nil pass0 (pa_cons (pv 6) (pa_cons (pv 7) (pa_cons (pv 8) pa_nil)))))
      (pss_one (ps_ret (pe_ifExp (pt_cmpR op_ne (pv 9) pe_int (nomark _)) (pe_lst (pa_cons (pe_call G_law_root (hr.mono (by decide)) rfl T.g_law_root k_law_root b_law_root .nil pass0 (pa_cons (pe_call G_law_det (hr.mono (by decide)) rfl T.g_law_det k_law_det b_law_det .nil pass0 (pa_cons (pv 3) (pa_cons (pv 4) (pa_cons (pv 5) pa_nil)))) (pa_cons (pv 9) pa_nil))) pa_nil)) (pe_lst pa_nil))))))), ?_⟩
  intro ds m k hS
  obtain ⟨_, _, _, n, rfl, ⟨c1, x1, y1, z1, rfl, hc1, hx1, hy1, hz1⟩, ⟨c2, x2, y2, z2, rfl, hc2, hx2, hy2, hz2⟩, ⟨c3, x3, y3, z3, rfl, hc3, hx3, hy3, hz3⟩, hn, hk⟩ := hS
  walk_at "s"
  walk_at "d"
  dsimp only [List.nil_append, List.cons_append]
  refine g_lst rfl ?_
  walk_at "d"
  dsimp only [List.nil_append, List.cons_append]
  refine g_lst rfl ?_
  walk_at "d"
  refine ⟨_, _, _, _, _, _, _, _, _, n, rfl, ⟨hy1, hz1, hx1⟩, ⟨hy2, hz2, hx2⟩, ⟨hy3, hz3, hx3⟩, hn, fun dh hdh => ?_⟩
  walk_at "d"
  refine ite_by (fun e => ?_) (fun e => ?_)
  · refine e_lstM ?_
    walk_at "d"
    refine ⟨_, _, _, _, _, _, _, _, _, n, rfl, ⟨hy1, hz1, hc1⟩, ⟨hy2, hz2, hc2⟩, ⟨hy3, hz3, hc3⟩, hn, fun dl hdl => ?_⟩
    walk_at "d"
    refine ⟨dl, dh, _, rfl, hdl, hdh, by simpa using e, fun d hd => ?_⟩
    walk_at "d"
    intro b hb
    exact hk b [d] hb (by simpa using hd) (by simp)
  · refine e_lstM (a_nil ⟨len0', fun b hb => hk b [] hb (by simp) (by simp)⟩)
def S_room : SpD := fun ds m k => ∃ (rows : List D) (n : Nat), ds = [.lst rows] ∧ rows.length ≤ 10 ∧ (∀ x ∈ rows, Rw n x) ∧ n ≤ 1000 ∧ ∀ ys, (∀ y ∈ ys, Fr (n + (n + n + 1) + 1 + 1) y) → ys.length ≤ rows.length + rows.length * (rows.length * (2 + rows.length)) → k (.lst ys) m
theorem sc_law_room : FnScope ["_law_rows", "_law_found", "_law_k", "_law_one", "_law_m", "_law_two", "_law_three", "_law_row_here"] ["_law_rows"] (defScope s_law_room) := ⟨rfl, rfl, rfl, by decide +kernel, rfl, by decide +kernel, by decide +kernel⟩
theorem fn_room (T : Txt K mg) (Ol : Fn P w K mg base 2 (He.ga K "_law_line") ["_law_rows", "_law_at"] S_line) (Om : Fn P w K mg base 2 (He.ga K "_law_meet") ["_law_one", "_law_two", "_law_at", "_law_other"] S_meet) (Ot : Fn P w K mg base 2 (He.ga K "_law_triple") ["_law_one", "_law_two", "_law_three"] S_triple) : Fn P w K mg base 3 (He.ga K "_law_room") ["_law_rows"] S_room := by
  obtain ⟨⟨_, G_law_line, b_law_line⟩, k_law_line⟩ := Ol
  obtain ⟨⟨_, G_law_meet, b_law_meet⟩, k_law_meet⟩ := Om
  obtain ⟨⟨_, G_law_triple, b_law_triple⟩, k_law_triple⟩ := Ot
  refine fn_of1 (kk := 2) T.F_law_room sc_law_room (fun ds m k h => by obtain ⟨a, n, rfl, _⟩ := h; rfl) (fun _ _ _ _ _ _ us hl => match us, hl with | [_], _ => rfl) ?_
  intro cdv A outer s H E hr
  refine ⟨_, (pss_cons (ps_set (i := 1) sc_law_room.nd rfl (.inl rfl) (pe_call G_law_line (hr.mono (by decide)) rfl T.g_law_line k_law_line b_law_line .nil pass0 (pa_cons (pe_lc (own := [("_law_row_here", 7)]) rfl sc_law_room.nd (pi_list (pv 0)) (blkOk_by (own := [("_law_row_here", 7)]) (N := ["_law_rows", "_law_found", "_law_k", "_law_one", "_law_m", "_law_two", "_law_three", "_law_row_here"]) (sc := defScope s_law_room) (by decide +kernel)) (fun _ _ _ _ _ => (pg_name (i := 7) sc_law_room.nd rfl (.inl rfl))) (fun _ _ _ _ _ => (pts_one (PW.pt (pw_and (pt_cmpR op_eq (pe_ix (ix_seqK (K := K) rfl) (pe_ix (ix_seqK (K := K) rfl) (pv 7) pe_int (fun _ _ => rfl)) pe_int (fun _ _ => rfl)) pe_int (nomark _)) (pw_and1 (pt_cmpR op_eq (pe_ix (ix_seqK (K := K) rfl) (pe_ix (ix_seqK (K := K) rfl) (pv 7) pe_int (fun _ _ => rfl)) pe_int (fun _ _ => rfl)) pe_int (nomark _))))))) (fun _ _ _ _ _ => (pv 7))) (pa_cons pe_int pa_nil))))
      (pss_cons (ps_for PassesOwn.never rfl (pi_enum rfl T.n_enumerate (pa_cons (pv 0) pa_nil)) (pg_tup rfl (pgs_cons (pg_name (i := 2) sc_law_room.nd rfl (.inl rfl)) (pgs_cons (pg_name (i := 3) sc_law_room.nd rfl (.inl rfl)) pgs_nil))) (pss_one (ps_for PassesOwn.never rfl (pi_enum rfl T.n_enumerate (pa_cons (pe_slice sl_list (pv 0) po_none (po_some (pv 2))) pa_nil)) (pg_tup rfl (pgs_cons (pg_name (i := 4) sc_law_room.nd rfl (.inl rfl)) (pgs_cons (pg_name (i := 5) sc_law_room.nd rfl (.inl rfl)) pgs_nil))) (pss_cons (ps_if (pt_cmpR op_eq (pe_op op_mulW (pe_ix ix_seq (pe_ix ix_seq (pv 3) pe_int (fun _ _ => rfl)) pe_int (fun _ _ => rfl)) (pe_ix ix_seq (pe_ix ix_seq (pv 5) pe_int (fun _ _ => rfl)) pe_int (fun _ _ => rfl))) (pe_op op_mulW (pe_ix ix_seq (pe_ix ix_seq (pv 3) pe_int (fun _ _ => rfl)) pe_int (fun _ _ => rfl)) (pe_ix ix_seq (pe_ix ix_seq (pv 5) pe_int (fun _ _ => rfl)) pe_int (fun _ _ => rfl))) (nomark _)) (pss_one (ps_expr (pe_bm PySem.F.plainAttrs_list PySem.F.slot_list_extend PySem.F.type_list_extend mt_extend (pv 1) (pa_cons (pe_op (op_catS (K := K)) (pe_call G_law_meet (hr.mono (by decide)) rfl T.g_law_meet k_law_meet b_law_meet .nil pass0 (pa_cons (pv 3) (pa_cons (pv 5) (pa_cons pe_int (pa_cons pe_int pa_nil))))) (pe_call G_law_meet (hr.mono (by decide)) rfl T.g_law_meet k_law_meet b_law_meet .nil pass0 (pa_cons (pv 3) (pa_cons (pv 5) (pa_cons pe_int (pa_cons pe_int pa_nil)))))) pa_nil)))) pss_nil)
      (pss_one (ps_for PassesOwn.never rfl (pi_list (pe_slice sl_list (pv 0) po_none (po_some (pv 4)))) (pg_name (i := 6) sc_law_room.nd rfl (.inl rfl)) (pss_one (ps_expr (pe_bm PySem.F.plainAttrs_list PySem.F.slot_list_extend PySem.F.type_list_extend mt_extend (pv 1) (pa_cons (pe_call G_law_triple (hr.mono (by decide)) rfl T.g_law_triple k_law_triple b_law_triple .nil pass0 (pa_cons (pv 3) (pa_cons (pv 5) (pa_cons (pv 6) pa_nil)))) pa_nil))))))))))
      (pss_one (ps_ret (pv 1))))), ?_⟩
  intro ds m k hS
  obtain ⟨rows, n, rfl, hl, hrw, hn, hk⟩ := hS
  walk_at "s"
  walk_at "d"
  refine ⟨by omega, unrc_all (Rw n) (by simp) (fun x hx => ?_) fun rs h1 h2 => ?_⟩
  · obtain ⟨c, x, y, z, rfl, hc, h1, h2, h3⟩ := hrw x hx
    walk_at "d"
    refine ite_by (fun _ => ?_) (fun _ => ?_)
    · walk_at "d"
      intro _
      walk_at "d"
      exact ⟨⟨c, x, y, z, rfl, hc, h1, h2, h3⟩, rfl⟩
    · walk_at "d"
      intro z
      cases z
  rw [List.length_nil, Nat.zero_add] at h2
  walk_at "d"
  refine ⟨rs, 0, n, rfl, by omega, by omega, h1, fun p ys0 hp hy0 hl0 => ?_⟩
  walk_at "d"
  refine i_enumL ?_
  walk_at "d"
  refine unr_idx (i := 0) (fun i r' m' => ∃ (acc : List D) (x2 x3 x4 x5 x6 x7 : Option D), Sub (updM m p (.lst acc)) m' ∧ r' = [some (.lst rows), some (.ref p), x2, x3, x4, x5, x6, x7] ∧ acc.length ≤ rows.length + i * (rows.length * (2 + rows.length)) ∧ ∀ y ∈ acc, Fr (n + (n + n + 1) + 1 + 1) y) ⟨ys0, none, none, none, none, none, none, Sub.refl, rfl, by omega, fun y hy => (hy0 y hy).mono (by omega)⟩ ?_ ?_
  · rintro i x r' m' hi ⟨acc, x2, x3, x4, x5, x6, x7, hsb, rfl, hac, hrow⟩
    obtain ⟨row, hi2, rfl⟩ := EN.enumD_get hi
    have hil : i < rows.length := (List.getElem?_eq_some_iff.mp hi2).1
    obtain ⟨c1, x1, y1, z1, rfl, hc1, hx1, hy1, hz1⟩ := hrw row (List.mem_of_getElem? hi2)
    have hro : Rw n (.tup [.int c1, .tup [.int x1, .int y1, .int z1]]) := ⟨c1, x1, y1, z1, rfl, hc1, hx1, hy1, hz1⟩
    rw [Nat.zero_add] at hac
    obtain ⟨M, hM⟩ : ∃ M, M = rows.length * (2 + rows.length) := ⟨_, rfl⟩
    rw [← hM] at hac
    have hM2 : M ≤ 120 := by
      have z : rows.length * (2 + rows.length) ≤ 10 * 12 := Nat.mul_le_mul hl (by omega)
      rw [hM]; exact z
    obtain ⟨N, hN⟩ : ∃ N, N = rows.length + i * M := ⟨_, rfl⟩
    rw [← hN] at hac
    have hN2 : N ≤ 1300 := by
      have : i * M ≤ 10 * 120 := Nat.mul_le_mul (by omega) hM2
      omega
    refine wG.drop hsb ?_
    walk_at "d"
    refine i_enumL ?_
    walk_at "d"
    refine e_sl2 ?_
    walk_at "d"
    refine unr_idx (i := 0) (fun j r' m' => ∃ (acc : List D) (x4 x5 x6 x7 : Option D), Sub (updM m p (.lst acc)) m' ∧ r' = [some (.lst rows), some (.ref p), some (.int (i : Int)), some (.tup [.int c1, .tup [.int x1, .int y1, .int z1]]), x4, x5, x6, x7] ∧ acc.length ≤ N + j * (2 + rows.length) ∧ ∀ y ∈ acc, Fr (n + (n + n + 1) + 1 + 1) y) ⟨acc, _, _, _, _, Sub.refl, rfl, by omega, hrow⟩ ?_ ?_
    · rintro j x r' m' hj ⟨acc, x4, x5, x6, x7, hsb, rfl, hac, hrow⟩
      obtain ⟨row, hj2, rfl⟩ := EN.enumD_get hj
      have hjl : j < (rows.take i).length := (List.getElem?_eq_some_iff.mp hj2).1
      rw [List.length_take] at hjl
      obtain ⟨c2, x2, y2, z2, rfl, hc2, hx2, hy2, hz2⟩ := hrw row (take_mem (List.mem_of_getElem? hj2))
      have hrt : Rw n (.tup [.int c2, .tup [.int x2, .int y2, .int z2]]) := ⟨c2, x2, y2, z2, rfl, hc2, hx2, hy2, hz2⟩
      rw [Nat.zero_add] at hac ⊢
      have hj1 : (j + 1) * (2 + rows.length) = j * (2 + rows.length) + (2 + rows.length) := Nat.succ_mul _ _
      have hj2 : j * (2 + rows.length) ≤ 10 * 12 := Nat.mul_le_mul (by omega) (by omega)
      refine wG.drop hsb ?_
      refine g_tup rfl (gs_cons (g_name (gs_cons (g_name (gs_nil ?_)))))
      dsimp only [List.set]
      refine s_seqI (fun r' m' => ∃ (acc : List D), Sub (updM m p (.lst acc)) m' ∧ r' = [some (.lst rows), some (.ref p), some (.int (i : Int)), some (.tup [.int c1, .tup [.int x1, .int y1, .int z1]]), some (.int (j : Int)), some (.tup [.int c2, .tup [.int x2, .int y2, .int z2]]), x6, x7] ∧ acc.length ≤ N + j * (2 + rows.length) + 2 ∧ ∀ y ∈ acc, Fr (n + (n + n + 1) + 1 + 1) y) ?_ ?_
      · walk_at "d"
        refine ite_by (fun _ => ?_) (fun _ => ?_)
        · refine s_ext (e_var rfl ⟨p, acc, rfl, updM_same, ?_⟩)
          refine e_op (e_frz ?_)
          walk_at "d"
          refine ⟨_, _, 0, 1, n, rfl, by omega, hro, hrt, hn, fun b zs hb hz hzl => ⟨b, zs, _, rfl, updM_same, by rw [del_upd hb]; exact Sub.refl, ?_⟩⟩
          refine e_frz ?_
          walk_at "d"
          refine ⟨_, _, 0, 2, n, rfl, by omega, hro, hrt, hn, fun b2 zs2 hb2 hz2 hzl2 => ⟨b2, zs2, _, rfl, updM_same, by rw [del_upd hb2]; exact Sub.refl, ?_⟩⟩
          refine r_catM (by omega) fun b3 hb3 => ?_
          refine ⟨b3, acc, _, rfl, ?_, updM_same, by rw [List.length_append]; omega, ?_⟩
          · rw [updM_ne (fun e => by rw [← e, updM_same] at hb3; cases hb3)]; exact updM_same
          refine ⟨_, sub_ext hb3, rfl, by rw [List.length_append, List.length_append]; omega, fun y hy => ?_⟩
          rcases List.mem_append.mp hy with q | q
          · exact hrow y q
          rcases List.mem_append.mp q with q | q
          · exact (hz y q).mono (by omega)
          · exact (hz2 y q).mono (by omega)
        · walk_at "d"
          exact ⟨acc, Sub.refl, rfl, by omega, hrow⟩
      · rintro r' m' ⟨acc, hsb, rfl, hac, hrow⟩
        refine wS.drop hsb ?_
        walk_at "d"
        refine e_sl2 ?_
        walk_at "d"
        refine unr_idx (i := 0) (fun l r' m' => ∃ (acc : List D) (x6 : Option D), Sub (updM m p (.lst acc)) m' ∧ r' = [some (.lst rows), some (.ref p), some (.int (i : Int)), some (.tup [.int c1, .tup [.int x1, .int y1, .int z1]]), some (.int (j : Int)), some (.tup [.int c2, .tup [.int x2, .int y2, .int z2]]), x6, x7] ∧ acc.length ≤ N + j * (2 + rows.length) + 2 + l ∧ ∀ y ∈ acc, Fr (n + (n + n + 1) + 1 + 1) y) ⟨acc, _, Sub.refl, rfl, by omega, hrow⟩ ?_ ?_
        · rintro l x r' m' hl3 ⟨acc, x6, hsb, rfl, hac, hrow⟩
          have hth := hrw x (take_mem (List.mem_of_getElem? hl3))
          have hll : l < (rows.take j).length := (List.getElem?_eq_some_iff.mp hl3).1
          rw [List.length_take] at hll
          refine wG.drop hsb ?_
          walk_at "d"
          refine s_ext (e_var rfl ⟨p, acc, rfl, updM_same, ?_⟩)
          walk_at "d"
          refine ⟨_, _, x, n, rfl, hro, hrt, hth, hn, fun b zs hb hz hzl => ?_⟩
          refine ⟨b, acc, zs, rfl, ?_, updM_same, by omega, ?_⟩
          · rw [updM_ne (fun e => by rw [← e, updM_same] at hb; cases hb)]; exact updM_same
          refine ⟨acc ++ zs, _, sub_ext hb, rfl, by rw [List.length_append]; omega, fun y hy => ?_⟩
          rcases List.mem_append.mp hy with q | q
          · exact hrow y q
          · exact hz y q
        · rintro r' m' ⟨acc, x6, hsb, rfl, hac, hrow⟩
          rw [List.length_take] at hac
          exact ⟨acc, _, _, _, _, hsb, rfl, by omega, hrow⟩
    · rintro r' m' ⟨acc, x4, x5, x6, x7, hsb, rfl, hac, hrow⟩
      rw [EN.enumD_len, List.length_take, Nat.zero_add] at hac
      refine ⟨acc, _, _, _, _, _, _, hsb, rfl, ?_, hrow⟩
      rw [Nat.zero_add, ← hM, Nat.succ_mul]
      have : min i rows.length * (2 + rows.length) ≤ M := by rw [hM]; exact Nat.mul_le_mul_right _ (by omega)
      omega
  · rintro r' m' ⟨acc, x2, x3, x4, x5, x6, x7, hsb, rfl, hac, hrow⟩
    rw [EN.enumD_len, Nat.zero_add] at hac
    refine wS.drop hsb ?_
    refine s_frz (i := 1) rfl updM_same ?_
    rw [del_upd hp]
    dsimp only [List.set]
    walk_at "d"
    exact hk _ hrow hac
end
end LW
end

section
set_option Elab.async false
set_option linter.all false
set_option maxRecDepth 100000
set_option maxHeartbeats 1000000
set_option exponentiation.threshold 10000
namespace LW
open PySem PySem.Spec PyProof.Rows L2 DL MA
local macro_rules | `(tactic| walk_at "d1") => `(tactic| first
  | (with_reducible refine s_seq ?_) | (with_reducible refine s_set ?_) | (with_reducible refine s_ret ?_) | (with_reducible refine s_if ?_) | (with_reducible refine s_fld ?_) | (with_reducible refine s_next ?_) | (with_reducible refine s_par ?_)
  | (with_reducible refine e_var rfl ?_) | (with_reducible refine e_int ?_) | (with_reducible refine e_bl ?_) | (with_reducible refine e_non ?_) | (with_reducible refine e_str ?_) | (with_reducible refine e_ty ?_) | (with_reducible refine e_ref ?_)
  | (with_reducible refine e_op ?_) | (with_reducible refine e_un ?_) | (with_reducible refine e_cb ?_) | (with_reducible refine e_if ?_) | (with_reducible refine e_andV ?_) | (with_reducible refine e_orV ?_) | (with_reducible refine e_notV ?_) | (with_reducible refine e_fld ?_)
  | (with_reducible refine e_call0 ?_) | (with_reducible refine e_meth0 ?_) | (with_reducible refine e_make (dds := []) nilD ?_) | (with_reducible refine e_stat0 ?_)
  | (with_reducible refine a_nil ?_) | (with_reducible refine a_cons ?_) | (with_reducible refine e_tup ?_)
  | (with_reducible refine t_test ?_) | (with_reducible refine t_B ?_) | (with_reducible refine t_and ?_) | (with_reducible refine t_or ?_) | (with_reducible refine t_not ?_)
  | (with_reducible refine ri0 ?_) | (with_reducible refine rb0 ?_) | (with_reducible refine req ?_) | (with_reducible refine rne ?_) | (with_reducible refine reqb ?_) | (with_reducible refine ui ?_)
  | (with_reducible refine c_abs ?_) | (with_reducible refine c_int1 ?_) | (with_reducible refine c_bool1 ?_)
  | (with_reducible refine Exists.intro _ (And.intro rfl ?_)))
local macro_rules | `(tactic| walk_at "d") => `(tactic| repeat (walk_at "d1"; try dsimp only [List.set, wipeD, List.map]))
local macro_rules | `(tactic| walk_at "s") => `(tactic| dsimp only [cxOf, Cx.nox, Cx.wish, startD, List.map, List.length, Nat.reduceAdd, Nat.reduceSub, List.reduceReplicate, HAppend.hAppend, Append.append, List.append])
local macro_rules | `(tactic| walk_at "d1") => `(tactic| first
  | (with_reducible refine fld_top (by assumption) ?_) | (with_reducible refine fld_bottom (by assumption) ?_)
  | (with_reducible refine isnum_num (by assumption) (by assumption) ?_) | (with_reducible refine assh_num (by assumption) ?_) | (with_reducible refine isnum_num (by assumption) (Num.sh _) ?_) | (with_reducible refine assh_num (Num.sh _) ?_) | (with_reducible refine isnum_num (by assumption) (Num.int _) ?_) | (with_reducible refine assh_num (Num.int _) ?_)
  | (with_reducible refine e_Share1 ?_) | (with_reducible refine e_Share2 ?_))
local macro_rules | `(tactic| walk_at "d1") => `(tactic| first | (with_reducible refine r_SN (by assumption) ?_) | (with_reducible refine r_SN (Num.sh _) ?_) | (with_reducible refine r_SN (Num.int _) ?_) | (with_reducible refine u_S ?_))
local macro_rules | `(tactic| walk_at "d1") => `(tactic| first
  | (with_reducible refine fld_number (by assumption) ?_) | (with_reducible refine fld_times (by assumption) ?_) | (with_reducible refine e_Term ?_)
  | (with_reducible refine e_lcU (gin_name (by decide)) ?_) | (with_reducible refine i_rng1 ?_) | (with_reducible refine i_tup ?_) | (with_reducible refine i_list ?_) | (with_reducible refine t_yes ?_) | (with_reducible refine g_name ?_)
  | (with_reducible refine unrc_r3 ?_) | (with_reducible refine unrc_r4 ?_) | (with_reducible refine unr_r3 ?_) | (with_reducible refine unr_r4 ?_) | (with_reducible refine unr_r2 ?_) | (with_reducible refine unrc_cons ?_) | (with_reducible refine unrc_nil ?_) | (with_reducible refine unr_cons ?_) | (with_reducible refine unr_nil ?_) | (with_reducible refine s_forU ?_)
  | (with_reducible refine iteT ?_) | (with_reducible refine iteF ?_) | (with_reducible refine e_chain ?_) | (with_reducible refine And.intro len3 ?_) | (with_reducible refine And.intro len4 ?_) | (with_reducible refine And.intro (by decide) ?_) | (with_reducible refine ite_d1 (by decide) ?_) | (with_reducible refine ite_d0 (by decide) ?_))
local macro_rules | `(tactic| walk_at "d1") => `(tactic| first
  | (with_reducible refine isworth (by assumption) (by assumption) ?_) | (with_reducible refine asterm (by assumption) ?_) | (with_reducible refine isworth (by assumption) (Wth.tm _) ?_) | (with_reducible refine asterm (Wth.tm _) ?_)
  | (with_reducible refine i_zipT ?_) | (with_reducible refine unrc_z3 ?_) | (with_reducible refine e_lcU (gin_tup (gsin_one (by decide) (gsin_one (by decide) gsin_nil))) ?_) | (with_reducible refine g_tup rfl ?_) | (with_reducible refine gs_cons ?_) | (with_reducible refine gs_nil ?_)
  | (with_reducible refine And.intro lenz3 ?_) | (with_reducible refine Exists.intro _ (Exists.intro _ (And.intro rfl ?_)))
  | (with_reducible refine EN.i_enumT ?_) | (with_reducible refine unr_e3 ?_) | (with_reducible refine e_methT (fun _ => rfl) ?_) | (with_reducible refine a_star ?_)
  | (with_reducible refine r_TW (by assumption) ?_) | (with_reducible refine r_TW (Wth.tm _) ?_))
local macro_rules | `(tactic| walk_at "d1") => `(tactic| first | (with_reducible refine Exists.intro _ (Exists.intro _ (And.intro rfl ?_))) | (with_reducible refine And.intro len2' ?_))
local macro_rules | `(tactic| walk_at "d") => `(tactic| repeat (walk_at "d1"; try dsimp only [List.set, wipeD, List.map, Int.reduceAdd]))
local macro_rules | `(tactic| walk_at "d1") => `(tactic| first
  | (with_reducible refine And.intro rfl ?_) | (with_reducible refine ixT0 ?_) | (with_reducible refine ixT1 ?_) | (with_reducible refine ixL0 ?_) | (with_reducible refine ixL1 ?_) | (with_reducible refine ixL2 ?_) | (with_reducible refine ixL3 ?_))
local macro_rules | `(tactic| walk_at "d1") => `(tactic| first | (with_reducible refine isi_SS (by assumption) ?_) | (with_reducible refine isi_TT (by assumption) ?_) | (with_reducible refine isi_RR (by assumption) ?_))
local macro_rules | `(tactic| walk_at "d1") => `(tactic| first | (with_reducible refine s_asg ?_))
local macro_rules | `(tactic| walk_at "bn") => `(tactic| repeat (first | with_reducible assumption | with_reducible apply Bn.mul | with_reducible apply Bn.sub | with_reducible apply Bn.neg | with_reducible apply Bn.add | with_reducible apply Bn.addL))
local macro_rules | `(tactic| walk_at "d1") => `(tactic| first
  | (with_reducible refine ixT0 ?_) | (with_reducible refine ixT1 ?_) | (with_reducible refine ixT2 ?_) | (with_reducible refine And.intro rfl ?_) | (with_reducible refine And.intro len2' ?_) | (with_reducible refine ri (Cc := CMulW) ?_ ?_; refine bmul (by walk_at "bn") (by walk_at "bn") (by omega))
  | (with_reducible refine And.intro len2' ?_) | (with_reducible refine And.intro len3' ?_) | (with_reducible refine And.intro len1' ?_) | (with_reducible refine And.intro len0' ?_))
section
variable {P : Program} {w : World} {K : PySem.W.Frag} {mg : Str → Option Value} {base : Heap}
theorem Fr.nor {n : Nat} {d : D} (h : Fr n d) : nor d = true := by obtain ⟨a, b, rfl, _⟩ := h; rfl
theorem ixFr {xs : List D} {n : Nat} {j : Int} {m : Mu} {k : D → Mu → Prop} (hf : ∀ x ∈ xs, Fr n x) (h0 : 0 ≤ j) (h1 : j < xs.length) (q : ∀ a b, 0 < b → Bn a n → Bn b n → k (.tup [.int a, .int b]) m) : wR K (rIx K) (.lst xs) (.int j) m k :=
  ix_memL h0 h1 fun d hd => by obtain ⟨a, b, rfl, h2, h3, h4⟩ := hf d hd; exact q a b h2 h3 h4
theorem ixFrL {xs : List D} {n : Nat} {m : Mu} {k : D → Mu → Prop} (hf : ∀ x ∈ xs, Fr n x) (h0 : (0 : Int) < xs.length) (q : ∀ a b, 0 < b → Bn a n → Bn b n → k (.tup [.int a, .int b]) m) : wR K (rIx K) (.lst xs) (.int (-1)) m k := by
  have hl : xs.length - 1 < xs.length := by omega
  refine r_ix1 (r_ixL (d := xs[xs.length - 1]) ?_ ?_)
  · have e : ixN xs.length (-1) = some (xs.length - 1) := by
      unfold ixN
      rw [if_neg (by decide), if_pos (by omega)]
      exact congrArg some (by omega)
    unfold atI
    rw [e]
    exact List.getElem?_eq_getElem hl
  · obtain ⟨a, b, e, h2, h3, h4⟩ := hf _ (List.getElem_mem hl)
    rw [e]
    exact q a b h2 h3 h4
def S_worths : SpD := fun ds m k => ∃ (xs : List D) (n : Nat), ds = [.lst xs] ∧ xs.length ≤ 2000 ∧ (∀ x ∈ xs, Fr n x) ∧ n ≤ 900 ∧ ∀ ys, (∀ y ∈ ys, Fr (n + 1) y) → ys ≠ [] → ys.length ≤ 2 * xs.length + 3 → k (.lst ys) m
theorem sc_law_worths : FnScope ["_law_found", "_law_row_here", "_law_one", "_law_full", "_law_at", "_law_two"] ["_law_found"] (defScope s_law_worths) := ⟨rfl, rfl, rfl, by decide +kernel, rfl, by decide +kernel, by decide +kernel⟩
theorem fn_worths (T : Txt K mg) (Ol : Fn P w K mg base 1 (He.ga K "_law_less") ["_law_one", "_law_two"] S_less) (Om : Fn P w K mg base 1 (He.ga K "_law_middle") ["_law_one", "_law_two"] S_middle) : Fn P w K mg base 2 (He.ga K "_law_worths") ["_law_found"] S_worths := by
  obtain ⟨⟨_, G_law_less, b_law_less⟩, k_law_less⟩ := Ol
  obtain ⟨⟨_, G_law_middle, b_law_middle⟩, k_law_middle⟩ := Om
  refine fn_of1 (kk := 1) T.F_law_worths sc_law_worths (fun ds m k h => by obtain ⟨a, n, rfl, _⟩ := h; rfl) (fun _ _ _ _ _ _ us hl => match us, hl with | [_], _ => rfl) ?_
  intro cdv A outer s H E hr
  refine ⟨_, (pss_cons (ps_set (i := 1) sc_law_worths.nd rfl (.inl rfl) (pe_lst pa_nil))
      (pss_cons (ps_for PassesOwn.never rfl (pi_list (pv 0)) (pg_name (i := 2) sc_law_worths.nd rfl (.inr rfl)) (pss_cons (ps_set (i := 4) sc_law_worths.nd rfl (.inl rfl) (pe_callB call_len_seq rfl T.n_len PySem.boot_len (pa_cons (pe_lc (own := [("_law_two", 5)]) rfl sc_law_worths.nd (pi_list (pv 1)) (blkOk_by (own := [("_law_two", 5)]) (N := ["_law_found", "_law_row_here", "_law_one", "_law_full", "_law_at", "_law_two"]) (sc := defScope s_law_worths) (by decide +kernel)) (fun _ _ _ _ _ => (pg_name (i := 5) sc_law_worths.nd rfl (.inl rfl))) (fun _ _ _ _ _ => (pts_one (pt_val (pe_call G_law_less (hr.mono (by decide)) rfl T.g_law_less k_law_less b_law_less .nil pass0 (pa_cons (pv 5) (pa_cons (pv 2) pa_nil)))))) (fun _ _ _ _ _ => (pv 5))) pa_nil)))
      (pss_one (ps_if (PW.pt (pw_or (pt_cmpR op_eq (pv 4) (pe_callB call_len_seq rfl T.n_len PySem.boot_len (pa_cons (pv 1) pa_nil)) (nomark _)) (pw_or1 (pt_val (pe_call G_law_less (hr.mono (by decide)) rfl T.g_law_less k_law_less b_law_less .nil pass0 (pa_cons (pv 2) (pa_cons (pe_ix ix_seq (pv 1) (pv 4) (fun _ _ => rfl)) pa_nil))))))) (pss_one (ps_expr (pe_bm PySem.F.plainAttrs_list PySem.F.slot_list_insert PySem.F.type_list_insert mt_ins (pv 1) (pa_cons (pv 4) (pa_cons (pv 2) pa_nil))))) pss_nil))))
      (pss_cons (ps_if (pt_cmpR (op_eqB rc_nil (hr.mono (by decide))) (pv 1) (pe_lst pa_nil) (nomark _)) (pss_one (ps_ret (pe_lst (pa_cons (pe_tup (pa_cons pe_int (pa_cons pe_int pa_nil))) pa_nil)))) pss_nil)
      (pss_cons (ps_set (i := 3) sc_law_worths.nd rfl (.inl rfl) (pe_lst (pa_cons (pe_tup (pa_cons (pe_op op_sub (pe_ix ix_seq (pe_ix ix_seq (pv 1) pe_int (fun _ _ => rfl)) pe_int (fun _ _ => rfl)) (pe_ix ix_seq (pe_ix ix_seq (pv 1) pe_int (fun _ _ => rfl)) pe_int (fun _ _ => rfl))) (pa_cons (pe_ix ix_seq (pe_ix ix_seq (pv 1) pe_int (fun _ _ => rfl)) pe_int (fun _ _ => rfl)) pa_nil))) (pa_cons (pe_ix ix_seq (pv 1) pe_int (fun _ _ => rfl)) pa_nil))))
      (pss_cons (ps_for PassesOwn.never rfl (pi_range2 rfl T.n_range (pa_cons pe_int (pa_cons (pe_callB call_len_seq rfl T.n_len PySem.boot_len (pa_cons (pv 1) pa_nil)) pa_nil))) (pg_name (i := 4) sc_law_worths.nd rfl (.inl rfl)) (pss_one (ps_expr (pe_bm PySem.F.plainAttrs_list PySem.F.slot_list_extend PySem.F.type_list_extend mt_extend (pv 3) (pa_cons (pe_lst (pa_cons (pe_call G_law_middle (hr.mono (by decide)) rfl T.g_law_middle k_law_middle b_law_middle .nil pass0 (pa_cons (pe_ix ix_seq (pv 1) (pe_op op_sub (pv 4) pe_int) (fun _ _ => rfl)) (pa_cons (pe_ix ix_seq (pv 1) (pv 4) (fun _ _ => rfl)) pa_nil))) (pa_cons (pe_ix ix_seq (pv 1) (pv 4) (fun _ _ => rfl)) pa_nil))) pa_nil)))))
      (pss_one (ps_ret (pe_op (op_catS (K := K)) (pv 3) (pe_lst (pa_cons (pe_tup (pa_cons (pe_op op_add (pe_ix ix_seq (pe_ix ix_seq (pv 1) (pe_un un_neg pe_int) (fun _ _ => rfl)) pe_int (fun _ _ => rfl)) (pe_ix ix_seq (pe_ix ix_seq (pv 1) (pe_un un_neg pe_int) (fun _ _ => rfl)) pe_int (fun _ _ => rfl))) (pa_cons (pe_ix ix_seq (pe_ix ix_seq (pv 1) (pe_un un_neg pe_int) (fun _ _ => rfl)) pe_int (fun _ _ => rfl)) pa_nil))) pa_nil)))))))))), ?_⟩
  intro ds m k hS
  obtain ⟨xs, n, rfl, hl, hx, hn, hk⟩ := hS
  walk_at "s"
  refine s_seq (s_set (e_lstM (a_nil ⟨len0', fun p hp => ?_⟩)))
  dsimp only [List.set]
  refine s_seq (s_forU (i_list (e_var rfl ⟨xs, rfl, ?_⟩)))
  refine unr_idx (i := 0) (fun i r' m' => ∃ (acc : List D) (x2 x4 x5 : Option D), m' = updM m p (.lst acc) ∧ r' = [some (.lst xs), some (.ref p), x2, none, x4, x5] ∧ acc.length ≤ i ∧ ∀ y ∈ acc, Fr n y) ⟨[], none, none, none, rfl, rfl, Nat.le_refl _, by simp⟩ ?_ ?_
  · rintro i x r' m' hi ⟨acc, x2, x4, x5, rfl, rfl, hac, hrow⟩
    have hxx := hx x (List.mem_of_getElem? hi)
    have hil : i < xs.length := (List.getElem?_eq_some_iff.mp hi).1
    rw [Nat.zero_add] at hac ⊢
    refine g_name ?_
    dsimp only [List.set]
    refine s_seq (s_set (e_bor (i := 1) rfl updM_same ?_))
    dsimp only [List.set]
    walk_at "d"
    refine ⟨by omega, unrc_all (fun _ => True) (by simp) (fun y hy => ?_) fun rs h1 h2 => ?_⟩
    · have hyy := hrow y hy
      walk_at "d"
      refine ⟨y, x, n, rfl, hyy, hxx, by omega, fun b => ?_⟩
      walk_at "d"
      intro _
      walk_at "d"
      try exact ⟨trivial, rfl⟩
    rw [List.length_nil, Nat.zero_add] at h2
    walk_at "d"
    refine c_len (.inl ⟨_, rfl, rfl⟩) ?_
    refine ⟨.inr ⟨_, rfl⟩, ?_⟩
    walk_at "d"
    refine c_len (.inr (.inr ⟨_, _, rfl, updM_same, rfl⟩)) ?_
    walk_at "d"
    have hins : ∀ {r' : En} {ks : KS}, r' = [some (.lst xs), some (.ref p), some x, none, some (.int (rs.length : Int)), x5] → (∀ m', m' = updM m p (.lst (acc.take rs.length ++ [x] ++ acc.drop rs.length)) → ks.nx r' m') → wS K (tDrop (tBM K "list" rIns (tVar 1) (tCons (tVar 4) (tCons (tVar 2) tNil)))) r' (updM m p (.lst acc)) ks := by
      intro r' ks hr' hq
      subst hr'
      refine s_ins (e_var rfl ⟨p, acc, rfl, updM_same, e_var rfl ⟨rs.length, rfl, by omega, e_var rfl ⟨acc, updM_same, by omega, hq _ ?_⟩⟩⟩)
      rw [updM_updM]
    have hend : ∀ m', m' = updM m p (.lst (acc.take rs.length ++ [x] ++ acc.drop rs.length)) → ∃ (acc : List D) (x2 x4 x5' : Option D), m' = updM m p (.lst acc) ∧ ([some (.lst xs), some (.ref p), some x, none, some (.int (rs.length : Int)), x5] : En) = [some (.lst xs), some (.ref p), x2, none, x4, x5'] ∧ acc.length ≤ i + 1 ∧ ∀ y ∈ acc, Fr n y := by
      intro m' e
      refine ⟨_, _, _, _, e, rfl, ?_, fun y hy => ?_⟩
      · simp only [List.length_append, List.length_take, List.length_drop, List.length_singleton]; omega
      · rcases List.mem_append.mp hy with q | q
        · rcases List.mem_append.mp q with q | q
          · exact hrow y (List.mem_of_mem_take q)
          · rw [List.mem_singleton.mp q]; exact hxx
        · exact hrow y (List.mem_of_mem_drop q)
    refine ite_by (fun _ => ?_) (fun e => ?_)
    · refine iteT (hins rfl hend)
    · walk_at "d"
      refine ix_memM updM_same (by omega) (by simp at e; omega) fun y hy => ?_
      have hyy := hrow y hy
      walk_at "d"
      refine ⟨x, y, n, rfl, hxx, hyy, by omega, fun b => ?_⟩
      walk_at "d"
      refine ite_by (fun _ => hins rfl hend) (fun e => ?_)
      walk_at "d"
      exact ⟨acc, _, _, _, rfl, rfl, by omega, hrow⟩
  · rintro r' m' ⟨acc, x2, x4, x5, rfl, rfl, hac, hrow⟩
    rw [Nat.zero_add] at hac
    refine s_frz (i := 1) rfl updM_same ?_
    rw [del_upd hp]
    dsimp only [List.set]
    walk_at "d"
    refine e_lst (a_nil ⟨len0', ?_⟩)
    refine r_eqN (norL_mem fun x hx => (hrow x hx).nor) ?_
    walk_at "d"
    cases acc with
    | nil =>
      refine ite_d1 rfl (s_ret (e_lst ?_))
      walk_at "d"
      refine hk _ (fun y hy => ?_) (by simp) (by show 1 ≤ _; omega)
      rw [List.mem_singleton.mp hy]
      exact ⟨0, 1, rfl, by decide, ⟨by show 0 < _; exact Nat.two_pow_pos _⟩, ⟨by show 1 < _; exact Nat.one_lt_two_pow (by omega)⟩⟩
    | cons a0 acc1 =>
      obtain ⟨acc, hacc⟩ : ∃ acc, acc = a0 :: acc1 := ⟨_, rfl⟩
      rw [← hacc] at hac hrow ⊢
      have h0 : (0 : Int) < acc.length := by rw [hacc]; simp
      have h00 : ((0 : Nat) : Int) < acc.length := h0
      refine ite_d0 (by rw [hacc]; rfl) ?_
      walk_at "d"
      refine e_lstM ?_
      walk_at "d"
      refine ixFr hrow (Int.le_refl 0) h0 fun a1 b1 p1 q1 r1 => ?_
      walk_at "d"
      refine ixFr hrow (Int.le_refl 0) h0 fun a2 b2 p2 q2 r2 => ?_
      walk_at "d"
      refine ixFr hrow (Int.le_refl 0) h0 fun a3 b3 p3 q3 r3 => ?_
      walk_at "d"
      refine ixFr hrow (Int.le_refl 0) h0 fun a4 b4 p4 q4 r4 => ?_
      walk_at "d"
      intro f hf
      walk_at "d"
      refine i_rng2 ?_
      walk_at "d"
      refine c_len (.inl ⟨_, rfl, rfl⟩) ?_
      walk_at "d"
      refine ⟨by omega, ?_⟩
      refine unr_idx (i := 0) (fun i r' m' => ∃ (fl : List D) (x4 : Option D), Sub (updM m f (.lst fl)) m' ∧ r' = [some (.lst xs), some (.lst acc), x2, some (.ref f), x4, x5] ∧ fl.length ≤ 2 + 2 * i ∧ ∀ y ∈ fl, Fr (n + 1) y) ⟨_, _, Sub.refl, rfl, by show 2 ≤ _; omega, fun y hy => ?_⟩ ?_ ?_
      · simp only [List.mem_cons, List.not_mem_nil, or_false] at hy
        rcases hy with rfl | rfl
        · exact ⟨_, _, rfl, p3, q1.sub r2, r3.mono (by omega)⟩
        · exact ⟨_, _, rfl, p4, q4.mono (by omega), r4.mono (by omega)⟩
      · rintro i x r' m' hi ⟨fl, x4, hsb, rfl, hfl, hfr⟩
        obtain ⟨hil, rfl⟩ := rangeD_get hi
        rw [Nat.zero_add] at hfl ⊢
        refine wG.drop hsb ?_
        walk_at "d"
        refine s_ext (e_var rfl ⟨f, fl, rfl, updM_same, ?_⟩)
        refine e_lstM ?_
        walk_at "d"
        refine ixFr hrow (by omega) (by omega) fun a5 b5 p5 q5 r5 => ?_
        walk_at "d"
        refine ixFr hrow (by omega) (by omega) fun a6 b6 p6 q6 r6 => ?_
        walk_at "d"
        refine ⟨_, _, n, rfl, ⟨a5, b5, rfl, p5, q5, r5⟩, ⟨a6, b6, rfl, p6, q6, r6⟩, fun d hd => ?_⟩
        walk_at "d"
        refine ixFr hrow (by omega) (by omega) fun a7 b7 p7 q7 r7 => ?_
        walk_at "d"
        intro b hb
        refine ⟨b, fl, _, rfl, ?_, updM_same, by show _ + 2 ≤ _; omega, ?_⟩
        · rw [updM_ne (fun e => by rw [← e, updM_same] at hb; cases hb)]; exact updM_same
        refine ⟨_, _, sub_ext hb, rfl, by rw [List.length_append]; show _ + 2 ≤ _; omega, fun y hy => ?_⟩
        rcases List.mem_append.mp hy with q | q
        · exact hfr y q
        · simp only [List.mem_cons, List.not_mem_nil, or_false] at q
          rcases q with rfl | rfl
          · exact hd
          · exact ⟨_, _, rfl, p7, q7.mono (by omega), r7.mono (by omega)⟩
      · rintro r' m' ⟨fl, x4, hsb, rfl, hfl, hfr⟩
        rw [rangeD_len] at hfl
        refine wS.drop hsb ?_
        refine s_frz (i := 3) rfl updM_same ?_
        rw [del_upd hf]
        dsimp only [List.set]
        walk_at "d"
        refine e_lst ?_
        walk_at "d"
        refine ixFrL hrow h0 fun a5 b5 p5 q5 r5 => ?_
        walk_at "d"
        refine ixFrL hrow h0 fun a6 b6 p6 q6 r6 => ?_
        walk_at "d"
        refine ixFrL hrow h0 fun a7 b7 p7 q7 r7 => ?_
        walk_at "d"
        refine r_catS (by show _ + 1 ≤ _; omega) ?_
        refine hk _ (fun y hy => ?_) (by simp) (by rw [List.length_append]; show _ + 1 ≤ _; omega)
        rcases List.mem_append.mp hy with q | q
        · exact hfr y q
        · rw [List.mem_singleton.mp q]
          exact ⟨_, _, rfl, p7, q5.add r6, r7.mono (by omega)⟩
end
end LW
end

section
set_option Elab.async false
set_option linter.all false
set_option maxRecDepth 100000
set_option maxHeartbeats 1000000
set_option exponentiation.threshold 10000
namespace LW
open PySem PySem.Spec PyProof.Rows L2 DL MA
local macro_rules | `(tactic| walk_at "d1") => `(tactic| first
  | (with_reducible refine s_seq ?_) | (with_reducible refine s_set ?_) | (with_reducible refine s_ret ?_) | (with_reducible refine s_if ?_) | (with_reducible refine s_fld ?_) | (with_reducible refine s_next ?_) | (with_reducible refine s_par ?_)
  | (with_reducible refine e_var rfl ?_) | (with_reducible refine e_int ?_) | (with_reducible refine e_bl ?_) | (with_reducible refine e_non ?_) | (with_reducible refine e_str ?_) | (with_reducible refine e_ty ?_) | (with_reducible refine e_ref ?_)
  | (with_reducible refine e_op ?_) | (with_reducible refine e_un ?_) | (with_reducible refine e_cb ?_) | (with_reducible refine e_if ?_) | (with_reducible refine e_andV ?_) | (with_reducible refine e_orV ?_) | (with_reducible refine e_notV ?_) | (with_reducible refine e_fld ?_)
  | (with_reducible refine e_call0 ?_) | (with_reducible refine e_meth0 ?_) | (with_reducible refine e_make (dds := []) nilD ?_) | (with_reducible refine e_stat0 ?_)
  | (with_reducible refine a_nil ?_) | (with_reducible refine a_cons ?_) | (with_reducible refine e_tup ?_)
  | (with_reducible refine t_test ?_) | (with_reducible refine t_B ?_) | (with_reducible refine t_and ?_) | (with_reducible refine t_or ?_) | (with_reducible refine t_not ?_)
  | (with_reducible refine ri0 ?_) | (with_reducible refine rb0 ?_) | (with_reducible refine req ?_) | (with_reducible refine rne ?_) | (with_reducible refine reqb ?_) | (with_reducible refine ui ?_)
  | (with_reducible refine c_abs ?_) | (with_reducible refine c_int1 ?_) | (with_reducible refine c_bool1 ?_)
  | (with_reducible refine Exists.intro _ (And.intro rfl ?_)))
local macro_rules | `(tactic| walk_at "d") => `(tactic| repeat (walk_at "d1"; try dsimp only [List.set, wipeD, List.map]))
local macro_rules | `(tactic| walk_at "s") => `(tactic| dsimp only [cxOf, Cx.nox, Cx.wish, startD, List.map, List.length, Nat.reduceAdd, Nat.reduceSub, List.reduceReplicate, HAppend.hAppend, Append.append, List.append])
local macro_rules | `(tactic| walk_at "d1") => `(tactic| first
  | (with_reducible refine fld_top (by assumption) ?_) | (with_reducible refine fld_bottom (by assumption) ?_)
  | (with_reducible refine isnum_num (by assumption) (by assumption) ?_) | (with_reducible refine assh_num (by assumption) ?_) | (with_reducible refine isnum_num (by assumption) (Num.sh _) ?_) | (with_reducible refine assh_num (Num.sh _) ?_) | (with_reducible refine isnum_num (by assumption) (Num.int _) ?_) | (with_reducible refine assh_num (Num.int _) ?_)
  | (with_reducible refine e_Share1 ?_) | (with_reducible refine e_Share2 ?_))
local macro_rules | `(tactic| walk_at "d1") => `(tactic| first | (with_reducible refine r_SN (by assumption) ?_) | (with_reducible refine r_SN (Num.sh _) ?_) | (with_reducible refine r_SN (Num.int _) ?_) | (with_reducible refine u_S ?_))
local macro_rules | `(tactic| walk_at "d1") => `(tactic| first
  | (with_reducible refine fld_number (by assumption) ?_) | (with_reducible refine fld_times (by assumption) ?_) | (with_reducible refine e_Term ?_)
  | (with_reducible refine e_lcU (gin_name (by decide)) ?_) | (with_reducible refine i_rng1 ?_) | (with_reducible refine i_tup ?_) | (with_reducible refine i_list ?_) | (with_reducible refine t_yes ?_) | (with_reducible refine g_name ?_)
  | (with_reducible refine unrc_r3 ?_) | (with_reducible refine unrc_r4 ?_) | (with_reducible refine unr_r3 ?_) | (with_reducible refine unr_r4 ?_) | (with_reducible refine unr_r2 ?_) | (with_reducible refine unrc_cons ?_) | (with_reducible refine unrc_nil ?_) | (with_reducible refine unr_cons ?_) | (with_reducible refine unr_nil ?_) | (with_reducible refine s_forU ?_)
  | (with_reducible refine iteT ?_) | (with_reducible refine iteF ?_) | (with_reducible refine e_chain ?_) | (with_reducible refine And.intro len3 ?_) | (with_reducible refine And.intro len4 ?_) | (with_reducible refine And.intro (by decide) ?_) | (with_reducible refine ite_d1 (by decide) ?_) | (with_reducible refine ite_d0 (by decide) ?_))
local macro_rules | `(tactic| walk_at "d1") => `(tactic| first
  | (with_reducible refine isworth (by assumption) (by assumption) ?_) | (with_reducible refine asterm (by assumption) ?_) | (with_reducible refine isworth (by assumption) (Wth.tm _) ?_) | (with_reducible refine asterm (Wth.tm _) ?_)
  | (with_reducible refine i_zipT ?_) | (with_reducible refine unrc_z3 ?_) | (with_reducible refine e_lcU (gin_tup (gsin_one (by decide) (gsin_one (by decide) gsin_nil))) ?_) | (with_reducible refine g_tup rfl ?_) | (with_reducible refine gs_cons ?_) | (with_reducible refine gs_nil ?_)
  | (with_reducible refine And.intro lenz3 ?_) | (with_reducible refine Exists.intro _ (Exists.intro _ (And.intro rfl ?_)))
  | (with_reducible refine EN.i_enumT ?_) | (with_reducible refine unr_e3 ?_) | (with_reducible refine e_methT (fun _ => rfl) ?_) | (with_reducible refine a_star ?_)
  | (with_reducible refine r_TW (by assumption) ?_) | (with_reducible refine r_TW (Wth.tm _) ?_))
local macro_rules | `(tactic| walk_at "d1") => `(tactic| first | (with_reducible refine Exists.intro _ (Exists.intro _ (And.intro rfl ?_))) | (with_reducible refine And.intro len2' ?_))
local macro_rules | `(tactic| walk_at "d") => `(tactic| repeat (walk_at "d1"; try dsimp only [List.set, wipeD, List.map, Int.reduceAdd]))
local macro_rules | `(tactic| walk_at "d1") => `(tactic| first
  | (with_reducible refine And.intro rfl ?_) | (with_reducible refine ixT0 ?_) | (with_reducible refine ixT1 ?_) | (with_reducible refine ixL0 ?_) | (with_reducible refine ixL1 ?_) | (with_reducible refine ixL2 ?_) | (with_reducible refine ixL3 ?_))
local macro_rules | `(tactic| walk_at "d1") => `(tactic| first | (with_reducible refine isi_SS (by assumption) ?_) | (with_reducible refine isi_TT (by assumption) ?_) | (with_reducible refine isi_RR (by assumption) ?_))
local macro_rules | `(tactic| walk_at "d1") => `(tactic| first | (with_reducible refine s_asg ?_))
local macro_rules | `(tactic| walk_at "bn") => `(tactic| repeat (first | with_reducible assumption | with_reducible apply Bn.mul | with_reducible apply Bn.sub | with_reducible apply Bn.neg | with_reducible apply Bn.add | with_reducible apply Bn.addL))
local macro_rules | `(tactic| walk_at "d1") => `(tactic| first
  | (with_reducible refine ixT0 ?_) | (with_reducible refine ixT1 ?_) | (with_reducible refine ixT2 ?_) | (with_reducible refine And.intro rfl ?_) | (with_reducible refine And.intro len2' ?_) | (with_reducible refine ri (Cc := CMulW) ?_ ?_; refine bmul (by walk_at "bn") (by walk_at "bn") (by omega))
  | (with_reducible refine And.intro len2' ?_) | (with_reducible refine And.intro len3' ?_) | (with_reducible refine And.intro len1' ?_) | (with_reducible refine And.intro len0' ?_))
section
variable {P : Program} {w : World} {K : PySem.W.Frag} {mg : Str → Option Value} {base : Heap}
/-- a point of three fractions -/
def Pnt (d : D) : Prop := ∃ x y z, d = .tup [x, y, z] ∧ Fr 45 x ∧ Fr 45 y ∧ Fr 45 z
theorem fr01 {n : Nat} (h : 0 < n) : Fr n (.tup [.int 0, .int 1]) := ⟨0, 1, rfl, by decide, ⟨by show 0 < _; exact Nat.two_pow_pos _⟩, ⟨by show 1 < _; exact Nat.one_lt_two_pow (by omega)⟩⟩
def S_faces : SpD := fun ds m k => ∃ (rows : List D) (mn : Int), ds = [.lst rows, .int mn] ∧ (mn = 1 ∧ rows.length ≤ 7 ∨ mn = 2 ∧ rows.length ≤ 7 ∨ mn = 3 ∧ rows.length ≤ 3) ∧ (∀ x ∈ rows, Rw 2 x) ∧ ∀ ps, (∀ p ∈ ps, Pnt p) → ps ≠ [] → ps.length < 90000 → k (.lst ps) m
structure Fcs (P : Program) (w : World) (K : PySem.W.Frag) (mg : Str → Option Value) (base : Heap) : Prop where
  lin : Fn P w K mg base 2 (He.ga K "_law_line") ["_law_rows", "_law_at"] S_line
  pln : Fn P w K mg base 3 (He.ga K "_law_plane") ["_law_rows", "_law_at", "_law_other"] S_plane
  rom : Fn P w K mg base 3 (He.ga K "_law_room") ["_law_rows"] S_room
  wor : Fn P w K mg base 2 (He.ga K "_law_worths") ["_law_found"] S_worths
  fix : Fn P w K mg base 1 (He.ga K "_law_fixed") ["_law_rows", "_law_at", "_law_fraction"] S_fixed
theorem sc_law_faces : FnScope ["_law_rows", "_law_many", "_law_found", "_law_nought", "_law_x", "_law_lines", "_law_y", "_law_z"] ["_law_rows", "_law_many"] (defScope s_law_faces) := ⟨rfl, rfl, rfl, by decide +kernel, rfl, by decide +kernel, by decide +kernel⟩
theorem fn_faces (T : Txt K mg) (O : Fcs P w K mg base) : Fn P w K mg base 4 (He.ga K "_law_faces") ["_law_rows", "_law_many"] S_faces := by
  obtain ⟨⟨⟨_, G_law_line, b_law_line⟩, k_law_line⟩, ⟨⟨_, G_law_plane, b_law_plane⟩, k_law_plane⟩, ⟨⟨_, G_law_room, b_law_room⟩, k_law_room⟩, ⟨⟨_, G_law_worths, b_law_worths⟩, k_law_worths⟩, ⟨⟨_, G_law_fixed, b_law_fixed⟩, k_law_fixed⟩⟩ := O
  refine fn_of1 (kk := 3) T.F_law_faces sc_law_faces (fun ds m k h => by obtain ⟨a, n, rfl, _⟩ := h; rfl) (fun _ _ _ _ _ _ us hl => match us, hl with | [_, _], _ => rfl) ?_
  intro cdv A outer s H E hr
  refine ⟨_, (pss_cons (ps_par (i := 2) (j := 3) rfl sc_law_faces.nd rfl rfl (by decide) rfl rfl (pa_cons (pe_lst pa_nil) (pa_cons (pe_tup (pa_cons pe_int (pa_cons pe_int pa_nil))) pa_nil)) (by rfl))
      (pss_cons (ps_for PassesOwn.never rfl (pi_list (pe_call G_law_worths (hr.mono (by decide)) rfl T.g_law_worths k_law_worths b_law_worths .nil pass0 (pa_cons (pe_ix ix_seq (pe_lst (pa_cons (pe_call G_law_line (hr.mono (by decide)) rfl T.g_law_line k_law_line b_law_line .nil pass0 (pa_cons (pv 0) (pa_cons pe_int pa_nil))) (pa_cons (pe_call G_law_plane (hr.mono (by decide)) rfl T.g_law_plane k_law_plane b_law_plane .nil pass0 (pa_cons (pv 0) (pa_cons pe_int (pa_cons pe_int pa_nil)))) (pa_cons (pe_call G_law_room (hr.mono (by decide)) rfl T.g_law_room k_law_room b_law_room .nil pass0 (pa_cons (pv 0) pa_nil)) pa_nil)))) (pe_op op_sub (pv 1) pe_int) (fun _ _ => rfl)) pa_nil))) (pg_name (i := 4) sc_law_faces.nd rfl (.inl rfl)) (pss_cons (ps_if (pt_cmpR op_eq (pv 1) pe_int (nomark _)) (pss_cons (ps_expr (pe_bm PySem.F.plainAttrs_list PySem.F.slot_list_append PySem.F.type_list_append mt_append (pv 2) (pa_cons (pe_tup (pa_cons (pv 4) (pa_cons (pv 3) (pa_cons (pv 3) pa_nil)))) pa_nil)))
      (pss_one ps_continue)) pss_nil)
      (pss_cons (ps_set (i := 5) sc_law_faces.nd rfl (.inl rfl) (pe_call G_law_fixed (hr.mono (by decide)) rfl T.g_law_fixed k_law_fixed b_law_fixed .nil pass0 (pa_cons (pv 0) (pa_cons pe_int (pa_cons (pv 4) pa_nil)))))
      (pss_one (ps_for PassesOwn.never rfl (pi_list (pe_call G_law_worths (hr.mono (by decide)) rfl T.g_law_worths k_law_worths b_law_worths .nil pass0 (pa_cons (pe_ix ix_seq (pe_lst (pa_cons (pe_call G_law_line (hr.mono (by decide)) rfl T.g_law_line k_law_line b_law_line .nil pass0 (pa_cons (pv 5) (pa_cons pe_int pa_nil))) (pa_cons (pe_call G_law_plane (hr.mono (by decide)) rfl T.g_law_plane k_law_plane b_law_plane .nil pass0 (pa_cons (pv 5) (pa_cons pe_int (pa_cons pe_int pa_nil)))) pa_nil))) (pe_op op_sub (pv 1) pe_int) (fun _ _ => rfl)) pa_nil))) (pg_name (i := 6) sc_law_faces.nd rfl (.inl rfl)) (pss_cons (ps_if (pt_cmpR op_eq (pv 1) pe_int (nomark _)) (pss_cons (ps_expr (pe_bm PySem.F.plainAttrs_list PySem.F.slot_list_append PySem.F.type_list_append mt_append (pv 2) (pa_cons (pe_tup (pa_cons (pv 4) (pa_cons (pv 6) (pa_cons (pv 3) pa_nil)))) pa_nil)))
      (pss_one ps_continue)) pss_nil)
      (pss_one (ps_for PassesOwn.never rfl (pi_list (pe_call G_law_worths (hr.mono (by decide)) rfl T.g_law_worths k_law_worths b_law_worths .nil pass0 (pa_cons (pe_call G_law_line (hr.mono (by decide)) rfl T.g_law_line k_law_line b_law_line .nil pass0 (pa_cons (pe_call G_law_fixed (hr.mono (by decide)) rfl T.g_law_fixed k_law_fixed b_law_fixed .nil pass0 (pa_cons (pv 5) (pa_cons pe_int (pa_cons (pv 6) pa_nil)))) (pa_cons pe_int pa_nil))) pa_nil))) (pg_name (i := 7) sc_law_faces.nd rfl (.inl rfl)) (pss_one (ps_expr (pe_bm PySem.F.plainAttrs_list PySem.F.slot_list_append PySem.F.type_list_append mt_append (pv 2) (pa_cons (pe_tup (pa_cons (pv 4) (pa_cons (pv 6) (pa_cons (pv 7) pa_nil)))) pa_nil))))))))))))
      (pss_one (ps_ret (pv 2))))), ?_⟩
  intro ds m k hS
  obtain ⟨rows, mn, rfl, hmn, hrw, hk⟩ := hS
  have hend : ∀ {acc : List D} {p : Addr} {x3 x4 x5 x6 x7 x1 : Option D} {ke : KS} {m' : Mu}, m p = none → Sub (updM m p (.lst acc)) m' → (∀ q ∈ acc, Pnt q) → acc ≠ [] → acc.length < 90000 → ke.rt = k → wS K (tRet (tVar 2)) [some (.lst rows), x1, some (.ref p), x3, x4, x5, x6, x7] m' ke := by
    intro acc p x3 x4 x5 x6 x7 x1 ke m' hp hsb h1 h2 h3 e
    refine wS.drop hsb ?_
    refine s_frz (i := 2) rfl updM_same ?_
    rw [del_upd hp]
    dsimp only [List.set]
    walk_at "d"
    rw [e]
    exact hk _ h1 h2 h3
  walk_at "s"
  rcases hmn with ⟨rfl, hl⟩ | ⟨rfl, hl⟩ | ⟨rfl, hl⟩
  · refine s_seq (s_par (a_cons (e_lstM (a_nil ⟨len0', fun p hp => ?_⟩))))
    walk_at "d"
    refine e_lst (a_cons (e_frz ?_))
    walk_at "d"
    refine ⟨rows, 0, 2, rfl, by omega, by omega, hrw, fun b ys hb hy hyl => ⟨b, ys, _, rfl, updM_same, by rw [del_upd hb]; exact Sub.refl, ?_⟩⟩
    walk_at "d"
    refine ⟨rows, 0, 1, 2, rfl, by omega, by omega, hrw, by omega, fun ys2 hy2 hyl2 => ?_⟩
    walk_at "d"
    refine ⟨rows, 2, rfl, by omega, hrw, by omega, fun ys3 hy3 hyl3 => ?_⟩
    walk_at "d"
    try dsimp only [Int.reduceSub]
    refine r_ix1 (r_ixL (d := .lst ys) rfl ?_)
    walk_at "d"
    have hsl : ys.length ≤ 7 := by
      have e1 : rows.length * rows.length ≤ 7 * 7 := Nat.mul_le_mul (by omega) (by omega)
      omega
    refine ⟨ys, 2, rfl, by omega, hy, by omega, fun xs hx hx0 hxl => ?_⟩
    walk_at "d"
    have hx1 : 0 < xs.length := List.length_pos_iff.mpr hx0
    refine unr_idx (i := 0) (fun i r' m' => ∃ (acc : List D) (x4 x5 x6 x7 : Option D), Sub (updM m p (.lst acc)) m' ∧ r' = [some (.lst rows), some (.int 1), some (.ref p), some (.tup [.int 0, .int 1]), x4, x5, x6, x7] ∧ (i ≤ acc.length ∧ acc.length ≤ i * 1) ∧ ∀ y ∈ acc, Pnt y) ⟨[], _, _, _, _, Sub.refl, rfl, ⟨Nat.le_refl _, by simp⟩, by simp⟩ ?_ ?_
    · rintro i x r' m' hi ⟨acc, x4, x5, x6, x7, hsb, rfl, hac, hrow⟩
      have hil : i < xs.length := (List.getElem?_eq_some_iff.mp hi).1
      have hxx := hx x (List.mem_of_getElem? hi)
      rw [Nat.zero_add] at hac ⊢
      refine wG.drop hsb ?_
      walk_at "d"
      refine s_app (e_var rfl ⟨p, acc, rfl, updM_same, ?_⟩)
      walk_at "d"
      refine ⟨acc, updM_same, by omega, ?_⟩
      refine s_cont ?_
      rw [updM_updM]
      refine ⟨_, _, _, _, _, Sub.refl, rfl, by rw [List.length_append, List.length_singleton]; omega, fun y hy => ?_⟩
      rcases List.mem_append.mp hy with q | q
      · exact hrow y q
      · rw [List.mem_singleton.mp q]
        exact ⟨_, _, _, rfl, hxx.mono (by omega), fr01 (by decide), fr01 (by decide)⟩
    · rintro r' m' ⟨acc, x4, x5, x6, x7, hsb, rfl, hac, hrow⟩
      rw [Nat.zero_add] at hac
      exact hend hp hsb hrow (by intro e; rw [e, List.length_nil] at hac; omega) (by omega) rfl
  · refine s_seq (s_par (a_cons (e_lstM (a_nil ⟨len0', fun p hp => ?_⟩))))
    walk_at "d"
    refine e_lst (a_cons (e_frz ?_))
    walk_at "d"
    refine ⟨rows, 0, 2, rfl, by omega, by omega, hrw, fun b ys hb hy hyl => ⟨b, ys, _, rfl, updM_same, by rw [del_upd hb]; exact Sub.refl, ?_⟩⟩
    walk_at "d"
    refine ⟨rows, 0, 1, 2, rfl, by omega, by omega, hrw, by omega, fun ys2 hy2 hyl2 => ?_⟩
    walk_at "d"
    refine ⟨rows, 2, rfl, by omega, hrw, by omega, fun ys3 hy3 hyl3 => ?_⟩
    walk_at "d"
    try dsimp only [Int.reduceSub]
    refine r_ix1 (r_ixL (d := .lst ys2) rfl ?_)
    walk_at "d"
    have hsl : ys2.length ≤ 56 := by
      have e1 : rows.length * rows.length ≤ 7 * 7 := Nat.mul_le_mul (by omega) (by omega)
      omega
    refine ⟨ys2, 5, rfl, by omega, hy2, by omega, fun xs hx hx0 hxl => ?_⟩
    walk_at "d"
    have hx1 : 0 < xs.length := List.length_pos_iff.mpr hx0
    refine unr_idx (i := 0) (fun i r' m' => ∃ (acc : List D) (x4 x5 x6 x7 : Option D), Sub (updM m p (.lst acc)) m' ∧ r' = [some (.lst rows), some (.int 2), some (.ref p), some (.tup [.int 0, .int 1]), x4, x5, x6, x7] ∧ (i ≤ acc.length ∧ acc.length ≤ i * 17) ∧ ∀ y ∈ acc, Pnt y) ⟨[], _, _, _, _, Sub.refl, rfl, ⟨Nat.le_refl _, by simp⟩, by simp⟩ ?_ ?_
    · rintro i x r' m' hi ⟨acc, x4, x5, x6, x7, hsb, rfl, hac, hrow⟩
      have hil : i < xs.length := (List.getElem?_eq_some_iff.mp hi).1
      have hxx := hx x (List.mem_of_getElem? hi)
      rw [Nat.zero_add] at hac ⊢
      refine wG.drop hsb ?_
      walk_at "d"
      refine ⟨rows, 0, x, 2, 6, rfl, by omega, by omega, hrw, hxx, by omega, by omega, fun ls hls hll => ?_⟩
      walk_at "d"
      refine e_lst (a_cons (e_frz ?_))
      walk_at "d"
      refine ⟨ls, 1, 9, rfl, by omega, by omega, hls, fun b zs hb hz hzl => ⟨b, zs, _, rfl, updM_same, by rw [del_upd hb]; exact Sub.refl, ?_⟩⟩
      walk_at "d"
      refine ⟨ls, 1, 2, 9, rfl, by omega, by omega, hls, by omega, fun zs2 hz2 hzl2 => ?_⟩
      walk_at "d"
      try dsimp only [Int.reduceSub]
      refine r_ix1 (r_ixL (d := .lst zs) rfl ?_)
      walk_at "d"
      have hsl2 : zs.length ≤ 7 := by
        have e1 : ls.length * ls.length ≤ 7 * 7 := Nat.mul_le_mul (by omega) (by omega)
        omega
      refine ⟨zs, 9, rfl, by omega, hz, by omega, fun ws hw hw0 hwl => ?_⟩
      walk_at "d"
      have hw1 : 0 < ws.length := List.length_pos_iff.mpr hw0
      obtain ⟨N, hN⟩ : ∃ N, N = acc.length := ⟨_, rfl⟩
      refine unr_idx (i := 0) (fun j r' m' => ∃ (acc : List D) (x6 x7 : Option D), Sub (updM m p (.lst acc)) m' ∧ r' = [some (.lst rows), some (.int 2), some (.ref p), some (.tup [.int 0, .int 1]), some x, some (.lst ls), x6, x7] ∧ (N + j ≤ acc.length ∧ acc.length ≤ N + j * 1) ∧ ∀ y ∈ acc, Pnt y) ⟨acc, _, _, Sub.refl, rfl, by omega, hrow⟩ ?_ ?_
      · rintro j y r' m' hj ⟨acc, x6, x7, hsb, rfl, hac2, hrow⟩
        have hjl : j < ws.length := (List.getElem?_eq_some_iff.mp hj).1
        have hyy := hw y (List.mem_of_getElem? hj)
        rw [Nat.zero_add] at hac2 ⊢
        refine wG.drop hsb ?_
        walk_at "d"
        refine s_app (e_var rfl ⟨p, acc, rfl, updM_same, ?_⟩)
        walk_at "d"
        refine ⟨acc, updM_same, by omega, ?_⟩
        refine s_cont ?_
        rw [updM_updM]
        refine ⟨_, _, _, Sub.refl, rfl, by rw [List.length_append, List.length_singleton]; omega, fun u hu => ?_⟩
        rcases List.mem_append.mp hu with q | q
        · exact hrow u q
        · rw [List.mem_singleton.mp q]
          exact ⟨_, _, _, rfl, hxx.mono (by omega), hyy.mono (by omega), fr01 (by decide)⟩
      · rintro r' m' ⟨acc, x6, x7, hsb, rfl, hac2, hrow⟩
        rw [Nat.zero_add] at hac2
        exact ⟨acc, _, _, _, _, hsb, rfl, by omega, hrow⟩
    · rintro r' m' ⟨acc, x4, x5, x6, x7, hsb, rfl, hac, hrow⟩
      rw [Nat.zero_add] at hac
      exact hend hp hsb hrow (by intro e; rw [e, List.length_nil] at hac; omega) (by omega) rfl
  · refine s_seq (s_par (a_cons (e_lstM (a_nil ⟨len0', fun p hp => ?_⟩))))
    walk_at "d"
    refine e_lst (a_cons (e_frz ?_))
    walk_at "d"
    refine ⟨rows, 0, 2, rfl, by omega, by omega, hrw, fun b ys hb hy hyl => ⟨b, ys, _, rfl, updM_same, by rw [del_upd hb]; exact Sub.refl, ?_⟩⟩
    walk_at "d"
    refine ⟨rows, 0, 1, 2, rfl, by omega, by omega, hrw, by omega, fun ys2 hy2 hyl2 => ?_⟩
    walk_at "d"
    refine ⟨rows, 2, rfl, by omega, hrw, by omega, fun ys3 hy3 hyl3 => ?_⟩
    walk_at "d"
    try dsimp only [Int.reduceSub]
    refine r_ix1 (r_ixL (d := .lst ys3) rfl ?_)
    walk_at "d"
    have hsl : ys3.length ≤ 48 := by
      have e1 : rows.length * rows.length ≤ 7 * 7 := Nat.mul_le_mul (by omega) (by omega)
      have e2 : rows.length * (rows.length * (2 + rows.length)) ≤ 3 * (3 * 5) := Nat.mul_le_mul (by omega) (Nat.mul_le_mul (by omega) (by omega))
      omega
    refine ⟨ys3, 9, rfl, by omega, hy3, by omega, fun xs hx hx0 hxl => ?_⟩
    walk_at "d"
    have hx1 : 0 < xs.length := List.length_pos_iff.mpr hx0
    refine unr_idx (i := 0) (fun i r' m' => ∃ (acc : List D) (x4 x5 x6 x7 : Option D), Sub (updM m p (.lst acc)) m' ∧ r' = [some (.lst rows), some (.int 3), some (.ref p), some (.tup [.int 0, .int 1]), x4, x5, x6, x7] ∧ (i ≤ acc.length ∧ acc.length ≤ i * 243) ∧ ∀ y ∈ acc, Pnt y) ⟨[], _, _, _, _, Sub.refl, rfl, ⟨Nat.le_refl _, by simp⟩, by simp⟩ ?_ ?_
    · rintro i x r' m' hi ⟨acc, x4, x5, x6, x7, hsb, rfl, hac, hrow⟩
      have hil : i < xs.length := (List.getElem?_eq_some_iff.mp hi).1
      have hxx := hx x (List.mem_of_getElem? hi)
      rw [Nat.zero_add] at hac ⊢
      refine wG.drop hsb ?_
      walk_at "d"
      refine ⟨rows, 0, x, 2, 10, rfl, by omega, by omega, hrw, hxx, by omega, by omega, fun ls hls hll => ?_⟩
      walk_at "d"
      refine e_lst (a_cons (e_frz ?_))
      walk_at "d"
      refine ⟨ls, 1, 13, rfl, by omega, by omega, hls, fun b zs hb hz hzl => ⟨b, zs, _, rfl, updM_same, by rw [del_upd hb]; exact Sub.refl, ?_⟩⟩
      walk_at "d"
      refine ⟨ls, 1, 2, 13, rfl, by omega, by omega, hls, by omega, fun zs2 hz2 hzl2 => ?_⟩
      walk_at "d"
      try dsimp only [Int.reduceSub]
      refine r_ix1 (r_ixL (d := .lst zs2) rfl ?_)
      walk_at "d"
      have hsl2 : zs2.length ≤ 12 := by
        have e1 : ls.length * ls.length ≤ 3 * 3 := Nat.mul_le_mul (by omega) (by omega)
        omega
      refine ⟨zs2, 27, rfl, by omega, hz2, by omega, fun ws hw hw0 hwl => ?_⟩
      walk_at "d"
      have hw1 : 0 < ws.length := List.length_pos_iff.mpr hw0
      obtain ⟨N, hN⟩ : ∃ N, N = acc.length := ⟨_, rfl⟩
      refine unr_idx (i := 0) (fun j r' m' => ∃ (acc : List D) (x6 x7 : Option D), Sub (updM m p (.lst acc)) m' ∧ r' = [some (.lst rows), some (.int 3), some (.ref p), some (.tup [.int 0, .int 1]), some x, some (.lst ls), x6, x7] ∧ (N + j ≤ acc.length ∧ acc.length ≤ N + j * 9) ∧ ∀ y ∈ acc, Pnt y) ⟨acc, _, _, Sub.refl, rfl, by omega, hrow⟩ ?_ ?_
      · rintro j y r' m' hj ⟨acc, x6, x7, hsb, rfl, hac2, hrow⟩
        have hjl : j < ws.length := (List.getElem?_eq_some_iff.mp hj).1
        have hyy := hw y (List.mem_of_getElem? hj)
        rw [Nat.zero_add] at hac2 ⊢
        refine wG.drop hsb ?_
        refine g_name ?_
        dsimp only [List.set]
        refine s_seqI (fun r1 m1 => r1 = [some (.lst rows), some (.int 3), some (.ref p), some (.tup [.int 0, .int 1]), some x, some (.lst ls), some y, x7] ∧ m1 = updM m p (.lst acc)) ?_ ?_
        · walk_at "d"
        rintro _ _ ⟨rfl, rfl⟩
        refine s_forU (i_list (e_call0 (a_cons (e_frz ?_))))
        walk_at "d"
        refine ⟨ls, 1, y, 13, 28, rfl, by omega, by omega, hls, hyy, by omega, by omega, fun lt hlt htl => ?_⟩
        walk_at "d"
        refine ⟨lt, 2, 42, rfl, by omega, by omega, hlt, fun b us hb hu hul => ⟨b, us, _, rfl, updM_same, by rw [del_upd hb]; exact Sub.refl, ?_⟩⟩
        walk_at "d"
        refine ⟨us, 42, rfl, by omega, hu, by omega, fun vs hv hv0 hvl => ?_⟩
        walk_at "d"
        have hv1 : 0 < vs.length := List.length_pos_iff.mpr hv0
        obtain ⟨N2, hN2⟩ : ∃ N2, N2 = acc.length := ⟨_, rfl⟩
        refine unr_idx (i := 0) (fun l r' m' => ∃ (acc : List D) (x7 : Option D), Sub (updM m p (.lst acc)) m' ∧ r' = [some (.lst rows), some (.int 3), some (.ref p), some (.tup [.int 0, .int 1]), some x, some (.lst ls), some y, x7] ∧ acc.length = N2 + l ∧ ∀ y ∈ acc, Pnt y) ⟨acc, _, Sub.refl, rfl, by omega, hrow⟩ ?_ ?_
        · rintro l z r' m' hl3 ⟨acc, x7, hsb, rfl, hac3, hrow⟩
          have hll3 : l < vs.length := (List.getElem?_eq_some_iff.mp hl3).1
          have hzz := hv z (List.mem_of_getElem? hl3)
          rw [Nat.zero_add] at hac3 ⊢
          refine wG.drop hsb ?_
          walk_at "d"
          refine s_app (e_var rfl ⟨p, acc, rfl, updM_same, ?_⟩)
          walk_at "d"
          refine ⟨acc, updM_same, by omega, ?_⟩
          rw [updM_updM]
          refine ⟨_, _, Sub.refl, rfl, by rw [List.length_append, List.length_singleton]; omega, fun u hu => ?_⟩
          rcases List.mem_append.mp hu with q | q
          · exact hrow u q
          · rw [List.mem_singleton.mp q]
            exact ⟨_, _, _, rfl, hxx.mono (by omega), hyy.mono (by omega), hzz.mono (by omega)⟩
        · rintro r' m' ⟨acc, x7, hsb, rfl, hac3, hrow⟩
          rw [Nat.zero_add] at hac3
          exact ⟨acc, _, _, hsb, rfl, by omega, hrow⟩
      · rintro r' m' ⟨acc, x6, x7, hsb, rfl, hac2, hrow⟩
        rw [Nat.zero_add] at hac2
        exact ⟨acc, _, _, _, _, hsb, rfl, by omega, hrow⟩
    · rintro r' m' ⟨acc, x4, x5, x6, x7, hsb, rfl, hac, hrow⟩
      rw [Nat.zero_add] at hac
      exact hend hp hsb hrow (by intro e; rw [e, List.length_nil] at hac; omega) (by omega) rfl
end
end LW
end

section
set_option Elab.async false
set_option linter.all false
set_option maxRecDepth 100000
set_option maxHeartbeats 1000000
set_option exponentiation.threshold 10000
namespace LW
open PySem PySem.Spec PyProof.Rows L2 DL MA
local macro_rules | `(tactic| walk_at "d1") => `(tactic| first
  | (with_reducible refine s_seq ?_) | (with_reducible refine s_set ?_) | (with_reducible refine s_ret ?_) | (with_reducible refine s_if ?_) | (with_reducible refine s_fld ?_) | (with_reducible refine s_next ?_) | (with_reducible refine s_par ?_)
  | (with_reducible refine e_var rfl ?_) | (with_reducible refine e_int ?_) | (with_reducible refine e_bl ?_) | (with_reducible refine e_non ?_) | (with_reducible refine e_str ?_) | (with_reducible refine e_ty ?_) | (with_reducible refine e_ref ?_)
  | (with_reducible refine e_op ?_) | (with_reducible refine e_un ?_) | (with_reducible refine e_cb ?_) | (with_reducible refine e_if ?_) | (with_reducible refine e_andV ?_) | (with_reducible refine e_orV ?_) | (with_reducible refine e_notV ?_) | (with_reducible refine e_fld ?_)
  | (with_reducible refine e_call0 ?_) | (with_reducible refine e_meth0 ?_) | (with_reducible refine e_make (dds := []) nilD ?_) | (with_reducible refine e_stat0 ?_)
  | (with_reducible refine a_nil ?_) | (with_reducible refine a_cons ?_) | (with_reducible refine e_tup ?_)
  | (with_reducible refine t_test ?_) | (with_reducible refine t_B ?_) | (with_reducible refine t_and ?_) | (with_reducible refine t_or ?_) | (with_reducible refine t_not ?_)
  | (with_reducible refine ri0 ?_) | (with_reducible refine rb0 ?_) | (with_reducible refine req ?_) | (with_reducible refine rne ?_) | (with_reducible refine reqb ?_) | (with_reducible refine ui ?_)
  | (with_reducible refine c_abs ?_) | (with_reducible refine c_int1 ?_) | (with_reducible refine c_bool1 ?_)
  | (with_reducible refine Exists.intro _ (And.intro rfl ?_)))
local macro_rules | `(tactic| walk_at "d") => `(tactic| repeat (walk_at "d1"; try dsimp only [List.set, wipeD, List.map]))
local macro_rules | `(tactic| walk_at "s") => `(tactic| dsimp only [cxOf, Cx.nox, Cx.wish, startD, List.map, List.length, Nat.reduceAdd, Nat.reduceSub, List.reduceReplicate, HAppend.hAppend, Append.append, List.append])
local macro_rules | `(tactic| walk_at "d1") => `(tactic| with_reducible refine e_lst ?_)
local macro_rules | `(tactic| walk_at "d1") => `(tactic| first
  | (with_reducible refine fld_top (by assumption) ?_) | (with_reducible refine fld_bottom (by assumption) ?_)
  | (with_reducible refine isnum_num (by assumption) (by assumption) ?_) | (with_reducible refine assh_num (by assumption) ?_) | (with_reducible refine isnum_num (by assumption) (Num.sh _) ?_) | (with_reducible refine assh_num (Num.sh _) ?_) | (with_reducible refine isnum_num (by assumption) (Num.int _) ?_) | (with_reducible refine assh_num (Num.int _) ?_)
  | (with_reducible refine e_Share1 ?_) | (with_reducible refine e_Share2 ?_))
local macro_rules | `(tactic| walk_at "d1") => `(tactic| first | (with_reducible refine r_SN (by assumption) ?_) | (with_reducible refine r_SN (Num.sh _) ?_) | (with_reducible refine r_SN (Num.int _) ?_) | (with_reducible refine u_S ?_))
local macro_rules | `(tactic| walk_at "d1") => `(tactic| first
  | (with_reducible refine fld_number (by assumption) ?_) | (with_reducible refine fld_times (by assumption) ?_) | (with_reducible refine e_Term ?_)
  | (with_reducible refine e_lcU (gin_name (by decide)) ?_) | (with_reducible refine i_rng1 ?_) | (with_reducible refine i_tup ?_) | (with_reducible refine i_list ?_) | (with_reducible refine t_yes ?_) | (with_reducible refine g_name ?_)
  | (with_reducible refine unrc_r3 ?_) | (with_reducible refine unrc_r4 ?_) | (with_reducible refine unr_r3 ?_) | (with_reducible refine unr_r4 ?_) | (with_reducible refine unr_r2 ?_) | (with_reducible refine unrc_cons ?_) | (with_reducible refine unrc_nil ?_) | (with_reducible refine unr_cons ?_) | (with_reducible refine unr_nil ?_) | (with_reducible refine s_forU ?_)
  | (with_reducible refine iteT ?_) | (with_reducible refine iteF ?_) | (with_reducible refine e_chain ?_) | (with_reducible refine And.intro len3 ?_) | (with_reducible refine And.intro len4 ?_) | (with_reducible refine And.intro (by decide) ?_) | (with_reducible refine ite_d1 (by decide) ?_) | (with_reducible refine ite_d0 (by decide) ?_))
local macro_rules | `(tactic| walk_at "d1") => `(tactic| first
  | (with_reducible refine isworth (by assumption) (by assumption) ?_) | (with_reducible refine asterm (by assumption) ?_) | (with_reducible refine isworth (by assumption) (Wth.tm _) ?_) | (with_reducible refine asterm (Wth.tm _) ?_)
  | (with_reducible refine i_zipT ?_) | (with_reducible refine unrc_z3 ?_) | (with_reducible refine e_lcU (gin_tup (gsin_one (by decide) (gsin_one (by decide) gsin_nil))) ?_) | (with_reducible refine g_tup rfl ?_) | (with_reducible refine gs_cons ?_) | (with_reducible refine gs_nil ?_)
  | (with_reducible refine And.intro lenz3 ?_) | (with_reducible refine Exists.intro _ (Exists.intro _ (And.intro rfl ?_)))
  | (with_reducible refine EN.i_enumT ?_) | (with_reducible refine unr_e3 ?_) | (with_reducible refine e_methT (fun _ => rfl) ?_) | (with_reducible refine a_star ?_)
  | (with_reducible refine r_TW (by assumption) ?_) | (with_reducible refine r_TW (Wth.tm _) ?_))
local macro_rules | `(tactic| walk_at "d1") => `(tactic| first | (with_reducible refine Exists.intro _ (Exists.intro _ (And.intro rfl ?_))) | (with_reducible refine And.intro len2' ?_))
local macro_rules | `(tactic| walk_at "d") => `(tactic| repeat (walk_at "d1"; try dsimp only [List.set, wipeD, List.map, Int.reduceAdd]))
local macro_rules | `(tactic| walk_at "d1") => `(tactic| first
  | (with_reducible refine And.intro rfl ?_) | (with_reducible refine ixT0 ?_) | (with_reducible refine ixT1 ?_) | (with_reducible refine ixL0 ?_) | (with_reducible refine ixL1 ?_) | (with_reducible refine ixL2 ?_) | (with_reducible refine ixL3 ?_))
local macro_rules | `(tactic| walk_at "d1") => `(tactic| first | (with_reducible refine isi_SS (by assumption) ?_) | (with_reducible refine isi_TT (by assumption) ?_) | (with_reducible refine isi_RR (by assumption) ?_))
local macro_rules | `(tactic| walk_at "d1") => `(tactic| first | (with_reducible refine s_asg ?_))
local macro_rules | `(tactic| walk_at "bn") => `(tactic| repeat (first | with_reducible assumption | with_reducible apply Bn.mul | with_reducible apply Bn.sub | with_reducible apply Bn.neg | with_reducible apply Bn.add | with_reducible apply Bn.addL))
local macro_rules | `(tactic| walk_at "d1") => `(tactic| first
  | (with_reducible refine ixT0 ?_) | (with_reducible refine ixT1 ?_) | (with_reducible refine ixT2 ?_) | (with_reducible refine And.intro rfl ?_) | (with_reducible refine And.intro len2' ?_) | (with_reducible refine ri (Cc := CMulW) ?_ ?_; refine bmul (by walk_at "bn") (by walk_at "bn") (by omega))
  | (with_reducible refine And.intro len2' ?_) | (with_reducible refine And.intro len3' ?_) | (with_reducible refine And.intro len1' ?_) | (with_reducible refine And.intro len0' ?_))
local macro_rules | `(tactic| walk_at "d1") => `(tactic| first
  | (with_reducible refine ixT0 ?_) | (with_reducible refine ixT1 ?_) | (with_reducible refine ixT2 ?_) | (with_reducible refine ixT3 ?_) | (with_reducible refine And.intro rfl ?_))
section
variable {P : Program} {w : World} {K : PySem.W.Frag} {mg : Str → Option Value} {base : Heap}
def S_pick : SpD := fun ds m k => ∃ (a : Addr) (n : Nat) (xs : List D), ds = [.ref a, .lst xs] ∧ xs ≠ [] ∧ xs.length < 100000 ∧ Dr a (n + 1) m ∧ ∀ x m', x ∈ xs → Off a m m' → Dr a n m' → k x m'
theorem sc_law_pick : FnScope ["_law_draws", "_law_xs"] ["_law_draws", "_law_xs"] (defScope s_law_pick) := ⟨rfl, rfl, rfl, by decide +kernel, rfl, by decide +kernel, by decide +kernel⟩
theorem fn_pick (T : Txt K mg) (Od : Fn P w K mg base 1 (He.ga K "_law_draw") ["_law_draws", "_law_many"] S_draw) : Fn P w K mg base 2 (He.ga K "_law_pick") ["_law_draws", "_law_xs"] S_pick := by
  obtain ⟨⟨_, G_law_draw, b_law_draw⟩, k_law_draw⟩ := Od
  refine fn_of1 (kk := 1) T.F_law_pick sc_law_pick (fun ds m k h => by obtain ⟨a, n, xs, rfl, _⟩ := h; rfl) (fun _ _ _ _ _ _ us hl => match us, hl with | [_, _], _ => rfl) ?_
  intro cdv A outer s H E hr
  refine ⟨_, (pss_one (ps_ret (pe_ix ix_seq (pv 1) (pe_call G_law_draw (hr.mono (by decide)) rfl T.g_law_draw k_law_draw b_law_draw .nil pass0 (pa_cons (pv 0) (pa_cons (pe_callB call_len_seq rfl T.n_len PySem.boot_len (pa_cons (pv 1) pa_nil)) pa_nil))) (fun _ _ => rfl)))), ?_⟩
  intro ds m k hS
  obtain ⟨a, n, xs, rfl, hx, hl, hd, hk⟩ := hS
  have hpos : 0 < xs.length := List.length_pos_iff.mpr hx
  walk_at "s"
  walk_at "d"
  refine c_len (.inl ⟨_, rfl, rfl⟩) ?_
  walk_at "d"
  refine ⟨a, xs.length, n, rfl, by omega, by omega, hd, fun r m1 r0 r1 o1 d1 => ?_⟩
  walk_at "d"
  refine ix_memL r0 r1 fun d hd => ?_
  exact hk d m1 hd o1 d1
/-- three multiples, those from many on being 0 -/
def Tms (mn t0 t1 t2 : Int) : Prop := t0.natAbs ≤ 2 ∧ t1.natAbs ≤ 2 ∧ t2.natAbs ≤ 2 ∧ (mn = 1 → t1 = 0) ∧ (mn ≤ 2 → t2 = 0)
def S_ints : SpD := fun ds m k => ∃ (a : Addr) (n : Nat) (mn : Int), ds = [.ref a, .int mn, .int 2] ∧ (mn = 1 ∨ mn = 2 ∨ mn = 3) ∧ Dr a (n + 4) m ∧
  ∀ (c t0 t1 t2 : Int) m', c.natAbs ≤ 3 → Tms mn t0 t1 t2 → Off a m m' → Dr a n m' → k (.tup [.int c, .tup [.int t0, .int t1, .int t2]]) m'
theorem sc_law_ints : FnScope ["_law_draws", "_law_many", "_law_size", "_law_times", "_law_k"] ["_law_draws", "_law_many", "_law_size"] (defScope s_law_ints) := ⟨rfl, rfl, rfl, by decide +kernel, rfl, by decide +kernel, by decide +kernel⟩
theorem fn_ints (T : Txt K mg) (Od : Fn P w K mg base 1 (He.ga K "_law_draw") ["_law_draws", "_law_many"] S_draw) : Fn P w K mg base 2 (He.ga K "_law_ints") ["_law_draws", "_law_many", "_law_size"] S_ints := by
  obtain ⟨⟨_, G_law_draw, b_law_draw⟩, k_law_draw⟩ := Od
  refine fn_of1 (kk := 1) T.F_law_ints sc_law_ints (fun ds m k h => by obtain ⟨a, n, xs, rfl, _⟩ := h; rfl) (fun _ _ _ _ _ _ us hl => match us, hl with | [_, _, _], _ => rfl) ?_
  intro cdv A outer s H E hr
  refine ⟨_, (pss_cons (ps_setLc (i := 3) (own := [("_law_k", 4)]) rfl sc_law_ints.nd rfl rfl (sw_true rfl rfl rfl (by decide +kernel)) (pi_range1 rfl T.n_range (pa_cons pe_int pa_nil)) (blkOk_by (own := [("_law_k", 4)]) (N := ["_law_draws", "_law_many", "_law_size", "_law_times", "_law_k"]) (sc := defScope s_law_ints) (by decide +kernel)) (fun _ _ _ _ _ => (pg_name (i := 4) sc_law_ints.nd rfl (.inl rfl))) (fun _ _ _ _ _ => pts_nil) (fun _ _ _ _ _ => (pe_ifExp (pt_cmpR op_lt (pv 4) (pv 1) (nomark _)) (pe_op op_sub (pe_call G_law_draw (hr.mono (by decide)) rfl T.g_law_draw k_law_draw b_law_draw .nil pass0 (pa_cons (pv 0) (pa_cons (pe_op op_add (pe_op op_mulW pe_int (pv 2)) pe_int) pa_nil))) (pv 2)) pe_int)))
      (pss_one (ps_ret (pe_tup (pa_cons (pe_op op_sub (pe_call G_law_draw (hr.mono (by decide)) rfl T.g_law_draw k_law_draw b_law_draw .nil pass0 (pa_cons (pv 0) (pa_cons pe_int pa_nil))) pe_int) (pa_cons (pe_callTy call_tuple_of rfl T.n_tuple (by decide +kernel) (pa_cons (pv 3) pa_nil)) pa_nil)))))), ?_⟩
  intro ds m k hS
  obtain ⟨a, n, mn, rfl, hmn, hd, hk⟩ := hS
  walk_at "s"
  rcases hmn with rfl | rfl | rfl
  · walk_at "d"
    refine ri (cmul (B := 3) (C := 3) (by decide) (by decide) (by decide)) ?_
    walk_at "d"
    refine ⟨a, _, n + 3, rfl, by decide, by decide, hd.mono (by omega), fun t0 m0 g0 h0 o0 d0 => ?_⟩
    walk_at "d"
    refine ⟨a, _, n, rfl, by decide, by decide, d0.mono (by omega), fun c mc c0 c1 oc dc => ?_⟩
    walk_at "d"
    dsimp only [List.nil_append, List.cons_append]
    refine c_tuple ?_
    walk_at "d"
    exact hk (c - 3) (t0 - 2) 0 0 _ (by omega) ⟨by omega, by omega, by omega, by omega, by omega⟩ (o0.trans oc) dc
  · walk_at "d"
    refine ri (cmul (B := 3) (C := 3) (by decide) (by decide) (by decide)) ?_
    walk_at "d"
    refine ⟨a, _, n + 3, rfl, by decide, by decide, hd.mono (by omega), fun t0 m0 g0 h0 o0 d0 => ?_⟩
    walk_at "d"
    refine ri (cmul (B := 3) (C := 3) (by decide) (by decide) (by decide)) ?_
    walk_at "d"
    refine ⟨a, _, n + 2, rfl, by decide, by decide, d0.mono (by omega), fun t1 m1 g1 h1 o1 d1 => ?_⟩
    walk_at "d"
    refine ⟨a, _, n, rfl, by decide, by decide, d1.mono (by omega), fun c mc c0 c1 oc dc => ?_⟩
    walk_at "d"
    dsimp only [List.nil_append, List.cons_append]
    refine c_tuple ?_
    walk_at "d"
    exact hk (c - 3) (t0 - 2) (t1 - 2) 0 _ (by omega) ⟨by omega, by omega, by omega, by omega, by omega⟩ ((o0.trans o1).trans oc) dc
  · walk_at "d"
    refine ri (cmul (B := 3) (C := 3) (by decide) (by decide) (by decide)) ?_
    walk_at "d"
    refine ⟨a, _, n + 3, rfl, by decide, by decide, hd.mono (by omega), fun t0 m0 g0 h0 o0 d0 => ?_⟩
    walk_at "d"
    refine ri (cmul (B := 3) (C := 3) (by decide) (by decide) (by decide)) ?_
    walk_at "d"
    refine ⟨a, _, n + 2, rfl, by decide, by decide, d0.mono (by omega), fun t1 m1 g1 h1 o1 d1 => ?_⟩
    walk_at "d"
    refine ri (cmul (B := 3) (C := 3) (by decide) (by decide) (by decide)) ?_
    walk_at "d"
    refine ⟨a, _, n + 1, rfl, by decide, by decide, d1.mono (by omega), fun t2 m2 g2 h2 o2 d2 => ?_⟩
    walk_at "d"
    refine ⟨a, _, n, rfl, by decide, by decide, d2.mono (by omega), fun c mc c0 c1 oc dc => ?_⟩
    walk_at "d"
    dsimp only [List.nil_append, List.cons_append]
    refine c_tuple ?_
    walk_at "d"
    exact hk (c - 3) (t0 - 2) (t1 - 2) (t2 - 2) _ (by omega) ⟨by omega, by omega, by omega, by omega, by omega⟩ (((o0.trans o1).trans o2).trans oc) dc
def S_row : SpD := fun ds m k => ∃ (a : Addr) (n : Nat) (mn : Int), ds = [.ref a, .int mn] ∧ (mn = 1 ∨ mn = 2 ∨ mn = 3) ∧ Dr a (n + 6) m ∧
  ∀ (c t0 t1 t2 wy : Int) (st : Bool) m', c.natAbs ≤ 3 → Tms mn t0 t1 t2 → Off a m m' → Dr a n m' → k (.tup [.int c, .tup [.int t0, .int t1, .int t2], .bl st, .int wy]) m'
theorem sc_law_row : FnScope ["_law_draws", "_law_many", "_law_number_here", "_law_times"] ["_law_draws", "_law_many"] (defScope s_law_row) := ⟨rfl, rfl, rfl, by decide +kernel, rfl, by decide +kernel, by decide +kernel⟩
theorem fn_row (T : Txt K mg) (Od : Fn P w K mg base 1 (He.ga K "_law_draw") ["_law_draws", "_law_many"] S_draw) (Oi : Fn P w K mg base 2 (He.ga K "_law_ints") ["_law_draws", "_law_many", "_law_size"] S_ints) : Fn P w K mg base 3 (He.ga K "_law_row") ["_law_draws", "_law_many"] S_row := by
  obtain ⟨⟨_, G_law_draw, b_law_draw⟩, k_law_draw⟩ := Od
  obtain ⟨⟨_, G_law_ints, b_law_ints⟩, k_law_ints⟩ := Oi
  refine fn_of1 (kk := 2) T.F_law_row sc_law_row (fun ds m k h => by obtain ⟨a, n, xs, rfl, _⟩ := h; rfl) (fun _ _ _ _ _ _ us hl => match us, hl with | [_, _], _ => rfl) ?_
  intro cdv A outer s H E hr
  refine ⟨_, (pss_cons (ps_asg (pe_call G_law_ints (hr.mono (by decide)) rfl T.g_law_ints k_law_ints b_law_ints .nil pass0 (pa_cons (pv 0) (pa_cons (pv 1) (pa_cons pe_int pa_nil)))) (pg_tup rfl (pgs_cons (pg_name (i := 2) sc_law_row.nd rfl (.inl rfl)) (pgs_cons (pg_name (i := 3) sc_law_row.nd rfl (.inl rfl)) pgs_nil))))
      (pss_one (ps_ret (pe_tup (pa_cons (pv 2) (pa_cons (pv 3) (pa_cons (pe_cmpR op_eq (pe_call G_law_draw (hr.mono (by decide)) rfl T.g_law_draw k_law_draw b_law_draw .nil pass0 (pa_cons (pv 0) (pa_cons pe_int pa_nil))) pe_int (nomark _)) (pa_cons (pe_call G_law_draw (hr.mono (by decide)) rfl T.g_law_draw k_law_draw b_law_draw .nil pass0 (pa_cons (pv 0) (pa_cons pe_int pa_nil))) pa_nil)))))))), ?_⟩
  intro ds m k hS
  obtain ⟨a, n, mn, rfl, hmn, hd, hk⟩ := hS
  walk_at "s"
  walk_at "d"
  refine ⟨a, n + 2, mn, rfl, hmn, hd, fun c t0 t1 t2 m1 hc ht o1 d1 => ?_⟩
  walk_at "d"
  refine ⟨a, 2, n + 1, rfl, by decide, by decide, d1, fun st m2 s0 s1 o2 d2 => ?_⟩
  walk_at "d"
  refine ⟨a, 4, n, rfl, by decide, by decide, d2, fun wy m3 w0 w1 o3 d3 => ?_⟩
  walk_at "d"
  refine ⟨by show 4 ≤ 100000; decide, ?_⟩
  exact hk _ _ _ _ _ _ _ hc ht ((o1.trans o2).trans o3) d3
theorem unrc_rr {g : TG} {tt : TT} {te : TE} {r0 : En} {m : Mu} {k : D → Mu → Prop} {xs ys acc : List D} (e : ys = xs) (h : UnrC K g tt te r0 k xs acc m) : UnrC K g tt te r0 k ys acc m := e ▸ h
theorem unr_rr {g : TG} {tb : TS} {ks : KS} {r : En} {m : Mu} {xs ys : List D} (e : ys = xs) (h : Unr K g tb ks xs r m) : Unr K g tb ks ys r m := e ▸ h
def unks (K : PySem.W.Frag) (mn : Nat) : List D := (List.range mn).map fun i => tmD K (.unk i)
def S_terms (K : PySem.W.Frag) : SpD := fun ds m k => ∃ (mn : Nat), ds = [.int (mn : Int)] ∧ (mn = 1 ∨ mn = 2 ∨ mn = 3) ∧ k (.tup (unks K mn)) m
theorem sc_law_terms : FnScope ["_law_many", "_law_k"] ["_law_many"] (defScope s_law_terms) := ⟨rfl, rfl, rfl, by decide +kernel, rfl, by decide +kernel, by decide +kernel⟩
theorem fn_terms (T : Txt K mg) (Ou : Fn P w K mg base 5 (FX.sAd K "Term" "unknown") ["k"] (S_unknown K)) : Fn P w K mg base 6 (He.ga K "_law_terms") ["_law_many"] (S_terms K) := by
  obtain ⟨⟨_, G_Term_unknown, b_Term_unknown⟩, _⟩ := Ou
  refine fn_of1 (kk := 5) T.F_law_terms sc_law_terms (fun ds m k h => by obtain ⟨a, rfl, _⟩ := h; rfl) (fun _ _ _ _ _ _ us hl => match us, hl with | [_], _ => rfl) ?_
  intro cdv A outer s H E hr
  refine ⟨_, (pss_one (ps_ret (pe_callTy call_tuple_of rfl T.n_tuple (by decide +kernel) (pa_cons (pe_lc (own := [("_law_k", 1)]) rfl sc_law_terms.nd (pi_range1 rfl T.n_range (pa_cons (pv 0) pa_nil)) (blkOk_by (own := [("_law_k", 1)]) (N := ["_law_many", "_law_k"]) (sc := defScope s_law_terms) (by decide +kernel)) (fun _ _ _ _ _ => (pg_name (i := 1) sc_law_terms.nd rfl (.inl rfl))) (fun _ _ _ _ _ => pts_nil) (fun _ _ _ _ _ => (FX.pe_stat (pe_glob (v := .ref _) rfl T.g_Term rfl) T.st_Term_unknown G_Term_unknown (hr.mono (by decide)) b_Term_unknown .nil pass0 (pa_cons (pv 1) pa_nil)))) pa_nil)))), ?_⟩
  intro ds m k hS
  obtain ⟨mn, rfl, hmn, hk⟩ := hS
  walk_at "s"
  rcases hmn with rfl | rfl | rfl
  · walk_at "d"
    refine unrc_rr (xs := [.int 0]) rfl ?_
    walk_at "d"
    refine ⟨0, rfl, by decide, ?_⟩
    walk_at "d"
    refine c_tuple ?_
    exact hk
  · walk_at "d"
    refine unrc_rr (xs := [.int 0, .int 1]) rfl ?_
    walk_at "d"
    refine ⟨0, rfl, by decide, ?_⟩
    walk_at "d"
    refine ⟨1, rfl, by decide, ?_⟩
    walk_at "d"
    refine c_tuple ?_
    exact hk
  · walk_at "d"
    try refine unrc_rr (xs := [.int 0, .int 1, .int 2]) rfl ?_
    walk_at "d"
    refine ⟨0, rfl, by decide, ?_⟩
    walk_at "d"
    refine ⟨1, rfl, by decide, ?_⟩
    walk_at "d"
    refine ⟨2, rfl, by decide, ?_⟩
    walk_at "d"
    refine c_tuple ?_
    exact hk
/-! ### _law_said -/
structure Sd0 (P : Program) (w : World) (K : PySem.W.Frag) (mg : Str → Option Value) (base : Heap) : Prop where
  nia : NI P w K mg base (mS K "__add__")
  nim : NI P w K mg base (mS K "__mul__")
  nlt : NI P w K mg base (mS K "__lt__")
  nle : NI P w K mg base (mS K "__le__")
  ngt : NI P w K mg base (mS K "__gt__")
  nge : NI P w K mg base (mS K "__ge__")
  add : Fn P w K mg base 7 (mT K "__add__") ["self", "other"] (S_tbin K Lin.add)
  radd : Fn P w K mg base 8 (mT K "__radd__") ["self", "other"] (S_tbin K Lin.add)
  rmul : Fn P w K mg base 7 (mT K "__rmul__") ["self", "other"] (S_scaled K)
  sub : Fn P w K mg base 8 (mT K "__sub__") ["self", "other"] (S_tbin2 K Lin.sub)
  lt : Fn P w K mg base 9 (mT K "__lt__") ["self", "other"] (S_tcmp K (fun t u => Lin.sub u t) true)
  le : Fn P w K mg base 9 (mT K "__le__") ["self", "other"] (S_tcmp K (fun t u => Lin.sub u t) false)
  gt : Fn P w K mg base 9 (mT K "__gt__") ["self", "other"] (S_tcmp K Lin.sub true)
  ge : Fn P w K mg base 9 (mT K "__ge__") ["self", "other"] (S_tcmp K Lin.sub false)
def sdL (c t0 t1 t2 : Int) : Lin := (Lin.mk (c : Rat) (t0 : Rat) (t1 : Rat) (t2 : Rat)).prim
def ptl (c t0 t1 t2 : Int) (i : Nat) : Lin := ⟨(c : Rat), if 0 < i then (t0 : Rat) else 0, if 1 < i then (t1 : Rat) else 0, if 2 < i then (t2 : Rat) else 0⟩
theorem ptl_0 (c t0 t1 t2 : Int) : ((Lin.unk 0).scale (t0 : Rat)).add (Lin.con (c : Rat)) = ptl c t0 t1 t2 (0 + 1) := by
  simp [ptl, Lin.add, Lin.scale, Lin.unk, Lin.con, Rat.add_zero, Rat.zero_add, Rat.zero_mul, Rat.one_mul]
theorem ptl_1 (c t0 t1 t2 : Int) : (ptl c t0 t1 t2 1).add ((Lin.unk 1).scale (t1 : Rat)) = ptl c t0 t1 t2 (1 + 1) := by
  simp [ptl, Lin.add, Lin.scale, Lin.unk, Lin.con, Rat.add_zero, Rat.zero_add, Rat.zero_mul, Rat.one_mul]
theorem ptl_2 (c t0 t1 t2 : Int) : (ptl c t0 t1 t2 2).add ((Lin.unk 2).scale (t2 : Rat)) = ptl c t0 t1 t2 (2 + 1) := by
  simp [ptl, Lin.add, Lin.scale, Lin.unk, Lin.con, Rat.add_zero, Rat.zero_add, Rat.zero_mul, Rat.one_mul]
theorem ptl_e {c t0 t1 t2 : Int} {mn : Nat} (hmn : mn = 1 ∨ mn = 2 ∨ mn = 3) (h1 : (mn : Int) = 1 → t1 = 0) (h2 : (mn : Int) ≤ 2 → t2 = 0) : ptl c t0 t1 t2 mn = ⟨(c : Rat), (t0 : Rat), (t1 : Rat), (t2 : Rat)⟩ := by
  rcases hmn with rfl | rfl | rfl
  · rw [h1 rfl, h2 (by decide)]; simp [ptl]
  · rw [h2 (by decide)]; simp [ptl]
  · simp [ptl]
theorem neg3 (t : Lin) : (t.scale ((-3 : Int) : Rat)).neg = t.scale 3 := by
  have e : ((-3 : Int) : Rat) = -3 := rfl
  rw [e]
  refine Lin.ext' ?_ ?_ ?_ ?_ <;> simp [Lin.neg, Lin.scale, Rat.mul_neg, Rat.neg_neg]
def S_said (K : PySem.W.Frag) : SpD := fun ds m k => ∃ (mn : Nat) (c t0 t1 t2 wy : Int) (st : Bool), ds = [.tup [.int c, .tup [.int t0, .int t1, .int t2], .bl st, .int wy], .tup (unks K mn)] ∧ (mn = 1 ∨ mn = 2 ∨ mn = 3) ∧ (c.natAbs ≤ 3 ∧ Tms (mn : Int) t0 t1 t2) ∧ k (rwD K (sdL c t0 t1 t2) st) m
theorem sc_law_said : FnScope ["_law_row_here", "_law_x", "_law_number_here", "_law_times", "_law_strict", "_law_way", "_law_above", "_law_k", "_law_left"] ["_law_row_here", "_law_x"] (defScope s_law_said) := ⟨rfl, rfl, rfl, by decide +kernel, rfl, by decide +kernel, by decide +kernel⟩
theorem fn_said (T : Txt K mg) (O : Sd0 P w K mg base) : Fn P w K mg base 10 (He.ga K "_law_said") ["_law_row_here", "_law_x"] (S_said K) := by
  obtain ⟨nia, nim, nlt, nle, ngt, nge, ⟨⟨_, G_Term_add, b_Term_add⟩, _⟩, ⟨⟨_, G_Term_radd, b_Term_radd⟩, _⟩, ⟨⟨_, G_Term_rmul, b_Term_rmul⟩, _⟩, ⟨⟨_, G_Term_sub, b_Term_sub⟩, _⟩, ⟨⟨_, G_Term_lt, b_Term_lt⟩, _⟩, ⟨⟨_, G_Term_le, b_Term_le⟩, _⟩, ⟨⟨_, G_Term_gt, b_Term_gt⟩, _⟩, ⟨⟨_, G_Term_ge, b_Term_ge⟩, _⟩⟩ := O
  refine fn_of1 (kk := 9) T.F_law_said sc_law_said (fun ds m k h => by obtain ⟨mn, c, t0, t1, t2, wy, st, rfl, _⟩ := h; rfl) (fun _ _ _ _ _ _ us hl => match us, hl with | [_, _], _ => rfl) ?_
  intro cdv A outer s H E hr
  refine ⟨_, (pss_cons (ps_asg (pv 0) (pg_tup rfl (pgs_cons (pg_name (i := 2) sc_law_said.nd rfl (.inl rfl)) (pgs_cons (pg_name (i := 3) sc_law_said.nd rfl (.inl rfl)) (pgs_cons (pg_name (i := 4) sc_law_said.nd rfl (.inl rfl)) (pgs_cons (pg_name (i := 5) sc_law_said.nd rfl (.inl rfl)) pgs_nil))))))
      (pss_cons (ps_set (i := 6) sc_law_said.nd rfl (.inl rfl) (pv 2))
      (pss_cons (ps_for PassesOwn.never rfl (pi_range1 rfl T.n_range (pa_cons (pe_callB call_len_seq rfl T.n_len PySem.boot_len (pa_cons (pv 1) pa_nil)) pa_nil)) (pg_name (i := 7) sc_law_said.nd rfl (.inl rfl)) (pss_one (ps_set (i := 6) sc_law_said.nd rfl (.inl rfl) (pe_op (op_or (oAddT (n := 7) T G_Term_add (hr.mono (by decide)) b_Term_add) (oNTAdd (n := 8) T nia G_Term_radd (hr.mono (by decide)) (hr.mono (by decide)) b_Term_radd)) (pv 6) (pe_op (oNTMul (n := 7) T nim G_Term_rmul (hr.mono (by decide)) (hr.mono (by decide)) b_Term_rmul) (pe_ix ix_seq (pv 3) (pv 7) (fun _ _ => rfl)) (pe_ix ix_seq (pv 1) (pv 7) (fun _ _ => rfl)))))))
      (pss_cons (ps_if (pt_cmpR op_eq (pv 5) pe_int (nomark _)) (pss_one (ps_ret (pe_ifExp (pt_val (pv 4)) (pe_cmpR (oGtW (n := 9) (n' := 9) T ngt G_Term_gt G_Term_lt (hr.mono (by decide)) (hr.mono (by decide)) (hr.mono (by decide)) b_Term_gt b_Term_lt) (pv 6) pe_int (nomark _)) (pe_cmpR (oGeW (n := 9) (n' := 9) T nge G_Term_ge G_Term_le (hr.mono (by decide)) (hr.mono (by decide)) (hr.mono (by decide)) b_Term_ge b_Term_le) (pv 6) pe_int (nomark _))))) pss_nil)
      (pss_cons (ps_if (pt_cmpR op_eq (pv 5) pe_int (nomark _)) (pss_one (ps_ret (pe_ifExp (pt_val (pv 4)) (pe_cmpR (oLtW (n := 9) (n' := 9) T nlt G_Term_lt G_Term_gt (hr.mono (by decide)) (hr.mono (by decide)) (hr.mono (by decide)) b_Term_lt b_Term_gt) pe_int (pv 6) (nomark _)) (pe_cmpR (oLeW (n := 9) (n' := 9) T nle G_Term_le G_Term_ge (hr.mono (by decide)) (hr.mono (by decide)) (hr.mono (by decide)) b_Term_le b_Term_ge) pe_int (pv 6) (nomark _))))) pss_nil)
      (pss_cons (ps_if (pt_cmpR op_eq (pv 5) pe_int (nomark _)) (pss_cons (ps_set (i := 8) sc_law_said.nd rfl (.inl rfl) (pe_op (oNTMul (n := 7) T nim G_Term_rmul (hr.mono (by decide)) (hr.mono (by decide)) b_Term_rmul) (pe_ix ix_seq (pv 3) pe_int (fun _ _ => rfl)) (pe_ix ix_seq (pv 1) pe_int (fun _ _ => rfl))))
      (pss_one (ps_ret (pe_ifExp (pt_val (pv 4)) (pe_cmpR (oGtW (n := 9) (n' := 9) T ngt G_Term_gt G_Term_lt (hr.mono (by decide)) (hr.mono (by decide)) (hr.mono (by decide)) b_Term_gt b_Term_lt) (pv 8) (pe_op (oSubT (n := 8) T G_Term_sub (hr.mono (by decide)) b_Term_sub) (pv 8) (pv 6)) (nomark _)) (pe_cmpR (oGeW (n := 9) (n' := 9) T nge G_Term_ge G_Term_le (hr.mono (by decide)) (hr.mono (by decide)) (hr.mono (by decide)) b_Term_ge b_Term_le) (pv 8) (pe_op (oSubT (n := 8) T G_Term_sub (hr.mono (by decide)) b_Term_sub) (pv 8) (pv 6)) (nomark _)))))) pss_nil)
      (pss_one (ps_ret (pe_ifExp (pt_val (pv 4)) (pe_cmpR (oLtW (n := 9) (n' := 9) T nlt G_Term_lt G_Term_gt (hr.mono (by decide)) (hr.mono (by decide)) (hr.mono (by decide)) b_Term_lt b_Term_gt) (pe_op (oNTMul (n := 7) T nim G_Term_rmul (hr.mono (by decide)) (hr.mono (by decide)) b_Term_rmul) (pe_un un_neg pe_int) (pv 6)) pe_int (nomark _)) (pe_cmpR (oLeW (n := 9) (n' := 9) T nle G_Term_le G_Term_ge (hr.mono (by decide)) (hr.mono (by decide)) (hr.mono (by decide)) b_Term_le b_Term_ge) (pe_op (oNTMul (n := 7) T nim G_Term_rmul (hr.mono (by decide)) (hr.mono (by decide)) b_Term_rmul) (pe_un un_neg pe_int) (pv 6)) pe_int (nomark _))))))))))), ?_⟩
  intro ds m k hS
  obtain ⟨mn, c, t0, t1, t2, wy, st, rfl, hmn, ⟨hc, h0, h1, h2, hz1, hz2⟩, hk⟩ := hS
  have hl : (unks K mn).length = mn := by simp [unks]
  walk_at "s"
  walk_at "d"
  refine c_len (.inr (.inl ⟨_, rfl, rfl⟩)) ?_
  walk_at "d"
  rw [hl]
  refine ⟨by omega, by omega, ?_⟩
  refine unr_idx (i := 0) (fun i r' m' => m' = m ∧ ∃ (d : D) (x7 : Option D), r' = [some (.tup [.int c, .tup [.int t0, .int t1, .int t2], .bl st, .int wy]), some (.tup (unks K mn)), some (.int c), some (.tup [.int t0, .int t1, .int t2]), some (.bl st), some (.int wy), some d, x7, none] ∧ (i = 0 ∧ d = .int c ∨ ∃ t, d = tmD K t ∧ SzL (10 * i) t ∧ 0 < i ∧ t = ptl c t0 t1 t2 i)) ⟨rfl, .int c, none, rfl, .inl ⟨rfl, rfl⟩⟩ ?_ ?_
  · rintro j x r' m' hj ⟨rfl, d, x7, rfl, hd⟩
    obtain ⟨hjl, hx2⟩ := rangeD_get hj
    rw [Int.zero_add] at hx2
    subst hx2
    have hj3 : j < mn := by omega
    obtain ⟨ti, e1, hti, hs1, hs2⟩ : ∃ ti : Int, atI [D.int t0, D.int t1, D.int t2] (j : Int) = some (.int ti) ∧ ti.natAbs ≤ 2 ∧ (j = 0 → ((Lin.unk j).scale (ti : Rat)).add (Lin.con (c : Rat)) = ptl c t0 t1 t2 (j + 1)) ∧ (0 < j → (ptl c t0 t1 t2 j).add ((Lin.unk j).scale (ti : Rat)) = ptl c t0 t1 t2 (j + 1)) := by
      have : j = 0 ∨ j = 1 ∨ j = 2 := by omega
      rcases this with rfl | rfl | rfl
      · exact ⟨t0, rfl, h0, fun _ => ptl_0 c t0 t1 t2, fun z => by omega⟩
      · exact ⟨t1, rfl, h1, fun z => by omega, fun _ => ptl_1 c t0 t1 t2⟩
      · exact ⟨t2, rfl, h2, fun z => by omega, fun _ => ptl_2 c t0 t1 t2⟩
    have e2 : atI (unks K mn) (j : Int) = some (tmD K (.unk j)) := atI_nat (by simp [unks, hj3])
    have hsz : SzL 4 ((Lin.unk j).scale (ti : Rat)) := (szu j).scale (Lin.sz_int (show ti.natAbs < 2 ^ 3 by omega) (by decide))
    have hcz : SzL 4 (Lin.con ((c : Int) : Rat)) := SzL.con (Lin.sz_int (show c.natAbs < 2 ^ 4 by omega) (by decide)) (by decide)
    refine g_name ?_
    dsimp only [List.set]
    walk_at "d"
    refine r_ix2 (r_ixT e1 ?_)
    walk_at "d"
    refine r_ix2 (r_ixT e2 ?_)
    walk_at "d"
    refine r_NT T (.int ti) ⟨_, _, _, rfl, ⟨.int ti, 1, 3, szu j, Lin.sz_int (show ti.natAbs < 2 ^ 3 by omega) (by decide), by decide⟩, ?_⟩
    walk_at "d"
    rcases hd with ⟨hi, rfl⟩ | ⟨t, rfl, ht, hi, rfl⟩
    · have hs1' : ((Lin.unk j).scale (ti : Rat)).add (Lin.con (c : Rat)) = ptl c t0 t1 t2 (0 + j + 1) := by rw [Nat.zero_add]; exact hs1 (by omega)
      refine r_or2 (r_NT T (.int c) ⟨_, _, _, rfl, ⟨.num (.int c), 4, 4, hsz, hcz, by decide⟩, ?_⟩)
      walk_at "d"
      first | exact .inr ⟨_, rfl, (hsz.add hcz).mono (by omega), by omega, hs1'⟩ | exact ⟨_, _, rfl, .inr ⟨_, rfl, (hsz.add hcz).mono (by omega), by omega, hs1'⟩⟩ | exact ⟨rfl, _, _, rfl, .inr ⟨_, rfl, (hsz.add hcz).mono (by omega), by omega, hs1'⟩⟩
    · have hs2' : (ptl c t0 t1 t2 (0 + j)).add ((Lin.unk j).scale (ti : Rat)) = ptl c t0 t1 t2 (0 + j + 1) := by rw [Nat.zero_add]; exact hs2 (by omega)
      refine r_or1 (r_TW (.tm _) ⟨_, _, _, rfl, ⟨.tm _, _, 4, ht, hsz, by omega⟩, ?_⟩)
      walk_at "d"
      first | exact .inr ⟨_, rfl, (ht.add hsz).mono (by omega), by omega, hs2'⟩ | exact ⟨_, _, rfl, .inr ⟨_, rfl, (ht.add hsz).mono (by omega), by omega, hs2'⟩⟩ | exact ⟨rfl, _, _, rfl, .inr ⟨_, rfl, (ht.add hsz).mono (by omega), by omega, hs2'⟩⟩
  · rintro r' m' ⟨rfl, d, x7, rfl, hd⟩
    have hlen : (rangeD 0 (Int.toNat (mn : Int))).length = mn := by simp [rangeD]
    obtain ⟨t, rfl, ht0, _, ht2⟩ : ∃ t, d = tmD K t ∧ SzL (10 * (0 + (rangeD 0 (Int.toNat (mn : Int))).length)) t ∧ 0 < 0 + (rangeD 0 (Int.toNat (mn : Int))).length ∧ t = ptl c t0 t1 t2 (0 + (rangeD 0 (Int.toNat (mn : Int))).length) := by
      rcases hd with ⟨hi, _⟩ | hd
      · rw [hlen] at hi; omega
      · exact hd
    rw [hlen, Nat.zero_add, ptl_e hmn hz1 hz2] at ht2
    have ht : SzL 30 t := ht0.mono (by rw [hlen]; omega)
    have hzero : SzL 1 (Lin.con ((0 : Int) : Rat)) := SzL.con (sz_int (i := 0) (by decide) (by decide)) (by decide)
    have hfin : ∀ u, Lin.Pos t u → k (rwD K u.prim st) m' := fun u hu => by
      rw [← Lin.prim_pos hu, ht2]
      exact hk
    have e0 : ((0 : Int) : Rat) = 0 := rfl
    have p1 : Lin.Pos t (t.sub (.con ((0 : Int) : Rat))) := by rw [e0, Lin.sub_zero]; exact Lin.pos_self t
    have p2 : ∀ v : Lin, Lin.Pos t (v.sub (v.sub t)) := fun v => by rw [Lin.sub_sub]; exact Lin.pos_self t
    have p3 : Lin.Pos t ((Lin.con ((0 : Int) : Rat)).sub (t.scale ((-3 : Int) : Rat))) := by rw [e0, Lin.zero_sub, neg3]; exact (Lin.pos_self t).scale (by decide)
    walk_at "d"
    by_cases w0 : wy = 0
    · refine ite_d1 (by simpa using w0) ?_
      walk_at "d"
      cases st
      all_goals
        walk_at "d"
        exact r_or1 (r_CAw T (.num (.int 0)) ⟨_, _, _, rfl, .num (.int 0), ⟨30, 1, ht, hzero, by decide⟩, hfin _ p1⟩)
    refine ite_d0 (by simpa using w0) ?_
    walk_at "d"
    by_cases w1 : wy = 1
    · refine ite_d1 (by simpa using w1) ?_
      walk_at "d"
      cases st
      all_goals
        walk_at "d"
        exact r_or2 (r_NTc T (.int 0) ⟨_, _, _, rfl, .num (.int 0), ⟨30, 1, ht, hzero, by decide⟩, hfin _ p1⟩)
    refine ite_d0 (by simpa using w1) ?_
    walk_at "d"
    by_cases w2 : wy = 2
    · refine ite_d1 (by simpa using w2) ?_
      have e2 : atI (unks K mn) (0 : Int) = some (tmD K (.unk 0)) := by rcases hmn with rfl | rfl | rfl <;> rfl
      have hz0 : Sz 3 (t0 : Rat) := Lin.sz_int (show t0.natAbs < 2 ^ 3 by omega) (by decide)
      have hsz : SzL 4 ((Lin.unk 0).scale (t0 : Rat)) := (szu 0).scale hz0
      walk_at "d"
      refine r_ix2 (r_ixT e2 ?_)
      walk_at "d"
      refine r_NT T (.int t0) ⟨_, _, _, rfl, ⟨.int t0, 1, 3, szu 0, hz0, by decide⟩, ?_⟩
      walk_at "d"
      cases st
      all_goals
        walk_at "d"
        refine ⟨_, _, _, rfl, .tm _, ⟨4, 30, hsz, ht, by decide⟩, ?_⟩
        walk_at "d"
        exact r_or1 (r_CAw T (.tm _) ⟨_, _, _, rfl, .tm _, ⟨4, _, hsz, hsz.sub ht, by decide⟩, hfin _ (p2 _)⟩)
    refine ite_d0 (by simpa using w2) ?_
    have hz3 : Sz 3 ((-3 : Int) : Rat) := Lin.sz_int (by decide) (by decide)
    have hs3 : SzL 33 (t.scale ((-3 : Int) : Rat)) := ht.scale hz3
    walk_at "d"
    cases st
    all_goals
      walk_at "d"
      refine r_NT T (.int (-3)) ⟨_, _, _, rfl, ⟨.int (-3), 30, 3, ht, hz3, by decide⟩, ?_⟩
      walk_at "d"
      exact r_or1 (r_CAw T (.num (.int 0)) ⟨_, _, _, rfl, .num (.int 0), ⟨33, 1, hs3, hzero, by decide⟩, hfin _ p3⟩)
end
end LW
end

section
set_option Elab.async false
set_option linter.all false
set_option maxRecDepth 100000
set_option maxHeartbeats 1000000
set_option exponentiation.threshold 10000
namespace LW
open PySem PySem.Spec PyProof.Rows L2 DL MA
local macro_rules | `(tactic| walk_at "d1") => `(tactic| first
  | (with_reducible refine s_seq ?_) | (with_reducible refine s_set ?_) | (with_reducible refine s_ret ?_) | (with_reducible refine s_if ?_) | (with_reducible refine s_fld ?_) | (with_reducible refine s_next ?_) | (with_reducible refine s_par ?_)
  | (with_reducible refine e_var rfl ?_) | (with_reducible refine e_int ?_) | (with_reducible refine e_bl ?_) | (with_reducible refine e_non ?_) | (with_reducible refine e_str ?_) | (with_reducible refine e_ty ?_) | (with_reducible refine e_ref ?_)
  | (with_reducible refine e_op ?_) | (with_reducible refine e_un ?_) | (with_reducible refine e_cb ?_) | (with_reducible refine e_if ?_) | (with_reducible refine e_andV ?_) | (with_reducible refine e_orV ?_) | (with_reducible refine e_notV ?_) | (with_reducible refine e_fld ?_)
  | (with_reducible refine e_call0 ?_) | (with_reducible refine e_meth0 ?_) | (with_reducible refine e_make (dds := []) nilD ?_) | (with_reducible refine e_stat0 ?_)
  | (with_reducible refine a_nil ?_) | (with_reducible refine a_cons ?_) | (with_reducible refine e_tup ?_)
  | (with_reducible refine t_test ?_) | (with_reducible refine t_B ?_) | (with_reducible refine t_and ?_) | (with_reducible refine t_or ?_) | (with_reducible refine t_not ?_)
  | (with_reducible refine ri0 ?_) | (with_reducible refine rb0 ?_) | (with_reducible refine req ?_) | (with_reducible refine rne ?_) | (with_reducible refine reqb ?_) | (with_reducible refine ui ?_)
  | (with_reducible refine c_abs ?_) | (with_reducible refine c_int1 ?_) | (with_reducible refine c_bool1 ?_)
  | (with_reducible refine Exists.intro _ (And.intro rfl ?_)))
local macro_rules | `(tactic| walk_at "d") => `(tactic| repeat (walk_at "d1"; try dsimp only [List.set, wipeD, List.map]))
local macro_rules | `(tactic| walk_at "s") => `(tactic| dsimp only [cxOf, Cx.nox, Cx.wish, startD, List.map, List.length, Nat.reduceAdd, Nat.reduceSub, List.reduceReplicate, HAppend.hAppend, Append.append, List.append])
local macro_rules | `(tactic| walk_at "d1") => `(tactic| with_reducible refine e_lst ?_)
local macro_rules | `(tactic| walk_at "d1") => `(tactic| first
  | (with_reducible refine fld_top (by assumption) ?_) | (with_reducible refine fld_bottom (by assumption) ?_)
  | (with_reducible refine isnum_num (by assumption) (by assumption) ?_) | (with_reducible refine assh_num (by assumption) ?_) | (with_reducible refine isnum_num (by assumption) (Num.sh _) ?_) | (with_reducible refine assh_num (Num.sh _) ?_) | (with_reducible refine isnum_num (by assumption) (Num.int _) ?_) | (with_reducible refine assh_num (Num.int _) ?_)
  | (with_reducible refine e_Share1 ?_) | (with_reducible refine e_Share2 ?_))
local macro_rules | `(tactic| walk_at "d1") => `(tactic| first | (with_reducible refine r_SN (by assumption) ?_) | (with_reducible refine r_SN (Num.sh _) ?_) | (with_reducible refine r_SN (Num.int _) ?_) | (with_reducible refine u_S ?_))
local macro_rules | `(tactic| walk_at "d1") => `(tactic| first
  | (with_reducible refine fld_number (by assumption) ?_) | (with_reducible refine fld_times (by assumption) ?_) | (with_reducible refine e_Term ?_)
  | (with_reducible refine e_lcU (gin_name (by decide)) ?_) | (with_reducible refine i_rng1 ?_) | (with_reducible refine i_tup ?_) | (with_reducible refine i_list ?_) | (with_reducible refine t_yes ?_) | (with_reducible refine g_name ?_)
  | (with_reducible refine unrc_r3 ?_) | (with_reducible refine unrc_r4 ?_) | (with_reducible refine unr_r3 ?_) | (with_reducible refine unr_r4 ?_) | (with_reducible refine unr_r2 ?_) | (with_reducible refine unrc_cons ?_) | (with_reducible refine unrc_nil ?_) | (with_reducible refine unr_cons ?_) | (with_reducible refine unr_nil ?_) | (with_reducible refine s_forU ?_)
  | (with_reducible refine iteT ?_) | (with_reducible refine iteF ?_) | (with_reducible refine e_chain ?_) | (with_reducible refine And.intro len3 ?_) | (with_reducible refine And.intro len4 ?_) | (with_reducible refine And.intro (by decide) ?_) | (with_reducible refine ite_d1 (by decide) ?_) | (with_reducible refine ite_d0 (by decide) ?_))
local macro_rules | `(tactic| walk_at "d1") => `(tactic| first
  | (with_reducible refine isworth (by assumption) (by assumption) ?_) | (with_reducible refine asterm (by assumption) ?_) | (with_reducible refine isworth (by assumption) (Wth.tm _) ?_) | (with_reducible refine asterm (Wth.tm _) ?_)
  | (with_reducible refine i_zipT ?_) | (with_reducible refine unrc_z3 ?_) | (with_reducible refine e_lcU (gin_tup (gsin_one (by decide) (gsin_one (by decide) gsin_nil))) ?_) | (with_reducible refine g_tup rfl ?_) | (with_reducible refine gs_cons ?_) | (with_reducible refine gs_nil ?_)
  | (with_reducible refine And.intro lenz3 ?_) | (with_reducible refine Exists.intro _ (Exists.intro _ (And.intro rfl ?_)))
  | (with_reducible refine EN.i_enumT ?_) | (with_reducible refine unr_e3 ?_) | (with_reducible refine e_methT (fun _ => rfl) ?_) | (with_reducible refine a_star ?_)
  | (with_reducible refine r_TW (by assumption) ?_) | (with_reducible refine r_TW (Wth.tm _) ?_))
local macro_rules | `(tactic| walk_at "d1") => `(tactic| first | (with_reducible refine Exists.intro _ (Exists.intro _ (And.intro rfl ?_))) | (with_reducible refine And.intro len2' ?_))
local macro_rules | `(tactic| walk_at "d") => `(tactic| repeat (walk_at "d1"; try dsimp only [List.set, wipeD, List.map, Int.reduceAdd]))
local macro_rules | `(tactic| walk_at "d1") => `(tactic| first
  | (with_reducible refine And.intro rfl ?_) | (with_reducible refine ixT0 ?_) | (with_reducible refine ixT1 ?_) | (with_reducible refine ixL0 ?_) | (with_reducible refine ixL1 ?_) | (with_reducible refine ixL2 ?_) | (with_reducible refine ixL3 ?_))
local macro_rules | `(tactic| walk_at "d1") => `(tactic| first | (with_reducible refine isi_SS (by assumption) ?_) | (with_reducible refine isi_TT (by assumption) ?_) | (with_reducible refine isi_RR (by assumption) ?_))
local macro_rules | `(tactic| walk_at "d1") => `(tactic| first | (with_reducible refine s_asg ?_))
local macro_rules | `(tactic| walk_at "bn") => `(tactic| repeat (first | with_reducible assumption | with_reducible apply Bn.mul | with_reducible apply Bn.sub | with_reducible apply Bn.neg | with_reducible apply Bn.add | with_reducible apply Bn.addL))
local macro_rules | `(tactic| walk_at "d1") => `(tactic| first
  | (with_reducible refine ixT0 ?_) | (with_reducible refine ixT1 ?_) | (with_reducible refine ixT2 ?_) | (with_reducible refine ixT3 ?_) | (with_reducible refine And.intro rfl ?_) | (with_reducible refine reqS ?_) | (with_reducible refine ite_d1 rfl ?_) | (with_reducible refine ite_d0 rfl ?_)
  | (with_reducible refine ri (Cc := CMulW) ?_ ?_; refine bmul (by walk_at "bn") (by walk_at "bn") (by omega))
  | (with_reducible refine And.intro len2' ?_) | (with_reducible refine And.intro len3' ?_) | (with_reducible refine And.intro len1' ?_) | (with_reducible refine And.intro len0' ?_))
section
variable {P : Program} {w : World} {K : PySem.W.Frag} {mg : Str → Option Value} {base : Heap}
def rowD (c t0 t1 t2 : Int) (st : Bool) (wy : Int) : D := .tup [.int c, .tup [.int t0, .int t1, .int t2], .bl st, .int wy]
def ptD (a d b e g f : Int) : D := .tup [.tup [.int a, .int d], .tup [.int b, .int e], .tup [.int g, .int f]]
def nmb (c t0 t1 t2 a d b e g f : Int) : Int := c * d * e * f + t0 * a * e * f + t1 * b * d * f + t2 * g * d * e
def qsOf (a d b e g f : Int) : List Rat := [Rat.divInt a d, Rat.divInt b e, Rat.divInt g f]
theorem div_mul {a d : Int} (h : 0 < d) : Rat.divInt a d * (d : Rat) = (a : Rat) := by
  rw [Rat.divInt_eq_div]
  exact Rat.div_mul_cancel (by intro e; have := Rat.intCast_inj.mp (show (d : Rat) = ((0 : Int) : Rat) from e); omega)
theorem pos_iff {v z n : Rat} (hz : 0 < z) (e : v * z = n) : (0 < v ↔ 0 < n) ∧ (0 ≤ v ↔ 0 ≤ n) := by
  have hz0 : z ≠ 0 := by intro h; rw [h] at hz; exact absurd hz (by decide)
  refine ⟨⟨fun h => by rw [← e]; exact Rat.mul_pos h hz, fun h => ?_⟩, ⟨fun h => by rw [← e]; exact Rat.mul_nonneg h (Rat.le_of_lt hz), fun h => ?_⟩⟩
  · by_cases h2 : 0 < v
    · exact h2
    · have h4 : 0 ≤ -v := by grind
      have := Rat.mul_nonneg h4 (Rat.le_of_lt hz)
      grind
  · by_cases h2 : v < 0
    · have h3 : 0 < -v := by grind
      have := Rat.mul_pos h3 hz
      grind
    · grind
theorem nmb_hld {c t0 t1 t2 a d b e g f : Int} (hd : 0 < d) (he : 0 < e) (hf : 0 < f) (st : Bool) : hld (sdL c t0 t1 t2) st (qsOf a d b e g f) = if st = true then decide (0 < nmb c t0 t1 t2 a d b e g f) else decide (0 ≤ nmb c t0 t1 t2 a d b e g f) := by
  have p : Lin.Pos (Lin.mk (c : Rat) (t0 : Rat) (t1 : Rat) (t2 : Rat)) (sdL c t0 t1 t2) := (Lin.pos_self _).prim
  rw [Lin.pos_hld p]
  have h1 := div_mul (a := a) hd
  have h2 := div_mul (a := b) he
  have h3 := div_mul (a := g) hf
  have key : (Lin.mk (c : Rat) (t0 : Rat) (t1 : Rat) (t2 : Rat)).at (qsOf a d b e g f) * ((d * e * f : Int) : Rat) = ((nmb c t0 t1 t2 a d b e g f : Int) : Rat) := by
    show ((c : Rat) + t0 * Rat.divInt a d + t1 * Rat.divInt b e + t2 * Rat.divInt g f) * _ = _
    unfold nmb
    simp only [Rat.intCast_mul, Rat.intCast_add]
    rw [← h1, ← h2, ← h3]
    generalize Rat.divInt a d = x
    generalize Rat.divInt b e = y
    generalize Rat.divInt g f = z
    grind
  have hz : (0 : Rat) < ((d * e * f : Int) : Rat) := Rat.intCast_pos.mpr (Int.mul_pos (Int.mul_pos hd he) hf)
  obtain ⟨q1, q2⟩ := pos_iff hz key
  unfold hld
  have r1 : (0 : Rat) < ((nmb c t0 t1 t2 a d b e g f : Int) : Rat) ↔ 0 < nmb c t0 t1 t2 a d b e g f := Rat.intCast_pos
  have r2 : (0 : Rat) ≤ ((nmb c t0 t1 t2 a d b e g f : Int) : Rat) ↔ 0 ≤ nmb c t0 t1 t2 a d b e g f := Rat.intCast_nonneg
  rw [decide_eq_decide.mpr (q1.trans r1), decide_eq_decide.mpr (q2.trans r2)]
structure Fr3 (a d b e g f : Int) : Prop where
  d0 : 0 < d
  e0 : 0 < e
  f0 : 0 < f
  a : Bn a 45
  d : Bn d 45
  b : Bn b 45
  e : Bn e 45
  g : Bn g 45
  f : Bn f 45
structure Rw3 (c t0 t1 t2 : Int) : Prop where
  c : Bn c 2
  t0 : Bn t0 2
  t1 : Bn t1 2
  t2 : Bn t2 2
theorem pnt_fr {d : D} (h : Pnt d) : ∃ a d' b e g f, d = ptD a d' b e g f ∧ Fr3 a d' b e g f := by
  obtain ⟨_, _, _, rfl, ⟨a, d', rfl, h1, h2, h3⟩, ⟨b, e, rfl, h4, h5, h6⟩, ⟨g, f, rfl, h7, h8, h9⟩⟩ := h
  exact ⟨a, d', b, e, g, f, rfl, h1, h4, h7, h2, h3, h5, h6, h8, h9⟩
def S_number : SpD := fun ds m k => ∃ (c t0 t1 t2 : Int) (st : Bool) (wy a d b e g f : Int), ds = [rowD c t0 t1 t2 st wy, ptD a d b e g f] ∧ Rw3 c t0 t1 t2 ∧ Fr3 a d b e g f ∧ k (.int (nmb c t0 t1 t2 a d b e g f)) m
theorem sc_law_number : FnScope ["_law_row_here", "_law_point", "_law_a", "_law_d", "_law_b", "_law_e", "_law_c", "_law_f", "_law_found"] ["_law_row_here", "_law_point"] (defScope s_law_number) := ⟨rfl, rfl, rfl, by decide +kernel, rfl, by decide +kernel, by decide +kernel⟩
theorem fn_number (T : Txt K mg) : Fn P w K mg base 1 (He.ga K "_law_number") ["_law_row_here", "_law_point"] S_number := by
  refine fn_of1 (kk := 0) T.F_law_number sc_law_number (fun ds m k h => by obtain ⟨c, t0, t1, t2, st, wy, a, d, b, e, g, f, rfl, _⟩ := h; rfl) (fun _ _ _ _ _ _ us hl => match us, hl with | [_, _], _ => rfl) ?_
  intro cdv A outer s H E hr
  refine ⟨_, (pss_cons (ps_asg (pv 1) (pg_tup rfl (pgs_cons (pg_tup rfl (pgs_cons (pg_name (i := 2) sc_law_number.nd rfl (.inl rfl)) (pgs_cons (pg_name (i := 3) sc_law_number.nd rfl (.inl rfl)) pgs_nil))) (pgs_cons (pg_tup rfl (pgs_cons (pg_name (i := 4) sc_law_number.nd rfl (.inl rfl)) (pgs_cons (pg_name (i := 5) sc_law_number.nd rfl (.inl rfl)) pgs_nil))) (pgs_cons (pg_tup rfl (pgs_cons (pg_name (i := 6) sc_law_number.nd rfl (.inl rfl)) (pgs_cons (pg_name (i := 7) sc_law_number.nd rfl (.inl rfl)) pgs_nil))) pgs_nil)))))
      (pss_cons (ps_set (i := 8) sc_law_number.nd rfl (.inl rfl) (pe_op op_mulW (pe_op op_mulW (pe_op op_mulW (pe_ix ix_seq (pv 0) pe_int (fun _ _ => rfl)) (pv 3)) (pv 5)) (pv 7)))
      (pss_cons (ps_set (i := 8) sc_law_number.nd rfl (.inl rfl) (pe_op op_add (pv 8) (pe_op op_mulW (pe_op op_mulW (pe_op op_mulW (pe_ix ix_seq (pe_ix ix_seq (pv 0) pe_int (fun _ _ => rfl)) pe_int (fun _ _ => rfl)) (pv 2)) (pv 5)) (pv 7))))
      (pss_cons (ps_set (i := 8) sc_law_number.nd rfl (.inl rfl) (pe_op op_add (pv 8) (pe_op op_mulW (pe_op op_mulW (pe_op op_mulW (pe_ix ix_seq (pe_ix ix_seq (pv 0) pe_int (fun _ _ => rfl)) pe_int (fun _ _ => rfl)) (pv 4)) (pv 3)) (pv 7))))
      (pss_one (ps_ret (pe_op op_add (pv 8) (pe_op op_mulW (pe_op op_mulW (pe_op op_mulW (pe_ix ix_seq (pe_ix ix_seq (pv 0) pe_int (fun _ _ => rfl)) pe_int (fun _ _ => rfl)) (pv 6)) (pv 3)) (pv 5))))))))), ?_⟩
  intro ds m k hS
  obtain ⟨c, t0, t1, t2, st, wy, a, d, b, e, g, f, rfl, ⟨hc, h0, h1, h2⟩, ⟨_, _, _, ha, hd, hb, he, hg, hf⟩, hk⟩ := hS
  unfold rowD ptD
  walk_at "s"
  walk_at "d"
  exact hk
def S_lholds : SpD := fun ds m k => ∃ (c t0 t1 t2 : Int) (st : Bool) (wy a d b e g f : Int), ds = [rowD c t0 t1 t2 st wy, ptD a d b e g f] ∧ Rw3 c t0 t1 t2 ∧ Fr3 a d b e g f ∧ k (.bl (hld (sdL c t0 t1 t2) st (qsOf a d b e g f))) m
theorem sc_law_holds : FnScope ["_law_row_here", "_law_point", "_law_number_here"] ["_law_row_here", "_law_point"] (defScope s_law_holds) := ⟨rfl, rfl, rfl, by decide +kernel, rfl, by decide +kernel, by decide +kernel⟩
theorem fn_holds (T : Txt K mg) (On : Fn P w K mg base 1 (He.ga K "_law_number") ["_law_row_here", "_law_point"] S_number) : Fn P w K mg base 2 (He.ga K "_law_holds") ["_law_row_here", "_law_point"] S_lholds := by
  obtain ⟨⟨_, G_law_number, b_law_number⟩, k_law_number⟩ := On
  refine fn_of1 (kk := 1) T.F_law_holds sc_law_holds (fun ds m k h => by obtain ⟨c, t0, t1, t2, st, wy, a, d, b, e, g, f, rfl, _⟩ := h; rfl) (fun _ _ _ _ _ _ us hl => match us, hl with | [_, _], _ => rfl) ?_
  intro cdv A outer s H E hr
  refine ⟨_, (pss_cons (ps_set (i := 2) sc_law_holds.nd rfl (.inl rfl) (pe_call G_law_number (hr.mono (by decide)) rfl T.g_law_number k_law_number b_law_number .nil pass0 (pa_cons (pv 0) (pa_cons (pv 1) pa_nil))))
      (pss_one (ps_ret (pe_or (pe_cmpR op_gt (pv 2) pe_int (nomark _)) (pe_one (pe_and (pe_cmpR op_eq (pv 2) pe_int (nomark _)) (pe_one (pe_not (pe_ix ix_seq (pv 0) pe_int (fun _ _ => rfl)))))))))), ?_⟩
  intro ds m k hS
  obtain ⟨c, t0, t1, t2, st, wy, a, d, b, e, g, f, rfl, hR, hF, hk⟩ := hS
  rw [nmb_hld hF.d0 hF.e0 hF.f0] at hk
  walk_at "s"
  walk_at "d"
  refine ⟨c, t0, t1, t2, st, wy, a, d, b, e, g, f, rfl, hR, hF, ?_⟩
  generalize nmb c t0 t1 t2 a d b e g f = N at hk
  unfold rowD
  walk_at "d"
  by_cases hn : 0 < N
  · refine ite_d1 (by simpa using hn) ?_
    have e : (if st = true then decide (0 < N) else decide (0 ≤ N)) = true := by cases st <;> simp <;> omega
    rw [e] at hk
    have e2 : decide (N > 0) = true := by simpa using hn
    first | exact hk | (rw [e2]; exact hk)
  · refine ite_d0 (by simpa using hn) ?_
    walk_at "d"
    by_cases hz : N = 0
    · refine ite_d1 (by simpa using hz) ?_
      walk_at "d"
      have e : (if st = true then decide (0 < N) else decide (0 ≤ N)) = !st := by cases st <;> simp <;> omega
      rw [e] at hk
      exact hk
    · refine ite_d0 (by simpa using hz) ?_
      have e : (if st = true then decide (0 < N) else decide (0 ≤ N)) = false := by cases st <;> simp <;> omega
      have e2 : decide (N = 0) = false := by simpa using hz
      rw [e] at hk
      first | exact hk | (rw [e2]; exact hk)
/-! ### trees -/
inductive Cd where
  | leaf (d : D) | ask (c t0 t1 t2 : Int) (st : Bool) (wy : Int) (n y : Cd)
inductive Tg where
  | leaf (d : D) | ask (t : Lin) (s : Bool) (n y : Tg)
def cdD : Cd → D
  | .leaf d => .tup [.str "leaf", d]
  | .ask c t0 t1 t2 st wy n y => .tup [.str "ask", rowD c t0 t1 t2 st wy, cdD n, cdD y]
def tgD (K : PySem.W.Frag) : Tg → D
  | .leaf d => .tup [.str "leaf", d]
  | .ask t s n y => .tup [.str "ask", rwD K t s, tgD K n, tgD K y]
def Cd.tg : Cd → Tg
  | .leaf d => .leaf d
  | .ask c t0 t1 t2 st _ n y => .ask (sdL c t0 t1 t2) st n.tg y.tg
def dpC : Cd → Nat
  | .leaf _ => 0
  | .ask _ _ _ _ _ _ n y => 1 + max (dpC n) (dpC y)
def dpT : Tg → Nat
  | .leaf _ => 0
  | .ask _ _ n y => 1 + max (dpT n) (dpT y)
def szT : Tg → Nat
  | .leaf _ => 1
  | .ask _ _ n y => 1 + (szT n + szT y)
def lvD (K : PySem.W.Frag) : Tg → List D → List D
  | .leaf d, p => [.tup [.tup p, d]]
  | .ask t s n y, p => lvD K n (p ++ [.tup [rwD K t s, .bl false]]) ++ lvD K y (p ++ [.tup [rwD K t s, .bl true]])
def rowsC : Cd → List D
  | .leaf _ => []
  | .ask c t0 t1 t2 st wy n y => [rowD c t0 t1 t2 st wy] ++ rowsC n ++ rowsC y
def wkT (qs : List Rat) : Tg → D
  | .leaf d => d
  | .ask t s n y => if hld t s qs = true then wkT qs y else wkT qs n
def menu : List D := [.int 0, .int 1, .str "a", .tup [.int 1, .int 2], .non, .bl true, .int 1000000000]
def OkC (mn : Int) : Cd → Prop
  | .leaf d => d ∈ menu
  | .ask c t0 t1 t2 _ _ n y => (c.natAbs ≤ 3 ∧ Tms mn t0 t1 t2) ∧ OkC mn n ∧ OkC mn y
def gb : Nat → Nat
  | 0 => 0
  | d + 1 => 8 + (gb d + gb d)
theorem gb_le : ∀ {d e : Nat}, d ≤ e → gb d ≤ gb e
  | 0, _, _ => Nat.zero_le _
  | d + 1, 0, h => by omega
  | d + 1, e + 1, h => by have := gb_le (d := d) (e := e) (by omega); unfold gb; omega
def S_grown (j : Nat) : SpD := fun ds m k => ∃ (a : Addr) (n d : Nat) (mn : Int), ds = [.ref a, .int mn, .int (d : Int)] ∧ d < j ∧ (mn = 1 ∨ mn = 2 ∨ mn = 3) ∧ Dr a (n + gb (d + 1)) m ∧
  ∀ c m', dpC c ≤ d → OkC mn c → Off a m m' → Dr a n m' → k (cdD c) m'
theorem sc_law_grown : FnScope ["_law_draws", "_law_many", "_law_deep"] ["_law_draws", "_law_many", "_law_deep"] (defScope s_law_grown) := ⟨rfl, rfl, rfl, by decide +kernel, rfl, by decide +kernel, by decide +kernel⟩
theorem fn_grownS (T : Txt K mg) {j : Nat} (Op : Fn P w K mg base 2 (He.ga K "_law_pick") ["_law_draws", "_law_xs"] S_pick) (Od : Fn P w K mg base 1 (He.ga K "_law_draw") ["_law_draws", "_law_many"] S_draw) (Or : Fn P w K mg base 3 (He.ga K "_law_row") ["_law_draws", "_law_many"] S_row)
    (Og : Fn P w K mg base (4 + j) (He.ga K "_law_grown") ["_law_draws", "_law_many", "_law_deep"] (S_grown j)) : Fn P w K mg base (4 + j + 1) (He.ga K "_law_grown") ["_law_draws", "_law_many", "_law_deep"] (S_grown (j + 1)) := by
  obtain ⟨⟨_, G_law_pick, b_law_pick⟩, k_law_pick⟩ := Op
  obtain ⟨⟨_, G_law_draw, b_law_draw⟩, k_law_draw⟩ := Od
  obtain ⟨⟨_, G_law_row, b_law_row⟩, k_law_row⟩ := Or
  obtain ⟨⟨_, G_law_grown, b_law_grown⟩, k_law_grown⟩ := Og
  refine fn_of1 (kk := 4 + j) T.F_law_grown sc_law_grown (fun ds m k h => by obtain ⟨a, n, d, mn, rfl, _⟩ := h; rfl) (fun _ _ _ _ _ _ us hl => match us, hl with | [_, _, _], _ => rfl) ?_
  intro cdv A outer s H E hr
  refine ⟨_, (pss_cons (ps_if (PW.pt (pw_or (pt_cmpR op_eq (pv 2) pe_int (nomark _)) (pw_or1 (pt_cmpR op_eq (pe_call G_law_draw (hr.mono (by omega)) rfl T.g_law_draw k_law_draw b_law_draw .nil pass0 (pa_cons (pv 0) (pa_cons pe_int pa_nil))) pe_int (nomark _))))) (pss_one (ps_ret (pe_tup (pa_cons pe_str (pa_cons (pe_call G_law_pick (hr.mono (by omega)) rfl T.g_law_pick k_law_pick b_law_pick .nil pass0 (pa_cons (pv 0) (pa_cons (pe_lst (pa_cons pe_int (pa_cons pe_int (pa_cons pe_str (pa_cons (pe_tup (pa_cons pe_int (pa_cons pe_int pa_nil))) (pa_cons pe_non (pa_cons pe_bl (pa_cons (pe_op op_pow pe_int pe_int) pa_nil)))))))) pa_nil))) pa_nil))))) pss_nil)
      (pss_one (ps_ret (pe_tup (pa_cons pe_str (pa_cons (pe_call G_law_row (hr.mono (by omega)) rfl T.g_law_row k_law_row b_law_row .nil pass0 (pa_cons (pv 0) (pa_cons (pv 1) pa_nil))) (pa_cons (pe_call G_law_grown (hr.mono (by omega)) rfl T.g_law_grown k_law_grown b_law_grown .nil pass0 (pa_cons (pv 0) (pa_cons (pv 1) (pa_cons (pe_op op_sub (pv 2) pe_int) pa_nil)))) (pa_cons (pe_call G_law_grown (hr.mono (by omega)) rfl T.g_law_grown k_law_grown b_law_grown .nil pass0 (pa_cons (pv 0) (pa_cons (pv 1) (pa_cons (pe_op op_sub (pv 2) pe_int) pa_nil)))) pa_nil)))))))), ?_⟩
  intro ds m k hS
  obtain ⟨a, n, d, mn, rfl, hj, hmn, hd, hk⟩ := hS
  have e10 : (10 : Int) ^ Int.toNat 9 = 1000000000 := by decide
  walk_at "s"
  walk_at "d"
  cases d with
  | zero =>
    have hg : gb (0 + 1) = 8 := rfl
    refine ite_d1 (by simp) ?_
    walk_at "d"
    refine ri (cpow (by decide) (by decide) (by decide)) ?_
    walk_at "d"
    rw [e10]
    refine ⟨a, n, menu, rfl, by simp [menu], by show 7 < 100000; decide, hd.mono (by omega), fun x m2 hx o2 d2 => ?_⟩
    walk_at "d"
    exact hk (.leaf x) m2 (Nat.zero_le _) hx o2 d2
  | succ d =>
    have hgd : gb (d + 1 + 1) = 8 + (gb (d + 1) + gb (d + 1)) := rfl
    have ed : ((d + 1 : Nat) : Int) - 1 = (d : Int) := by omega
    refine ite_d0 (by simp; omega) ?_
    walk_at "d"
    refine ⟨a, 4, n + (7 + (gb (d + 1) + gb (d + 1))), rfl, by decide, by decide, hd.mono (by omega), fun w0 m1 g0 g1 o1 d1 => ?_⟩
    walk_at "d"
    by_cases hw : w0 = 0
    · refine ite_d1 (by simpa using hw) ?_
      walk_at "d"
      refine ri (cpow (by decide) (by decide) (by decide)) ?_
      walk_at "d"
      rw [e10]
      refine ⟨a, n, menu, rfl, by simp [menu], by show 7 < 100000; decide, d1.mono (by omega), fun x m2 hx o2 d2 => ?_⟩
      walk_at "d"
      exact hk (.leaf x) m2 (Nat.zero_le _) hx (o1.trans o2) d2
    · refine ite_d0 (by simpa using hw) ?_
      walk_at "d"
      refine ⟨a, n + (gb (d + 1) + gb (d + 1)), mn, rfl, hmn, d1.mono (by omega), fun c t0 t1 t2 wy st m2 hc ht o2 d2 => ?_⟩
      walk_at "d"
      refine ⟨a, n + gb (d + 1), d, mn, by rw [ed], by omega, hmn, d2.mono (by omega), fun u m3 u1 u2 o3 d3 => ?_⟩
      walk_at "d"
      refine ⟨a, n, d, mn, by rw [ed], by omega, hmn, d3, fun v m4 v1 v2 o4 d4 => ?_⟩
      walk_at "d"
      refine ⟨by show 4 ≤ 100000; decide, ?_⟩
      exact hk (.ask c t0 t1 t2 st wy u v) m4 (by simp only [dpC]; omega) ⟨⟨hc, ht⟩, u2, v2⟩ (((o1.trans o2).trans o3).trans o4) d4
/-- a promise that is never asked for -/
theorem fn_void {x qual : Str} {params : Arguments} {body : List Stmt} {scope : Scope} {kws : List (Str × V)} {f : Addr} {ps : List Str} {kk : Nat} {S : SpD}
    (hF : ∃ fd, FunD K x qual params body scope [] kws f fd) (hv : ∀ ds m k, ¬ S ds m k)
    (hbi : ∀ (kV doc pm : Value) (an : Option Addr) (cdv ct : Value) (us : List Value), us.length = ps.length → bindArgs (PySem.W.fnOf x qual params body scope .none kV doc pm an cdv ct) ⟨us, []⟩ = pure (ps.zip us)) :
    Fn P w K mg base kk f ps S := by
  obtain ⟨fd, F⟩ := hF
  refine ⟨⟨fd, ⟨fun vs H Q E h => ?_, fun A outer s H args us vs Q E hr he hb hv' h => ?_⟩, F.bindsN hbi⟩, F.kp⟩
  · obtain ⟨ds, F0, m, k, _, _, h, _⟩ := h
    exact (hv ds m k h).elim
  · obtain ⟨ds, F0, m, k, _, _, h, _⟩ := h
    exact (hv ds m k h).elim
theorem fn_grownN (T : Txt K mg) (Op : Fn P w K mg base 2 (He.ga K "_law_pick") ["_law_draws", "_law_xs"] S_pick) (Od : Fn P w K mg base 1 (He.ga K "_law_draw") ["_law_draws", "_law_many"] S_draw) (Or : Fn P w K mg base 3 (He.ga K "_law_row") ["_law_draws", "_law_many"] S_row) : ∀ j, Fn P w K mg base (4 + j) (He.ga K "_law_grown") ["_law_draws", "_law_many", "_law_deep"] (S_grown j)
  | 0 => fn_void T.F_law_grown (fun ds m k ⟨_, _, _, _, _, h, _⟩ => by omega) (fun _ _ _ _ _ _ us hl => match us, hl with | [_, _, _], _ => rfl)
  | j + 1 => fn_grownS T Op Od Or (fn_grownN T Op Od Or j)
theorem cdD_leaf (d : D) : cdD (.leaf d) = .tup [.str "leaf", d] := rfl
theorem cdD_ask (c t0 t1 t2 : Int) (st : Bool) (wy : Int) (n y : Cd) : cdD (.ask c t0 t1 t2 st wy n y) = .tup [.str "ask", rowD c t0 t1 t2 st wy, cdD n, cdD y] := rfl
theorem tgD_leaf (d : D) : tgD K (.leaf d) = .tup [.str "leaf", d] := rfl
theorem tgD_ask (t : Lin) (s : Bool) (n y : Tg) : tgD K (.ask t s n y) = .tup [.str "ask", rwD K t s, tgD K n, tgD K y] := rfl
def S_of (K : PySem.W.Frag) (j : Nat) : SpD := fun ds m k => ∃ (c : Cd) (mn : Nat), ds = [cdD c, .tup (unks K mn)] ∧ dpC c < j ∧ (mn = 1 ∨ mn = 2 ∨ mn = 3) ∧ OkC (mn : Int) c ∧ k (tgD K c.tg) m
theorem sc_law_of_terms : FnScope ["_law_code", "_law_x"] ["_law_code", "_law_x"] (defScope s_law_of_terms) := ⟨rfl, rfl, rfl, by decide +kernel, rfl, by decide +kernel, by decide +kernel⟩
theorem fn_ofS (T : Txt K mg) {j : Nat} (Os : Fn P w K mg base 10 (He.ga K "_law_said") ["_law_row_here", "_law_x"] (S_said K))
    (Oo : Fn P w K mg base (11 + j) (He.ga K "_law_of_terms") ["_law_code", "_law_x"] (S_of K j)) : Fn P w K mg base (11 + j + 1) (He.ga K "_law_of_terms") ["_law_code", "_law_x"] (S_of K (j + 1)) := by
  obtain ⟨⟨_, G_law_said, b_law_said⟩, k_law_said⟩ := Os
  obtain ⟨⟨_, G_law_of_terms, b_law_of_terms⟩, k_law_of_terms⟩ := Oo
  refine fn_of1 (kk := 11 + j) T.F_law_of_terms sc_law_of_terms (fun ds m k h => by obtain ⟨a, n, rfl, _⟩ := h; rfl) (fun _ _ _ _ _ _ us hl => match us, hl with | [_, _], _ => rfl) ?_
  intro cdv A outer s H E hr
  refine ⟨_, (pss_cons (ps_if (pt_cmpR op_eq (pe_ix ix_seq (pv 0) pe_int (fun _ _ => rfl)) pe_str (nomark _)) (pss_one (ps_ret (pv 0))) pss_nil)
      (pss_one (ps_ret (pe_tup (pa_cons pe_str (pa_cons (pe_call G_law_said (hr.mono (by omega)) rfl T.g_law_said k_law_said b_law_said .nil pass0 (pa_cons (pe_ix ix_seq (pv 0) pe_int (fun _ _ => rfl)) (pa_cons (pv 1) pa_nil))) (pa_cons (pe_call G_law_of_terms (hr.mono (by omega)) rfl T.g_law_of_terms k_law_of_terms b_law_of_terms .nil pass0 (pa_cons (pe_ix ix_seq (pv 0) pe_int (fun _ _ => rfl)) (pa_cons (pv 1) pa_nil))) (pa_cons (pe_call G_law_of_terms (hr.mono (by omega)) rfl T.g_law_of_terms k_law_of_terms b_law_of_terms .nil pass0 (pa_cons (pe_ix ix_seq (pv 0) pe_int (fun _ _ => rfl)) (pa_cons (pv 1) pa_nil))) pa_nil)))))))), ?_⟩
  intro ds m k hS
  obtain ⟨c, mn, rfl, hj, hmn, ho, hk⟩ := hS
  cases c with
  | leaf d =>
    rw [cdD_leaf]
    walk_at "s"
    walk_at "d"
    exact hk
  | ask c t0 t1 t2 st wy n y =>
    obtain ⟨h1, h2, h3⟩ := ho
    simp only [dpC] at hj
    rw [cdD_ask]
    walk_at "s"
    walk_at "d"
    refine ⟨mn, c, t0, t1, t2, wy, st, rfl, hmn, h1, ?_⟩
    walk_at "d"
    refine ⟨n, mn, rfl, by omega, hmn, h2, ?_⟩
    walk_at "d"
    refine ⟨y, mn, rfl, by omega, hmn, h3, ?_⟩
    walk_at "d"
    exact ⟨by show 4 ≤ 100000; decide, hk⟩
theorem fn_ofN (T : Txt K mg) (Os : Fn P w K mg base 10 (He.ga K "_law_said") ["_law_row_here", "_law_x"] (S_said K)) : ∀ j, Fn P w K mg base (11 + j) (He.ga K "_law_of_terms") ["_law_code", "_law_x"] (S_of K j)
  | 0 => fn_void T.F_law_of_terms (fun ds m k ⟨_, _, _, h, _⟩ => by omega) (fun _ _ _ _ _ _ us hl => match us, hl with | [_, _], _ => rfl)
  | j + 1 => fn_ofS T Os (fn_ofN T Os j)
theorem lv_len : ∀ (t : Tg) (p : List D), (lvD K t p).length ≤ 2 ^ dpT t
  | .leaf d, p => by simp [lvD, dpT]
  | .ask t s n y, p => by
    have h1 := lv_len n (p ++ [.tup [rwD K t s, .bl false]])
    have h2 := lv_len y (p ++ [.tup [rwD K t s, .bl true]])
    have e1 : 2 ^ dpT n ≤ 2 ^ max (dpT n) (dpT y) := Nat.pow_le_pow_right (by decide) (by omega)
    have e2 : 2 ^ dpT y ≤ 2 ^ max (dpT n) (dpT y) := Nat.pow_le_pow_right (by decide) (by omega)
    have e3 : dpT (.ask t s n y) = max (dpT n) (dpT y) + 1 := by simp only [dpT]; omega
    rw [e3, Nat.pow_succ]
    simp only [lvD, List.length_append]
    omega
theorem tg_dp : ∀ c : Cd, dpT c.tg = dpC c
  | .leaf _ => rfl
  | .ask _ _ _ _ _ _ n y => by simp only [Cd.tg, dpT, dpC, tg_dp n, tg_dp y]
def S_listed (K : PySem.W.Frag) (j : Nat) : SpD := fun ds m k => ∃ (c : Cd) (mn : Nat) (p : List D), ds = [cdD c, .tup (unks K mn), .tup p] ∧ dpC c < j ∧ (mn = 1 ∨ mn = 2 ∨ mn = 3) ∧ OkC (mn : Int) c ∧ dpC c < 16 ∧ p.length + dpC c ≤ 1000 ∧ k (.lst (lvD K c.tg p)) m
theorem sc_law_listed : FnScope ["_law_code", "_law_x", "_law_path", "_law_row_here"] ["_law_code", "_law_x", "_law_path"] (defScope s_law_listed) := ⟨rfl, rfl, rfl, by decide +kernel, rfl, by decide +kernel, by decide +kernel⟩
theorem fn_listedS (T : Txt K mg) {j : Nat} (Os : Fn P w K mg base 10 (He.ga K "_law_said") ["_law_row_here", "_law_x"] (S_said K))
    (Oo : Fn P w K mg base (11 + j) (He.ga K "_law_listed") ["_law_code", "_law_x", "_law_path"] (S_listed K j)) : Fn P w K mg base (11 + j + 1) (He.ga K "_law_listed") ["_law_code", "_law_x", "_law_path"] (S_listed K (j + 1)) := by
  obtain ⟨⟨_, G_law_said, b_law_said⟩, k_law_said⟩ := Os
  obtain ⟨⟨_, G_law_listed, b_law_listed⟩, k_law_listed⟩ := Oo
  refine fn_of1 (kk := 11 + j) T.F_law_listed sc_law_listed (fun ds m k h => by obtain ⟨a, n, p, rfl, _⟩ := h; rfl) (fun _ _ _ _ _ _ us hl => match us, hl with | [_, _, _], _ => rfl) ?_
  intro cdv A outer s H E hr
  refine ⟨_, (pss_cons (ps_if (pt_cmpR op_eq (pe_ix ix_seq (pv 0) pe_int (fun _ _ => rfl)) pe_str (nomark _)) (pss_one (ps_ret (pe_lst (pa_cons (pe_tup (pa_cons (pv 2) (pa_cons (pe_ix ix_seq (pv 0) pe_int (fun _ _ => rfl)) pa_nil))) pa_nil)))) pss_nil)
      (pss_cons (ps_set (i := 3) sc_law_listed.nd rfl (.inl rfl) (pe_call G_law_said (hr.mono (by omega)) rfl T.g_law_said k_law_said b_law_said .nil pass0 (pa_cons (pe_ix ix_seq (pv 0) pe_int (fun _ _ => rfl)) (pa_cons (pv 1) pa_nil))))
      (pss_one (ps_ret (pe_op op_catS (pe_call G_law_listed (hr.mono (by omega)) rfl T.g_law_listed k_law_listed b_law_listed .nil pass0 (pa_cons (pe_ix ix_seq (pv 0) pe_int (fun _ _ => rfl)) (pa_cons (pv 1) (pa_cons (pe_op op_catAK (pv 2) (pe_tup (pa_cons (pe_tup (pa_cons (pv 3) (pa_cons pe_bl pa_nil))) pa_nil))) pa_nil)))) (pe_call G_law_listed (hr.mono (by omega)) rfl T.g_law_listed k_law_listed b_law_listed .nil pass0 (pa_cons (pe_ix ix_seq (pv 0) pe_int (fun _ _ => rfl)) (pa_cons (pv 1) (pa_cons (pe_op op_catAK (pv 2) (pe_tup (pa_cons (pe_tup (pa_cons (pv 3) (pa_cons pe_bl pa_nil))) pa_nil))) pa_nil))))))))), ?_⟩
  intro ds m k hS
  obtain ⟨c, mn, p, rfl, hj, hmn, ho, h16, hp, hk⟩ := hS
  cases c with
  | leaf d =>
    rw [cdD_leaf]
    walk_at "s"
    walk_at "d"
    exact hk
  | ask c t0 t1 t2 st wy n y =>
    obtain ⟨h1, h2, h3⟩ := ho
    simp only [dpC] at hj h16 hp
    rw [cdD_ask]
    walk_at "s"
    walk_at "d"
    refine ⟨mn, c, t0, t1, t2, wy, st, rfl, hmn, h1, ?_⟩
    walk_at "d"
    have l1 := lv_len (K := K) n.tg (p ++ [.tup [rwD K (sdL c t0 t1 t2) st, .bl false]])
    have l2 := lv_len (K := K) y.tg (p ++ [.tup [rwD K (sdL c t0 t1 t2) st, .bl true]])
    rw [tg_dp] at l1 l2
    have e1 : 2 ^ dpC n ≤ 2 ^ 15 := Nat.pow_le_pow_right (by decide) (by omega)
    have e2 : 2 ^ dpC y ≤ 2 ^ 15 := Nat.pow_le_pow_right (by decide) (by omega)
    refine r_catA (by simp; omega) ?_
    walk_at "d"
    refine ⟨n, mn, _, rfl, by omega, hmn, h2, by omega, by simp; omega, ?_⟩
    walk_at "d"
    refine r_catA (by simp; omega) ?_
    walk_at "d"
    refine ⟨y, mn, _, rfl, by omega, hmn, h3, by omega, by simp; omega, ?_⟩
    walk_at "d"
    refine r_catS (by omega) ?_
    exact hk
theorem fn_listedN (T : Txt K mg) (Os : Fn P w K mg base 10 (He.ga K "_law_said") ["_law_row_here", "_law_x"] (S_said K)) : ∀ j, Fn P w K mg base (11 + j) (He.ga K "_law_listed") ["_law_code", "_law_x", "_law_path"] (S_listed K j)
  | 0 => fn_void T.F_law_listed (fun ds m k ⟨_, _, _, _, h, _⟩ => by omega) (fun _ _ _ _ _ _ us hl => match us, hl with | [_, _, _], _ => rfl)
  | j + 1 => fn_listedS T Os (fn_listedN T Os j)
theorem rowsC_len : ∀ c : Cd, (rowsC c).length + 1 ≤ 2 ^ dpC c
  | .leaf d => by simp [rowsC, dpC]
  | .ask c t0 t1 t2 st wy n y => by
    have h1 := rowsC_len n
    have h2 := rowsC_len y
    have e1 : 2 ^ dpC n ≤ 2 ^ max (dpC n) (dpC y) := Nat.pow_le_pow_right (by decide) (by omega)
    have e2 : 2 ^ dpC y ≤ 2 ^ max (dpC n) (dpC y) := Nat.pow_le_pow_right (by decide) (by omega)
    have e3 : dpC (.ask c t0 t1 t2 st wy n y) = max (dpC n) (dpC y) + 1 := by simp only [dpC]; omega
    rw [e3, Nat.pow_succ]
    simp only [rowsC, List.length_append, List.length_singleton]
    omega
def S_rows_of (j : Nat) : SpD := fun ds m k => ∃ (c : Cd), ds = [cdD c] ∧ dpC c < j ∧ dpC c < 10 ∧ k (.lst (rowsC c)) m
theorem sc_law_rows_of : FnScope ["_law_code"] ["_law_code"] (defScope s_law_rows_of) := ⟨rfl, rfl, rfl, by decide +kernel, rfl, by decide +kernel, by decide +kernel⟩
theorem fn_rows_ofS (T : Txt K mg) {j : Nat} (Oo : Fn P w K mg base (1 + j) (He.ga K "_law_rows_of") ["_law_code"] (S_rows_of j)) : Fn P w K mg base (1 + j + 1) (He.ga K "_law_rows_of") ["_law_code"] (S_rows_of (j + 1)) := by
  obtain ⟨⟨_, G_law_rows_of, b_law_rows_of⟩, k_law_rows_of⟩ := Oo
  refine fn_of1 (kk := 1 + j) T.F_law_rows_of sc_law_rows_of (fun ds m k h => by obtain ⟨a, rfl, _⟩ := h; rfl) (fun _ _ _ _ _ _ us hl => match us, hl with | [_], _ => rfl) ?_
  intro cdv A outer s H E hr
  refine ⟨_, (pss_cons (ps_if (pt_cmpR op_eq (pe_ix ix_seq (pv 0) pe_int (fun _ _ => rfl)) pe_str (nomark _)) (pss_one (ps_ret (pe_lst pa_nil))) pss_nil)
      (pss_one (ps_ret (pe_op op_catS (pe_op op_catS (pe_lst (pa_cons (pe_ix ix_seq (pv 0) pe_int (fun _ _ => rfl)) pa_nil)) (pe_call G_law_rows_of (hr.mono (by omega)) rfl T.g_law_rows_of k_law_rows_of b_law_rows_of .nil pass0 (pa_cons (pe_ix ix_seq (pv 0) pe_int (fun _ _ => rfl)) pa_nil))) (pe_call G_law_rows_of (hr.mono (by omega)) rfl T.g_law_rows_of k_law_rows_of b_law_rows_of .nil pass0 (pa_cons (pe_ix ix_seq (pv 0) pe_int (fun _ _ => rfl)) pa_nil)))))), ?_⟩
  intro ds m k hS
  obtain ⟨c, rfl, hj, h10, hk⟩ := hS
  cases c with
  | leaf d =>
    rw [cdD_leaf]
    walk_at "s"
    walk_at "d"
    exact hk
  | ask c t0 t1 t2 st wy n y =>
    simp only [dpC] at hj h10
    have l1 := rowsC_len n
    have l2 := rowsC_len y
    have e1 : 2 ^ dpC n ≤ 2 ^ 10 := Nat.pow_le_pow_right (by decide) (by omega)
    have e2 : 2 ^ dpC y ≤ 2 ^ 10 := Nat.pow_le_pow_right (by decide) (by omega)
    rw [cdD_ask]
    walk_at "s"
    walk_at "d"
    refine ⟨n, rfl, by omega, by omega, ?_⟩
    walk_at "d"
    refine r_catS (by simp; omega) ?_
    walk_at "d"
    refine ⟨y, rfl, by omega, by omega, ?_⟩
    walk_at "d"
    refine r_catS (by simp; omega) ?_
    exact hk
theorem fn_rows_ofN (T : Txt K mg) : ∀ j, Fn P w K mg base (1 + j) (He.ga K "_law_rows_of") ["_law_code"] (S_rows_of j)
  | 0 => fn_void T.F_law_rows_of (fun ds m k ⟨_, _, h, _⟩ => by omega) (fun _ _ _ _ _ _ us hl => match us, hl with | [_], _ => rfl)
  | j + 1 => fn_rows_ofS T (fn_rows_ofN T j)
theorem ok_rw {mn c t0 t1 t2 : Int} (h : c.natAbs ≤ 3 ∧ Tms mn t0 t1 t2) : Rw3 c t0 t1 t2 := by
  obtain ⟨hc, h0, h1, h2, _⟩ := h
  exact ⟨⟨by omega⟩, ⟨by omega⟩, ⟨by omega⟩, ⟨by omega⟩⟩
def S_led : SpD := fun ds m k => ∃ (c : Cd) (mn a d b e g f : Int), ds = [cdD c, ptD a d b e g f] ∧ OkC mn c ∧ Fr3 a d b e g f ∧ k (wkT (qsOf a d b e g f) c.tg) m
theorem sc_law_led : FnScope ["_law_code", "_law_point"] ["_law_code", "_law_point"] (defScope s_law_led) := ⟨rfl, rfl, rfl, by decide +kernel, rfl, by decide +kernel, by decide +kernel⟩
theorem fn_led (T : Txt K mg) (Oh : Fn P w K mg base 2 (He.ga K "_law_holds") ["_law_row_here", "_law_point"] S_lholds) : Fn P w K mg base 3 (He.ga K "_law_led") ["_law_code", "_law_point"] S_led := by
  obtain ⟨⟨_, G_law_holds, b_law_holds⟩, k_law_holds⟩ := Oh
  refine fn_of1 (kk := 2) T.F_law_led sc_law_led (fun ds m k h => by obtain ⟨c, mn, a, d, b, e, g, f, rfl, _⟩ := h; rfl) (fun _ _ _ _ _ _ us hl => match us, hl with | [_, _], _ => rfl) ?_
  intro cdv A outer s H E hr
  refine ⟨_, (pss_cons (ps_while PassesOwn.never (pt_cmpR op_eq (pe_ix ix_seq (pv 0) pe_int (fun _ _ => rfl)) pe_str (nomark _)) (pss_one (ps_set (i := 0) sc_law_led.nd rfl (.inl rfl) (pe_ifExp (pt_val (pe_call G_law_holds (hr.mono (by decide)) rfl T.g_law_holds k_law_holds b_law_holds .nil pass0 (pa_cons (pe_ix ix_seq (pv 0) pe_int (fun _ _ => rfl)) (pa_cons (pv 1) pa_nil)))) (pe_ix ix_seq (pv 0) pe_int (fun _ _ => rfl)) (pe_ix ix_seq (pv 0) pe_int (fun _ _ => rfl))))))
      (pss_one (ps_ret (pe_ix ix_seq (pv 0) pe_int (fun _ _ => rfl))))), ?_⟩
  intro ds m k hS
  obtain ⟨t, mn, a, d, b, e, g, f, rfl, ho, hF, hk⟩ := hS
  walk_at "s"
  refine s_seq (s_while (fun n r' m' => m' = m ∧ ∃ u, r' = [some (cdD u), some (ptD a d b e g f)] ∧ n = dpC u ∧ OkC mn u ∧ wkT (qsOf a d b e g f) u.tg = wkT (qsOf a d b e g f) t.tg) (dpC t) ⟨rfl, t, rfl, rfl, ho, rfl⟩ ?_)
  rintro n r' m' ⟨rfl, u, rfl, rfl, hu, hw⟩
  cases u with
  | leaf v =>
    rw [cdD_leaf]
    walk_at "d"
    rw [← hw] at hk
    exact hk
  | ask c t0 t1 t2 st wy n2 y2 =>
    obtain ⟨z1, z2, z3⟩ := hu
    rw [cdD_ask]
    walk_at "d"
    refine ⟨c, t0, t1, t2, st, wy, a, d, b, e, g, f, rfl, ok_rw z1, hF, ?_⟩
    walk_at "d"
    have ee : wkT (qsOf a d b e g f) (Cd.ask c t0 t1 t2 st wy n2 y2).tg = if hld (sdL c t0 t1 t2) st (qsOf a d b e g f) = true then wkT (qsOf a d b e g f) y2.tg else wkT (qsOf a d b e g f) n2.tg := rfl
    rw [ee] at hw
    cases h : hld (sdL c t0 t1 t2) st (qsOf a d b e g f)
    · rw [h, if_neg (by decide)] at hw
      walk_at "d"
      exact ⟨dpC n2, by simp only [dpC]; omega, rfl, n2, rfl, rfl, z2, hw⟩
    · rw [h, if_pos rfl] at hw
      walk_at "d"
      exact ⟨dpC y2, by simp only [dpC]; omega, rfl, y2, rfl, rfl, z3, hw⟩
end
end LW
end

section
set_option Elab.async false
set_option linter.all false
set_option maxRecDepth 100000
set_option maxHeartbeats 1000000
set_option exponentiation.threshold 10000
namespace LW
open PySem PySem.Spec PyProof.Rows L2 DL MA
local macro_rules | `(tactic| walk_at "d1") => `(tactic| first
  | (with_reducible refine s_seq ?_) | (with_reducible refine s_set ?_) | (with_reducible refine s_ret ?_) | (with_reducible refine s_if ?_) | (with_reducible refine s_fld ?_) | (with_reducible refine s_next ?_) | (with_reducible refine s_par ?_)
  | (with_reducible refine e_var rfl ?_) | (with_reducible refine e_int ?_) | (with_reducible refine e_bl ?_) | (with_reducible refine e_non ?_) | (with_reducible refine e_str ?_) | (with_reducible refine e_ty ?_) | (with_reducible refine e_ref ?_)
  | (with_reducible refine e_op ?_) | (with_reducible refine e_un ?_) | (with_reducible refine e_cb ?_) | (with_reducible refine e_if ?_) | (with_reducible refine e_andV ?_) | (with_reducible refine e_orV ?_) | (with_reducible refine e_notV ?_) | (with_reducible refine e_fld ?_)
  | (with_reducible refine e_call0 ?_) | (with_reducible refine e_meth0 ?_) | (with_reducible refine e_make (dds := []) nilD ?_) | (with_reducible refine e_stat0 ?_)
  | (with_reducible refine a_nil ?_) | (with_reducible refine a_cons ?_) | (with_reducible refine e_tup ?_)
  | (with_reducible refine t_test ?_) | (with_reducible refine t_B ?_) | (with_reducible refine t_and ?_) | (with_reducible refine t_or ?_) | (with_reducible refine t_not ?_)
  | (with_reducible refine ri0 ?_) | (with_reducible refine rb0 ?_) | (with_reducible refine req ?_) | (with_reducible refine rne ?_) | (with_reducible refine reqb ?_) | (with_reducible refine ui ?_)
  | (with_reducible refine c_abs ?_) | (with_reducible refine c_int1 ?_) | (with_reducible refine c_bool1 ?_)
  | (with_reducible refine Exists.intro _ (And.intro rfl ?_)))
local macro_rules | `(tactic| walk_at "d") => `(tactic| repeat (walk_at "d1"; try dsimp only [List.set, wipeD, List.map]))
local macro_rules | `(tactic| walk_at "s") => `(tactic| dsimp only [cxOf, Cx.nox, Cx.wish, startD, List.map, List.length, Nat.reduceAdd, Nat.reduceSub, List.reduceReplicate, HAppend.hAppend, Append.append, List.append])
local macro_rules | `(tactic| walk_at "d1") => `(tactic| with_reducible refine e_lst ?_)
local macro_rules | `(tactic| walk_at "d1") => `(tactic| first
  | (with_reducible refine fld_top (by assumption) ?_) | (with_reducible refine fld_bottom (by assumption) ?_)
  | (with_reducible refine isnum_num (by assumption) (by assumption) ?_) | (with_reducible refine assh_num (by assumption) ?_) | (with_reducible refine isnum_num (by assumption) (Num.sh _) ?_) | (with_reducible refine assh_num (Num.sh _) ?_) | (with_reducible refine isnum_num (by assumption) (Num.int _) ?_) | (with_reducible refine assh_num (Num.int _) ?_)
  | (with_reducible refine e_Share1 ?_) | (with_reducible refine e_Share2 ?_))
local macro_rules | `(tactic| walk_at "d1") => `(tactic| first | (with_reducible refine r_SN (by assumption) ?_) | (with_reducible refine r_SN (Num.sh _) ?_) | (with_reducible refine r_SN (Num.int _) ?_) | (with_reducible refine u_S ?_))
local macro_rules | `(tactic| walk_at "d1") => `(tactic| first
  | (with_reducible refine fld_number (by assumption) ?_) | (with_reducible refine fld_times (by assumption) ?_) | (with_reducible refine e_Term ?_)
  | (with_reducible refine e_lcU (gin_name (by decide)) ?_) | (with_reducible refine i_rng1 ?_) | (with_reducible refine i_tup ?_) | (with_reducible refine i_list ?_) | (with_reducible refine t_yes ?_) | (with_reducible refine g_name ?_)
  | (with_reducible refine unrc_r3 ?_) | (with_reducible refine unrc_r4 ?_) | (with_reducible refine unr_r3 ?_) | (with_reducible refine unr_r4 ?_) | (with_reducible refine unr_r2 ?_) | (with_reducible refine unrc_cons ?_) | (with_reducible refine unrc_nil ?_) | (with_reducible refine unr_cons ?_) | (with_reducible refine unr_nil ?_) | (with_reducible refine s_forU ?_)
  | (with_reducible refine iteT ?_) | (with_reducible refine iteF ?_) | (with_reducible refine e_chain ?_) | (with_reducible refine And.intro len3 ?_) | (with_reducible refine And.intro len4 ?_) | (with_reducible refine And.intro (by decide) ?_) | (with_reducible refine ite_d1 (by decide) ?_) | (with_reducible refine ite_d0 (by decide) ?_))
local macro_rules | `(tactic| walk_at "d1") => `(tactic| first
  | (with_reducible refine isworth (by assumption) (by assumption) ?_) | (with_reducible refine asterm (by assumption) ?_) | (with_reducible refine isworth (by assumption) (Wth.tm _) ?_) | (with_reducible refine asterm (Wth.tm _) ?_)
  | (with_reducible refine i_zipT ?_) | (with_reducible refine unrc_z3 ?_) | (with_reducible refine e_lcU (gin_tup (gsin_one (by decide) (gsin_one (by decide) gsin_nil))) ?_) | (with_reducible refine g_tup rfl ?_) | (with_reducible refine gs_cons ?_) | (with_reducible refine gs_nil ?_)
  | (with_reducible refine And.intro lenz3 ?_) | (with_reducible refine Exists.intro _ (Exists.intro _ (And.intro rfl ?_)))
  | (with_reducible refine EN.i_enumT ?_) | (with_reducible refine unr_e3 ?_) | (with_reducible refine e_methT (fun _ => rfl) ?_) | (with_reducible refine a_star ?_)
  | (with_reducible refine r_TW (by assumption) ?_) | (with_reducible refine r_TW (Wth.tm _) ?_))
local macro_rules | `(tactic| walk_at "d1") => `(tactic| first | (with_reducible refine Exists.intro _ (Exists.intro _ (And.intro rfl ?_))) | (with_reducible refine And.intro len2' ?_))
local macro_rules | `(tactic| walk_at "d") => `(tactic| repeat (walk_at "d1"; try dsimp only [List.set, wipeD, List.map, Int.reduceAdd]))
local macro_rules | `(tactic| walk_at "d1") => `(tactic| first
  | (with_reducible refine And.intro rfl ?_) | (with_reducible refine ixT0 ?_) | (with_reducible refine ixT1 ?_) | (with_reducible refine ixL0 ?_) | (with_reducible refine ixL1 ?_) | (with_reducible refine ixL2 ?_) | (with_reducible refine ixL3 ?_))
local macro_rules | `(tactic| walk_at "d1") => `(tactic| first | (with_reducible refine isi_SS (by assumption) ?_) | (with_reducible refine isi_TT (by assumption) ?_) | (with_reducible refine isi_RR (by assumption) ?_))
local macro_rules | `(tactic| walk_at "d1") => `(tactic| first | (with_reducible refine s_asg ?_))
local macro_rules | `(tactic| walk_at "bn") => `(tactic| repeat (first | with_reducible assumption | with_reducible apply Bn.mul | with_reducible apply Bn.sub | with_reducible apply Bn.neg | with_reducible apply Bn.add | with_reducible apply Bn.addL))
local macro_rules | `(tactic| walk_at "d1") => `(tactic| first
  | (with_reducible refine ixT0 ?_) | (with_reducible refine ixT1 ?_) | (with_reducible refine ixT2 ?_) | (with_reducible refine ixT3 ?_) | (with_reducible refine And.intro rfl ?_) | (with_reducible refine reqS ?_) | (with_reducible refine ite_d1 rfl ?_) | (with_reducible refine ite_d0 rfl ?_)
  | (with_reducible refine ri (Cc := CMulW) ?_ ?_; refine bmul (by walk_at "bn") (by walk_at "bn") (by omega))
  | (with_reducible refine And.intro len2' ?_) | (with_reducible refine And.intro len3' ?_) | (with_reducible refine And.intro len1' ?_) | (with_reducible refine And.intro len0' ?_))
section
variable {P : Program} {w : World} {K : PySem.W.Frag} {mg : Str → Option Value} {base : Heap}
theorem updM_comm {m : Mu} {p q : Addr} {o u : MO} (h : p ≠ q) : updM (updM m p o) q u = updM (updM m q u) p o := by
  funext b
  by_cases h1 : b = p
  · subst h1; rw [updM_ne h, updM_same, updM_same]
  · by_cases h2 : b = q
    · subst h2; rw [updM_same, updM_ne h1, updM_same]
    · rw [updM_ne h2, updM_ne h1, updM_ne h1, updM_ne h2]
/-- the leaves are plain, the rows small -/
def OkT (B : Nat) : Tg → Prop
  | .leaf d => nor d = true
  | .ask t _ n y => SzL B t ∧ OkT B n ∧ OkT B y
theorem nor_row (t : Lin) (s : Bool) : nor (rwD K t s) = true := nor_at (.rw t s)
theorem nor_tg {B : Nat} : ∀ {t : Tg}, OkT B t → nor (tgD K t) = true
  | .leaf d, h => by
    have h' : nor d = true := h
    simp [tgD, nor, norL, h']
  | .ask t s n y, ⟨_, h1, h2⟩ => by
    have hr : nor (rwD K t s) = true := nor_row t s
    have e1 := nor_tg h1
    have e2 := nor_tg h2
    show norL [D.str "ask", rwD K t s, tgD K n, tgD K y] = true
    exact norL_mem (fun x hx => by
      simp only [List.mem_cons, List.not_mem_nil, or_false] at hx
      rcases hx with rfl | rfl | rfl | rfl
      · rfl
      · exact hr
      · exact e1
      · exact e2)
def wtD (K : PySem.W.Frag) (x : List D × Tg) : D := .tup [.tup x.1, tgD K x.2]
def pend (K : PySem.W.Frag) (ws : List (List D × Tg)) : List D := ws.flatMap fun x => lvD K x.2 x.1
def szS (ws : List (List D × Tg)) : Nat := (ws.map fun x => szT x.2).sum
theorem szT_pos : ∀ t, 0 < szT t
  | .leaf _ => by simp [szT]
  | .ask _ _ n y => by simp only [szT]; omega
theorem len_szS : ∀ ws, ws.length ≤ szS ws
  | [] => Nat.le_refl _
  | w :: ws => by
    have := len_szS ws
    have := szT_pos w.2
    simp only [szS, List.map_cons, List.sum_cons, List.length_cons] at *
    omega
def WsOk (ws : List (List D × Tg)) : Prop := ∀ x ∈ ws, (∃ B, OkT B x.2) ∧ x.1.length + dpT x.2 ≤ 1000 ∧ norL x.1 = true
theorem ws_nor {ws : List (List D × Tg)} (h : WsOk ws) : norL (ws.map (wtD K)).reverse = true := norL_mem (fun x hx => by
  obtain ⟨y, hy, rfl⟩ := List.mem_map.mp (List.mem_reverse.mp hx)
  obtain ⟨⟨B, h1⟩, _, h2⟩ := h y hy
  have e1 := nor_tg (K := K) h1
  have e2 : nor (.tup y.1) = true := by simp only [nor]; exact h2
  show norL [.tup y.1, tgD K y.2] = true
  exact norL_mem (fun x hx => by
    simp only [List.mem_cons, List.not_mem_nil, or_false] at hx
    rcases hx with rfl | rfl
    · exact e2
    · exact e1))
theorem norL_app {p : List D} {t : Lin} {s b : Bool} (h : norL p = true) : norL (p ++ [.tup [rwD K t s, .bl b]]) = true := norL_mem (fun x hx => by
  rcases List.mem_append.mp hx with q | q
  · have := nor_row (K := K) t s
    clear this
    induction p with
    | nil => cases q
    | cons y ys ih =>
      simp only [norL, Bool.and_eq_true] at h
      rcases List.mem_cons.mp q with rfl | q
      · exact h.1
      · exact ih h.2 (List.mem_append.mpr (.inl q)) q
  · rw [List.mem_singleton.mp q]
    have := nor_row (K := K) t s
    show norL [rwD K t s, .bl b] = true
    exact norL_mem (fun x hx => by
      simp only [List.mem_cons, List.not_mem_nil, or_false] at hx
      rcases hx with rfl | rfl
      · exact this
      · rfl))
def S_leaves (K : PySem.W.Frag) : SpD := fun ds m k => ∃ t B, ds = [tgD K t] ∧ OkT B t ∧ dpT t ≤ 1000 ∧ szT t ≤ 10000 ∧ ∀ b, m b = none → k (.ref b) (updM m b (.lst (lvD K t [])))
theorem sc_leaves : FnScope ["tree", "found", "waiting", "path", "node"] ["tree"] (defScope s_leaves) := ⟨rfl, rfl, rfl, by decide +kernel, rfl, by decide +kernel, by decide +kernel⟩
theorem fn_leaves (T : Txt K mg) : Fn P w K mg base 2 (He.ga K "leaves") ["tree"] (S_leaves K) := by
  refine fn_of1 (kk := 1) T.F_leaves sc_leaves (fun ds m k h => by obtain ⟨t, B, rfl, _⟩ := h; rfl) (fun _ _ _ _ _ _ us hl => match us, hl with | [_], _ => rfl) ?_
  intro cdv A outer s H E hr
  refine ⟨_, (pss_cons (ps_set (i := 1) sc_leaves.nd rfl (.inl rfl) (pe_lst pa_nil))
      (pss_cons (ps_set (i := 2) sc_leaves.nd rfl (.inl rfl) (pe_lst (pa_cons (pe_tup (pa_cons (pe_tup pa_nil) (pa_cons (pv 0) pa_nil))) pa_nil)))
      (pss_cons (ps_while PassesOwn.never (pt_cmpR (op_neB rn_nil hr) (pv 2) (pe_lst pa_nil) (nomark _)) (pss_cons (ps_asg (pe_bm0 PySem.F.plainAttrs_list PySem.F.slot_list_pop PySem.F.type_list_pop mt_popN (pv 2)) (pg_tup rfl (pgs_cons (pg_name (i := 3) sc_leaves.nd rfl (.inl rfl)) (pgs_cons (pg_name (i := 4) sc_leaves.nd rfl (.inl rfl)) pgs_nil))))
      (pss_one (ps_if (pt_cmpR op_eq (pe_ix ix_seq (pv 4) pe_int (fun _ _ => rfl)) pe_str (nomark _)) (pss_one (ps_expr (pe_bm PySem.F.plainAttrs_list PySem.F.slot_list_append PySem.F.type_list_append mt_append (pv 1) (pa_cons (pe_tup (pa_cons (pv 3) (pa_cons (pe_ix ix_seq (pv 4) pe_int (fun _ _ => rfl)) pa_nil))) pa_nil)))) (pss_cons (ps_expr (pe_bm PySem.F.plainAttrs_list PySem.F.slot_list_append PySem.F.type_list_append mt_append (pv 2) (pa_cons (pe_tup (pa_cons (pe_op op_catAK (pv 3) (pe_tup (pa_cons (pe_tup (pa_cons (pe_ix ix_seq (pv 4) pe_int (fun _ _ => rfl)) (pa_cons pe_bl pa_nil))) pa_nil))) (pa_cons (pe_ix ix_seq (pv 4) pe_int (fun _ _ => rfl)) pa_nil))) pa_nil)))
      (pss_one (ps_expr (pe_bm PySem.F.plainAttrs_list PySem.F.slot_list_append PySem.F.type_list_append mt_append (pv 2) (pa_cons (pe_tup (pa_cons (pe_op op_catAK (pv 3) (pe_tup (pa_cons (pe_tup (pa_cons (pe_ix ix_seq (pv 4) pe_int (fun _ _ => rfl)) (pa_cons pe_bl pa_nil))) pa_nil))) (pa_cons (pe_ix ix_seq (pv 4) pe_int (fun _ _ => rfl)) pa_nil))) pa_nil)))))))))
      (pss_one (ps_ret (pv 1)))))), ?_⟩
  intro ds m k hS
  obtain ⟨t, B, rfl, ho, hdp, hsz, hk⟩ := hS
  walk_at "s"
  refine s_seq (s_set (e_lstM (a_nil ⟨len0', fun p hp => ?_⟩)))
  dsimp only [List.set]
  refine s_seq (s_set (e_lstM (a_cons (e_tup (a_cons (e_tup (a_nil ⟨len0', a_cons (e_var rfl (a_nil ⟨len2', a_nil ⟨len1', fun q hq => ?_⟩⟩))⟩)))))))
  dsimp only [List.set]
  have hpq : p ≠ q := fun e => by rw [e, updM_same] at hq; cases hq
  have hq0 : m q = none := by rw [updM_ne (Ne.symm hpq)] at hq; exact hq
  refine s_seq (s_while (fun n r' m' => ∃ (ws : List (List D × Tg)) (acc : List D) (x3 x4 : Option D), m' = updM (updM m p (.lst acc)) q (.lst (ws.map (wtD K)).reverse) ∧ r' = [some (tgD K t), some (.ref p), some (.ref q), x3, x4] ∧ n = szS ws ∧ WsOk ws ∧ acc ++ pend K ws = lvD K t [] ∧ acc.length + szS ws ≤ szT t) (szT t) ⟨[([], t)], [], none, none, rfl, rfl, by simp [szS], by intro x hx; rw [List.mem_singleton.mp hx]; exact ⟨⟨B, ho⟩, by simpa using hdp, rfl⟩, by simp [pend], by simp [szS]⟩ ?_)
  rintro n r' m' ⟨ws, acc, x3, x4, rfl, rfl, rfl, hws, hac, hlen⟩
  have hl := len_szS ws
  refine t_bor (i := 2) rfl updM_same ?_
  dsimp only [List.set]
  walk_at "d"
  refine r_neN (ws_nor hws) ?_
  cases ws with
  | nil =>
    refine ⟨_, rfl, ite_d0 rfl ?_⟩
    have hac2 : acc = lvD K t [] := by simpa [pend] using hac
    subst hac2
    refine wS.drop (m2 := updM m p (.lst (lvD K t []))) (Sub.refl.upd (by rw [updM_ne (Ne.symm hpq)]; exact hq0)) ?_
    walk_at "d"
    exact hk p hp
  | cons x ws =>
    obtain ⟨⟨Bx, hx1⟩, hx2, hx3⟩ := hws x (List.mem_cons_self ..)
    have hws2 : WsOk ws := fun y hy => hws y (List.mem_cons_of_mem _ hy)
    have hpe : pend K (x :: ws) = lvD K x.2 x.1 ++ pend K ws := by simp [pend]
    have hss : szS (x :: ws) = szT x.2 + szS ws := by simp [szS]
    obtain ⟨xp, xt⟩ := x
    rw [List.length_cons] at hl
    simp only at hx1 hx2 hx3 hpe hss
    have hne : (!((wtD K (xp, xt) :: ws.map (wtD K)).reverse).isEmpty) = true := by simp
    refine ⟨_, rfl, ite_d1 hne ?_⟩
    refine s_seq (s_asg (e_pop (e_var rfl ⟨q, (ws.map (wtD K)).reverse, .tup [.tup xp, tgD K xt], rfl, by rw [updM_same]; simp [wtD], ?_⟩)))
    rw [updM_updM]
    have hn1 : updM (updM m p (.lst acc)) q (.lst (ws.map (wtD K)).reverse) p = some (.lst acc) := by rw [updM_ne hpq, updM_same]
    cases xt with
    | leaf d =>
      rw [tgD_leaf]
      simp only [szT] at hss
      simp only [lvD] at hpe
      walk_at "d"
      refine s_app (e_var rfl ⟨p, acc, rfl, hn1, ?_⟩)
      walk_at "d"
      refine ⟨acc, hn1, by omega, ?_⟩
      refine ⟨szS ws, by omega, ws, acc ++ [.tup [.tup xp, d]], _, _, ?_, rfl, rfl, hws2, ?_, ?_⟩
      · rw [updM_comm hpq, updM_updM, updM_comm (Ne.symm hpq)]
      · rw [← hac, hpe, List.append_assoc]
      · simp; omega
    | ask t2 s2 n2 y2 =>
      obtain ⟨z1, z2, z3⟩ := hx1
      rw [tgD_ask]
      simp only [szT] at hss
      simp only [lvD] at hpe
      simp only [dpT] at hx2
      walk_at "d"
      refine s_seq (s_app (e_var rfl ⟨q, _, rfl, updM_same, ?_⟩))
      walk_at "d"
      refine r_catA (by simp; omega) ?_
      walk_at "d"
      refine ⟨_, updM_same, by simp; omega, ?_⟩
      rw [updM_updM]
      refine s_next ?_
      refine s_app (e_var rfl ⟨q, _, rfl, updM_same, ?_⟩)
      walk_at "d"
      refine r_catA (by simp; omega) ?_
      walk_at "d"
      refine ⟨_, updM_same, by simp; omega, ?_⟩
      rw [updM_updM]
      refine ⟨szS ((xp ++ [.tup [rwD K t2 s2, .bl false]], n2) :: (xp ++ [.tup [rwD K t2 s2, .bl true]], y2) :: ws), ?_, _, acc, _, _, ?_, rfl, rfl, ?_, ?_, ?_⟩
      · simp [szS] at hss ⊢; omega
      · simp [wtD]
      · intro x hx
        rcases List.mem_cons.mp hx with rfl | hx
        · exact ⟨⟨Bx, z2⟩, by simp; omega, norL_app hx3⟩
        rcases List.mem_cons.mp hx with rfl | hx
        · exact ⟨⟨Bx, z3⟩, by simp; omega, norL_app hx3⟩
        exact hws2 x hx
      · rw [← hac, hpe]; simp [pend]
      · simp [szS] at hss hlen ⊢; omega
end
end LW
end

section
set_option Elab.async false
set_option linter.all false
set_option maxRecDepth 100000
set_option maxHeartbeats 1000000
set_option exponentiation.threshold 10000
namespace LW
open PySem PySem.Spec PyProof.Rows L2 DL MA
local macro_rules | `(tactic| walk_at "d1") => `(tactic| first
  | (with_reducible refine s_seq ?_) | (with_reducible refine s_set ?_) | (with_reducible refine s_ret ?_) | (with_reducible refine s_if ?_) | (with_reducible refine s_fld ?_) | (with_reducible refine s_next ?_) | (with_reducible refine s_par ?_)
  | (with_reducible refine e_var rfl ?_) | (with_reducible refine e_int ?_) | (with_reducible refine e_bl ?_) | (with_reducible refine e_non ?_) | (with_reducible refine e_str ?_) | (with_reducible refine e_ty ?_) | (with_reducible refine e_ref ?_)
  | (with_reducible refine e_op ?_) | (with_reducible refine e_un ?_) | (with_reducible refine e_cb ?_) | (with_reducible refine e_if ?_) | (with_reducible refine e_andV ?_) | (with_reducible refine e_orV ?_) | (with_reducible refine e_notV ?_) | (with_reducible refine e_fld ?_)
  | (with_reducible refine e_call0 ?_) | (with_reducible refine e_meth0 ?_) | (with_reducible refine e_make (dds := []) nilD ?_) | (with_reducible refine e_stat0 ?_)
  | (with_reducible refine a_nil ?_) | (with_reducible refine a_cons ?_) | (with_reducible refine e_tup ?_)
  | (with_reducible refine t_test ?_) | (with_reducible refine t_B ?_) | (with_reducible refine t_and ?_) | (with_reducible refine t_or ?_) | (with_reducible refine t_not ?_)
  | (with_reducible refine ri0 ?_) | (with_reducible refine rb0 ?_) | (with_reducible refine req ?_) | (with_reducible refine rne ?_) | (with_reducible refine reqb ?_) | (with_reducible refine ui ?_)
  | (with_reducible refine c_abs ?_) | (with_reducible refine c_int1 ?_) | (with_reducible refine c_bool1 ?_)
  | (with_reducible refine Exists.intro _ (And.intro rfl ?_)))
local macro_rules | `(tactic| walk_at "d") => `(tactic| repeat (walk_at "d1"; try dsimp only [List.set, wipeD, List.map]))
local macro_rules | `(tactic| walk_at "s") => `(tactic| dsimp only [cxOf, Cx.nox, Cx.wish, startD, List.map, List.length, Nat.reduceAdd, Nat.reduceSub, List.reduceReplicate, HAppend.hAppend, Append.append, List.append])
local macro_rules | `(tactic| walk_at "d1") => `(tactic| with_reducible refine e_lst ?_)
local macro_rules | `(tactic| walk_at "d1") => `(tactic| first
  | (with_reducible refine fld_top (by assumption) ?_) | (with_reducible refine fld_bottom (by assumption) ?_)
  | (with_reducible refine isnum_num (by assumption) (by assumption) ?_) | (with_reducible refine assh_num (by assumption) ?_) | (with_reducible refine isnum_num (by assumption) (Num.sh _) ?_) | (with_reducible refine assh_num (Num.sh _) ?_) | (with_reducible refine isnum_num (by assumption) (Num.int _) ?_) | (with_reducible refine assh_num (Num.int _) ?_)
  | (with_reducible refine e_Share1 ?_) | (with_reducible refine e_Share2 ?_))
local macro_rules | `(tactic| walk_at "d1") => `(tactic| first | (with_reducible refine r_SN (by assumption) ?_) | (with_reducible refine r_SN (Num.sh _) ?_) | (with_reducible refine r_SN (Num.int _) ?_) | (with_reducible refine u_S ?_))
local macro_rules | `(tactic| walk_at "d1") => `(tactic| first
  | (with_reducible refine fld_number (by assumption) ?_) | (with_reducible refine fld_times (by assumption) ?_) | (with_reducible refine e_Term ?_)
  | (with_reducible refine e_lcU (gin_name (by decide)) ?_) | (with_reducible refine i_rng1 ?_) | (with_reducible refine i_tup ?_) | (with_reducible refine i_list ?_) | (with_reducible refine t_yes ?_) | (with_reducible refine g_name ?_)
  | (with_reducible refine unrc_r3 ?_) | (with_reducible refine unrc_r4 ?_) | (with_reducible refine unr_r3 ?_) | (with_reducible refine unr_r4 ?_) | (with_reducible refine unr_r2 ?_) | (with_reducible refine unrc_cons ?_) | (with_reducible refine unrc_nil ?_) | (with_reducible refine unr_cons ?_) | (with_reducible refine unr_nil ?_) | (with_reducible refine s_forU ?_)
  | (with_reducible refine iteT ?_) | (with_reducible refine iteF ?_) | (with_reducible refine e_chain ?_) | (with_reducible refine And.intro len3 ?_) | (with_reducible refine And.intro len4 ?_) | (with_reducible refine And.intro (by decide) ?_) | (with_reducible refine ite_d1 (by decide) ?_) | (with_reducible refine ite_d0 (by decide) ?_))
local macro_rules | `(tactic| walk_at "d1") => `(tactic| first
  | (with_reducible refine isworth (by assumption) (by assumption) ?_) | (with_reducible refine asterm (by assumption) ?_) | (with_reducible refine isworth (by assumption) (Wth.tm _) ?_) | (with_reducible refine asterm (Wth.tm _) ?_)
  | (with_reducible refine i_zipT ?_) | (with_reducible refine unrc_z3 ?_) | (with_reducible refine e_lcU (gin_tup (gsin_one (by decide) (gsin_one (by decide) gsin_nil))) ?_) | (with_reducible refine g_tup rfl ?_) | (with_reducible refine gs_cons ?_) | (with_reducible refine gs_nil ?_)
  | (with_reducible refine And.intro lenz3 ?_) | (with_reducible refine Exists.intro _ (Exists.intro _ (And.intro rfl ?_)))
  | (with_reducible refine EN.i_enumT ?_) | (with_reducible refine unr_e3 ?_) | (with_reducible refine e_methT (fun _ => rfl) ?_) | (with_reducible refine a_star ?_)
  | (with_reducible refine r_TW (by assumption) ?_) | (with_reducible refine r_TW (Wth.tm _) ?_))
local macro_rules | `(tactic| walk_at "d1") => `(tactic| first | (with_reducible refine Exists.intro _ (Exists.intro _ (And.intro rfl ?_))) | (with_reducible refine And.intro len2' ?_))
local macro_rules | `(tactic| walk_at "d") => `(tactic| repeat (walk_at "d1"; try dsimp only [List.set, wipeD, List.map, Int.reduceAdd]))
local macro_rules | `(tactic| walk_at "d1") => `(tactic| first
  | (with_reducible refine And.intro rfl ?_) | (with_reducible refine ixT0 ?_) | (with_reducible refine ixT1 ?_) | (with_reducible refine ixL0 ?_) | (with_reducible refine ixL1 ?_) | (with_reducible refine ixL2 ?_) | (with_reducible refine ixL3 ?_))
local macro_rules | `(tactic| walk_at "d1") => `(tactic| first | (with_reducible refine isi_SS (by assumption) ?_) | (with_reducible refine isi_TT (by assumption) ?_) | (with_reducible refine isi_RR (by assumption) ?_))
local macro_rules | `(tactic| walk_at "d1") => `(tactic| first | (with_reducible refine s_asg ?_))
local macro_rules | `(tactic| walk_at "bn") => `(tactic| repeat (first | with_reducible assumption | with_reducible apply Bn.mul | with_reducible apply Bn.sub | with_reducible apply Bn.neg | with_reducible apply Bn.add | with_reducible apply Bn.addL))
local macro_rules | `(tactic| walk_at "d1") => `(tactic| first
  | (with_reducible refine ixT0 ?_) | (with_reducible refine ixT1 ?_) | (with_reducible refine ixT2 ?_) | (with_reducible refine ixT3 ?_) | (with_reducible refine And.intro rfl ?_) | (with_reducible refine reqS ?_) | (with_reducible refine ite_d1 rfl ?_) | (with_reducible refine ite_d0 rfl ?_)
  | (with_reducible refine ri (Cc := CMulW) ?_ ?_; refine bmul (by walk_at "bn") (by walk_at "bn") (by omega))
  | (with_reducible refine And.intro len2' ?_) | (with_reducible refine And.intro len3' ?_) | (with_reducible refine And.intro len1' ?_) | (with_reducible refine And.intro len0' ?_))
section
variable {P : Program} {w : World} {K : PySem.W.Frag} {mg : Str → Option Value} {base : Heap}
def lenP : D → Int
  | .tup [.tup q, _] => q.length
  | _ => 0
theorem lv_all : ∀ (t : Tg) (p : List D), ∀ x ∈ lvD K t p, ∃ q d, x = .tup [.tup q, d] ∧ q.length ≤ p.length + dpT t
  | .leaf d, p, x, hx => ⟨p, d, by simpa [lvD] using hx, by simp [dpT]⟩
  | .ask t s n y, p, x, hx => by
    simp only [lvD] at hx
    rcases List.mem_append.mp hx with h | h
    · obtain ⟨q, d, e, h1⟩ := lv_all n _ x h
      exact ⟨q, d, e, by simp [dpT] at h1 ⊢; omega⟩
    · obtain ⟨q, d, e, h1⟩ := lv_all y _ x h
      exact ⟨q, d, e, by simp [dpT] at h1 ⊢; omega⟩
theorem lv_some : ∀ (t : Tg) (p : List D), ∃ q d, D.tup [.tup q, d] ∈ lvD K t p ∧ q.length = p.length + dpT t
  | .leaf d, p => ⟨p, d, by simp [lvD], by simp [dpT]⟩
  | .ask t s n y, p => by
    by_cases h : dpT n ≤ dpT y
    · obtain ⟨q, d, h1, h2⟩ := lv_some y (p ++ [.tup [rwD K t s, .bl true]])
      exact ⟨q, d, by simp only [lvD]; exact List.mem_append.mpr (.inr h1), by rw [h2]; simp [dpT]; omega⟩
    · obtain ⟨q, d, h1, h2⟩ := lv_some n (p ++ [.tup [rwD K t s, .bl false]])
      exact ⟨q, d, by simp only [lvD]; exact List.mem_append.mpr (.inl h1), by rw [h2]; simp [dpT]; omega⟩
theorem lv_sz : ∀ (t : Tg) (p : List D), (lvD K t p).length ≤ szT t
  | .leaf d, p => by simp [lvD, szT]
  | .ask t s n y, p => by
    have h1 := lv_sz n (p ++ [.tup [rwD K t s, .bl false]])
    have h2 := lv_sz y (p ++ [.tup [rwD K t s, .bl true]])
    simp only [lvD, List.length_append, szT]
    omega
theorem lv_max {t : Tg} {n : Int} (h1 : n ∈ (lvD K t []).map lenP) (h2 : ∀ y ∈ (lvD K t []).map lenP, y ≤ n) : n = (dpT t : Int) := by
  obtain ⟨x, hx, rfl⟩ := List.mem_map.mp h1
  obtain ⟨q, d, rfl, hq⟩ := lv_all t [] x hx
  obtain ⟨q2, d2, hm, hq2⟩ := lv_some (K := K) t []
  have := h2 _ (List.mem_map.mpr ⟨_, hm, rfl⟩)
  simp only [lenP, List.length_nil, Nat.zero_add] at *
  omega
def S_depth (K : PySem.W.Frag) : SpD := fun ds m k => ∃ t B, ds = [tgD K t] ∧ OkT B t ∧ dpT t ≤ 1000 ∧ szT t ≤ 10000 ∧ k (.int (dpT t : Int)) m
theorem sc_depth : FnScope ["tree", "path", "value"] ["tree"] (defScope s_depth) := ⟨rfl, rfl, rfl, by decide +kernel, rfl, by decide +kernel, by decide +kernel⟩
theorem fn_depth (T : Txt K mg) (Ol : Fn P w K mg base 2 (He.ga K "leaves") ["tree"] (S_leaves K)) : Fn P w K mg base 3 (He.ga K "depth") ["tree"] (S_depth K) := by
  obtain ⟨⟨_, G_leaves, b_leaves⟩, k_leaves⟩ := Ol
  refine fn_of1 (kk := 2) T.F_depth sc_depth (fun ds m k h => by obtain ⟨t, B, rfl, _⟩ := h; rfl) (fun _ _ _ _ _ _ us hl => match us, hl with | [_], _ => rfl) ?_
  intro cdv A outer s H E hr
  refine ⟨_, (pss_one (ps_ret (pe_callB (cr_maxN rfl) rfl T.n_max (by decide +kernel) (pa_cons (pe_lc (own := [("path", 1), ("value", 2)]) rfl sc_depth.nd (pi_list (pe_call G_leaves (hr.mono (by decide)) rfl T.g_leaves k_leaves b_leaves .nil pass0 (pa_cons (pv 0) pa_nil))) (blkOk_by (own := [("path", 1), ("value", 2)]) (N := ["tree", "path", "value"]) (sc := defScope s_depth) (by decide +kernel)) (fun _ _ _ _ _ => (pg_tupK2 (K := K) rfl (pg_tup rfl (pgs_cons (pg_name (i := 1) sc_depth.nd rfl (.inl rfl)) (pgs_cons (pg_name (i := 2) sc_depth.nd rfl (.inl rfl)) pgs_nil))))) (fun _ _ _ _ _ => pts_nil) (fun _ _ _ _ _ => (pe_callB (call_len_seqK (K := K) rfl) rfl T.n_len PySem.boot_len (pa_cons (pv 1) pa_nil)))) pa_nil)))), ?_⟩
  intro ds m k hS
  obtain ⟨t, B, rfl, ho, hdp, hsz, hk⟩ := hS
  have hls := lv_sz (K := K) t []
  walk_at "s"
  refine s_ret (e_cb (a_cons (e_lcU (gin_tup (gsin_one (by decide) (gsin_one (by decide) gsin_nil))) (i_list (e_frz ?_)))))
  walk_at "d"
  refine ⟨t, B, rfl, ho, hdp, hsz, fun b hb => ⟨b, _, m, rfl, updM_same, by rw [del_upd hb]; exact Sub.refl, ?_⟩⟩
  refine ⟨_, rfl, by omega, unrc_map (fun x => .int (lenP x)) (fun x hx => ?_) ?_⟩
  · obtain ⟨q, d, rfl, _⟩ := lv_all t [] x hx
    walk_at "d"
    refine c_len (.inr (.inl ⟨_, rfl, rfl⟩)) ?_
    exact ⟨rfl, rfl⟩
  · refine a_nil (c_max (ns := (lvD K t []).map lenP) (by simp) (by obtain ⟨q, d, hm, _⟩ := lv_some (K := K) t []; rw [List.length_map]; exact List.length_pos_of_mem hm) fun n h1 h2 => ?_)
    rw [lv_max h1 h2]
    exact hk
def S_walk (K : PySem.W.Frag) : SpD := fun ds m k => ∃ t d qs B, ds = [tgD K t, d] ∧ Pt K d qs ∧ OkT B t ∧ (∃ C, 0 < C ∧ (∀ q ∈ qs, Sz C q) ∧ 4 * B + 3 * C + 3 ≤ 8900) ∧ k (wkT qs t) m
theorem sc_walk : FnScope ["tree", "point"] ["tree", "point"] (defScope s_walk) := ⟨rfl, rfl, rfl, by decide +kernel, rfl, by decide +kernel, by decide +kernel⟩
theorem fn_walk (T : Txt K mg) (Oh : Fn P w K mg base 7 (mR K "holds") ["self", "point"] (S_holds K)) : Fn P w K mg base 8 (He.ga K "walk") ["tree", "point"] (S_walk K) := by
  obtain ⟨⟨_, G_Row_holds, b_Row_holds⟩, _⟩ := Oh
  refine fn_of1 (kk := 7) T.F_walk sc_walk (fun ds m k h => by obtain ⟨t, d, qs, B, rfl, _⟩ := h; rfl) (fun _ _ _ _ _ _ us hl => match us, hl with | [_, _], _ => rfl) ?_
  intro cdv A outer s H E hr
  refine ⟨_, (pss_cons (ps_while PassesOwn.never (pt_cmpR op_eq (pe_ix ix_seq (pv 0) pe_int (fun _ _ => rfl)) pe_str (nomark _)) (pss_one (ps_set (i := 0) sc_walk.nd rfl (.inl rfl) (pe_ifExp (pt_val (pe_meth (pe_ix ix_seq (pv 0) pe_int (fun _ _ => rfl)) T.c_Row T.m_Row_holds G_Row_holds (hr.mono (by decide)) b_Row_holds .nil pass0 (pa_cons (pv 1) pa_nil))) (pe_ix ix_seq (pv 0) pe_int (fun _ _ => rfl)) (pe_ix ix_seq (pv 0) pe_int (fun _ _ => rfl))))))
      (pss_one (ps_ret (pe_ix ix_seq (pv 0) pe_int (fun _ _ => rfl))))), ?_⟩
  intro ds m k hS
  obtain ⟨t, d, qs, B, rfl, hp, ho, ⟨C, hC, hq, hz⟩, hk⟩ := hS
  walk_at "s"
  refine s_seq (s_while (fun n r' m' => m' = m ∧ ∃ u, r' = [some (tgD K u), some d] ∧ n = dpT u ∧ OkT B u ∧ wkT qs u = wkT qs t) (dpT t) ⟨rfl, t, rfl, rfl, ho, rfl⟩ ?_)
  rintro n r' m' ⟨rfl, u, rfl, rfl, hu, hw⟩
  cases u with
  | leaf a =>
    rw [tgD_leaf]
    walk_at "d"
    rw [← hw] at hk
    exact hk
  | ask t2 s2 n2 y2 =>
    obtain ⟨z1, z2, z3⟩ := hu
    rw [tgD_ask]
    walk_at "d"
    refine ⟨_, .inl rfl, rfl, ?_⟩
    walk_at "d"
    refine ⟨t2, s2, d, qs, rfl, hp, ⟨B, C, z1, hC, hq, hz⟩, ?_⟩
    walk_at "d"
    have e : wkT qs (.ask t2 s2 n2 y2) = if hld t2 s2 qs = true then wkT qs y2 else wkT qs n2 := rfl
    rw [e] at hw
    cases h : hld t2 s2 qs
    · rw [h, if_neg (by decide)] at hw
      walk_at "d"
      exact ⟨dpT n2, by simp only [dpT]; omega, rfl, n2, rfl, rfl, z2, hw⟩
    · rw [h, if_pos rfl] at hw
      walk_at "d"
      exact ⟨dpT y2, by simp only [dpT]; omega, rfl, y2, rfl, rfl, z3, hw⟩
end
end LW
end

section
set_option Elab.async false
set_option linter.all false
set_option maxRecDepth 100000
set_option maxHeartbeats 1000000
set_option exponentiation.threshold 10000
namespace LW
open PySem PySem.Spec PyProof.Rows L2 DL MA
local macro_rules | `(tactic| walk_at "d1") => `(tactic| first
  | (with_reducible refine s_seq ?_) | (with_reducible refine s_set ?_) | (with_reducible refine s_ret ?_) | (with_reducible refine s_if ?_) | (with_reducible refine s_fld ?_) | (with_reducible refine s_next ?_) | (with_reducible refine s_par ?_)
  | (with_reducible refine e_var rfl ?_) | (with_reducible refine e_int ?_) | (with_reducible refine e_bl ?_) | (with_reducible refine e_non ?_) | (with_reducible refine e_str ?_) | (with_reducible refine e_ty ?_) | (with_reducible refine e_ref ?_)
  | (with_reducible refine e_op ?_) | (with_reducible refine e_un ?_) | (with_reducible refine e_cb ?_) | (with_reducible refine e_if ?_) | (with_reducible refine e_andV ?_) | (with_reducible refine e_orV ?_) | (with_reducible refine e_notV ?_) | (with_reducible refine e_fld ?_)
  | (with_reducible refine e_call0 ?_) | (with_reducible refine e_meth0 ?_) | (with_reducible refine e_make (dds := []) nilD ?_) | (with_reducible refine e_stat0 ?_)
  | (with_reducible refine a_nil ?_) | (with_reducible refine a_cons ?_) | (with_reducible refine e_tup ?_)
  | (with_reducible refine t_test ?_) | (with_reducible refine t_B ?_) | (with_reducible refine t_and ?_) | (with_reducible refine t_or ?_) | (with_reducible refine t_not ?_)
  | (with_reducible refine ri0 ?_) | (with_reducible refine rb0 ?_) | (with_reducible refine req ?_) | (with_reducible refine rne ?_) | (with_reducible refine reqb ?_) | (with_reducible refine ui ?_)
  | (with_reducible refine c_abs ?_) | (with_reducible refine c_int1 ?_) | (with_reducible refine c_bool1 ?_)
  | (with_reducible refine Exists.intro _ (And.intro rfl ?_)))
local macro_rules | `(tactic| walk_at "d") => `(tactic| repeat (walk_at "d1"; try dsimp only [List.set, wipeD, List.map]))
local macro_rules | `(tactic| walk_at "s") => `(tactic| dsimp only [cxOf, Cx.nox, Cx.wish, startD, List.map, List.length, Nat.reduceAdd, Nat.reduceSub, List.reduceReplicate, HAppend.hAppend, Append.append, List.append])
local macro_rules | `(tactic| walk_at "d1") => `(tactic| with_reducible refine e_lst ?_)
local macro_rules | `(tactic| walk_at "d1") => `(tactic| first
  | (with_reducible refine fld_top (by assumption) ?_) | (with_reducible refine fld_bottom (by assumption) ?_)
  | (with_reducible refine isnum_num (by assumption) (by assumption) ?_) | (with_reducible refine assh_num (by assumption) ?_) | (with_reducible refine isnum_num (by assumption) (Num.sh _) ?_) | (with_reducible refine assh_num (Num.sh _) ?_) | (with_reducible refine isnum_num (by assumption) (Num.int _) ?_) | (with_reducible refine assh_num (Num.int _) ?_)
  | (with_reducible refine e_Share1 ?_) | (with_reducible refine e_Share2 ?_))
local macro_rules | `(tactic| walk_at "d1") => `(tactic| first | (with_reducible refine r_SN (by assumption) ?_) | (with_reducible refine r_SN (Num.sh _) ?_) | (with_reducible refine r_SN (Num.int _) ?_) | (with_reducible refine u_S ?_))
local macro_rules | `(tactic| walk_at "d1") => `(tactic| first
  | (with_reducible refine fld_number (by assumption) ?_) | (with_reducible refine fld_times (by assumption) ?_) | (with_reducible refine e_Term ?_)
  | (with_reducible refine e_lcU (gin_name (by decide)) ?_) | (with_reducible refine i_rng1 ?_) | (with_reducible refine i_tup ?_) | (with_reducible refine i_list ?_) | (with_reducible refine t_yes ?_) | (with_reducible refine g_name ?_)
  | (with_reducible refine unrc_r3 ?_) | (with_reducible refine unrc_r4 ?_) | (with_reducible refine unr_r3 ?_) | (with_reducible refine unr_r4 ?_) | (with_reducible refine unr_r2 ?_) | (with_reducible refine unrc_cons ?_) | (with_reducible refine unrc_nil ?_) | (with_reducible refine unr_cons ?_) | (with_reducible refine unr_nil ?_) | (with_reducible refine s_forU ?_)
  | (with_reducible refine iteT ?_) | (with_reducible refine iteF ?_) | (with_reducible refine e_chain ?_) | (with_reducible refine And.intro len3 ?_) | (with_reducible refine And.intro len4 ?_) | (with_reducible refine And.intro (by decide) ?_) | (with_reducible refine ite_d1 (by decide) ?_) | (with_reducible refine ite_d0 (by decide) ?_))
local macro_rules | `(tactic| walk_at "d1") => `(tactic| first
  | (with_reducible refine isworth (by assumption) (by assumption) ?_) | (with_reducible refine asterm (by assumption) ?_) | (with_reducible refine isworth (by assumption) (Wth.tm _) ?_) | (with_reducible refine asterm (Wth.tm _) ?_)
  | (with_reducible refine i_zipT ?_) | (with_reducible refine unrc_z3 ?_) | (with_reducible refine e_lcU (gin_tup (gsin_one (by decide) (gsin_one (by decide) gsin_nil))) ?_) | (with_reducible refine g_tup rfl ?_) | (with_reducible refine gs_cons ?_) | (with_reducible refine gs_nil ?_)
  | (with_reducible refine And.intro lenz3 ?_) | (with_reducible refine Exists.intro _ (Exists.intro _ (And.intro rfl ?_)))
  | (with_reducible refine EN.i_enumT ?_) | (with_reducible refine unr_e3 ?_) | (with_reducible refine e_methT (fun _ => rfl) ?_) | (with_reducible refine a_star ?_)
  | (with_reducible refine r_TW (by assumption) ?_) | (with_reducible refine r_TW (Wth.tm _) ?_))
local macro_rules | `(tactic| walk_at "d1") => `(tactic| first | (with_reducible refine Exists.intro _ (Exists.intro _ (And.intro rfl ?_))) | (with_reducible refine And.intro len2' ?_))
local macro_rules | `(tactic| walk_at "d") => `(tactic| repeat (walk_at "d1"; try dsimp only [List.set, wipeD, List.map, Int.reduceAdd]))
local macro_rules | `(tactic| walk_at "d1") => `(tactic| first
  | (with_reducible refine And.intro rfl ?_) | (with_reducible refine ixT0 ?_) | (with_reducible refine ixT1 ?_) | (with_reducible refine ixL0 ?_) | (with_reducible refine ixL1 ?_) | (with_reducible refine ixL2 ?_) | (with_reducible refine ixL3 ?_))
local macro_rules | `(tactic| walk_at "d1") => `(tactic| first | (with_reducible refine isi_SS (by assumption) ?_) | (with_reducible refine isi_TT (by assumption) ?_) | (with_reducible refine isi_RR (by assumption) ?_))
local macro_rules | `(tactic| walk_at "d1") => `(tactic| first | (with_reducible refine s_asg ?_))
local macro_rules | `(tactic| walk_at "bn") => `(tactic| repeat (first | with_reducible assumption | with_reducible apply Bn.mul | with_reducible apply Bn.sub | with_reducible apply Bn.neg | with_reducible apply Bn.add | with_reducible apply Bn.addL))
local macro_rules | `(tactic| walk_at "d1") => `(tactic| first
  | (with_reducible refine ixT0 ?_) | (with_reducible refine ixT1 ?_) | (with_reducible refine ixT2 ?_) | (with_reducible refine ixT3 ?_) | (with_reducible refine And.intro rfl ?_) | (with_reducible refine reqS ?_) | (with_reducible refine ite_d1 rfl ?_) | (with_reducible refine ite_d0 rfl ?_)
  | (with_reducible refine ri (Cc := CMulW) ?_ ?_; refine bmul (by walk_at "bn") (by walk_at "bn") (by omega))
  | (with_reducible refine And.intro len2' ?_) | (with_reducible refine And.intro len3' ?_) | (with_reducible refine And.intro len1' ?_) | (with_reducible refine And.intro len0' ?_))
section
variable {P : Program} {w : World} {K : PySem.W.Frag} {mg : Str → Option Value} {base : Heap}
theorem nums_app {ds : List D} {qs : List Rat} {d : D} {q : Rat} (h : Nums K ds qs) (g : Num K d q) : Nums K (ds ++ [d]) (qs ++ [q]) := by
  induction h with
  | nil => exact .cons g .nil
  | cons h t ih => exact .cons h ih
theorem whole_div {u l : Int} (h0 : 0 < l) (h : Int.fmod u l = 0) : ((Int.fdiv u l : Int) : Rat) = Rat.divInt u l := by
  have e : u = Int.fdiv u l * l := by
    have := Int.mul_fdiv_add_fmod u l
    rw [h, Int.add_zero] at this
    rw [Int.mul_comm]; exact this.symm
  generalize Int.fdiv u l = z at e
  subst e
  have hl : (l : Rat) ≠ 0 := by intro e; have := Rat.intCast_inj.mp (show (l : Rat) = ((0 : Int) : Rat) from e); omega
  rw [Rat.divInt_eq_div, Rat.intCast_mul]
  exact (Rat.mul_div_cancel hl).symm
theorem off_del {p b : Addr} {m m1 : Mu} (hb : m b = none) (h : ∀ c, c ≠ p → c ≠ b → m1 c = m c) : Off p m (delM m1 b) := fun c hc => by
  by_cases e : c = b
  · subst e; simp [delM, hb]
  · simp [delM, e, h c hc e]
theorem Dr.upd2 {p b : Addr} {n : Nat} {m : Mu} {o : MO} (h : Dr p n m) (hne : b ≠ p) : Dr p n (updM m b o) := by
  obtain ⟨x, y, z, h1, h2⟩ := h
  exact ⟨x, y, z, by rw [updM_ne (Ne.symm hne)]; exact h1, h2⟩
theorem Dr.del2 {p b : Addr} {n : Nat} {m : Mu} (h : Dr p n m) (hb : b ≠ p) : Dr p n (delM m b) := by
  obtain ⟨x, y, z, h1, h2⟩ := h
  exact ⟨x, y, z, by simp [delM, Ne.symm hb, h1], h2⟩
theorem Dr.ne0 {p b : Addr} {n : Nat} {m : Mu} (h : Dr p n m) (hb : m b = none) : b ≠ p := by
  obtain ⟨x, y, z, h1, h2⟩ := h
  intro e; subst e; rw [hb] at h1; cases h1
def frs (a d b e g f : Int) : List (Int × Int) := [(a, d), (b, e), (g, f)]
def frD (x : Int × Int) : D := .tup [.int x.1, .int x.2]
def frQ (x : Int × Int) : Rat := Rat.divInt x.1 x.2
def S_passed (K : PySem.W.Frag) : SpD := fun ds m k => ∃ (p : Addr) (n mn : Nat) (a d b e g f : Int), ds = [.ref p, ptD a d b e g f, .int (mn : Int)] ∧ (mn = 1 ∨ mn = 2 ∨ mn = 3) ∧ Fr3 a d b e g f ∧ Dr p (n + 4) m ∧
  ∀ x m', Pt K x ((qsOf a d b e g f).take mn) → Off p m m' → Dr p n m' → k x m'
theorem sc_law_passed : FnScope ["_law_draws", "_law_point", "_law_many", "_law_found", "_law_upper", "_law_lower", "_law_is_whole"] ["_law_draws", "_law_point", "_law_many"] (defScope s_law_passed) := ⟨rfl, rfl, rfl, by decide +kernel, rfl, by decide +kernel, by decide +kernel⟩
theorem fn_passed (T : Txt K mg) (Od : Fn P w K mg base 1 (He.ga K "_law_draw") ["_law_draws", "_law_many"] S_draw) (Op : PoolShare P w K mg base) : Fn P w K mg base 4 (He.ga K "_law_passed") ["_law_draws", "_law_point", "_law_many"] (S_passed K) := by
  obtain ⟨⟨_, G_law_draw, b_law_draw⟩, k_law_draw⟩ := Od
  obtain ⟨_, G_Share_init, b_Share_init, _, v1_Share_init, b1_Share_init⟩ := Op
  refine fn_of1 (kk := 3) T.F_law_passed sc_law_passed (fun ds m k h => by obtain ⟨p, n, mn, a, d, b, e, g, f, rfl, _⟩ := h; rfl) (fun _ _ _ _ _ _ us hl => match us, hl with | [_, _, _], _ => rfl) ?_
  intro cdv A outer s H E hr
  refine ⟨_, (pss_cons (ps_set (i := 3) sc_law_passed.nd rfl (.inl rfl) (pe_lst pa_nil))
      (pss_cons (ps_for PassesOwn.never rfl (pi_tup (pe_slice (sl_tupAK (K := K) rfl) (pv 1) po_none (po_some (pv 2)))) (pg_tup rfl (pgs_cons (pg_name (i := 4) sc_law_passed.nd rfl (.inl rfl)) (pgs_cons (pg_name (i := 5) sc_law_passed.nd rfl (.inl rfl)) pgs_nil))) (pss_cons (ps_set (i := 6) sc_law_passed.nd rfl (.inl rfl) (pe_and (pe_cmpR op_eq (pe_op op_modN (pe_callTy call_int1 rfl T.n_int (by decide +kernel) (pa_cons (pv 4) pa_nil)) (pe_callTy call_int1 rfl T.n_int (by decide +kernel) (pa_cons (pv 5) pa_nil))) pe_int (nomark _)) (pe_one (pe_cmpR op_eq (pe_call G_law_draw (hr.mono (by decide)) rfl T.g_law_draw k_law_draw b_law_draw .nil pass0 (pa_cons (pv 0) (pa_cons pe_int pa_nil))) pe_int (nomark _)))))
      (pss_one (ps_expr (pe_bm PySem.F.plainAttrs_list PySem.F.slot_list_append PySem.F.type_list_append mt_append (pv 3) (pa_cons (pe_ifExp (pt_val (pv 6)) (pe_op op_fdivZ (pv 4) (pv 5)) (pe_make T.k_Share G_Share_init (hr.mono (by decide)) rfl T.g_Share b_Share_init .nil pass0 (pa_cons (pv 4) (pa_cons (pv 5) pa_nil)))) pa_nil))))))
      (pss_one (ps_ret (pe_ifExp (pt_cmpR op_eq (pe_call G_law_draw (hr.mono (by decide)) rfl T.g_law_draw k_law_draw b_law_draw .nil pass0 (pa_cons (pv 0) (pa_cons pe_int pa_nil))) pe_int (nomark _)) (pv 3) (pe_callTy call_tuple_of rfl T.n_tuple (by decide +kernel) (pa_cons (pv 3) pa_nil))))))), ?_⟩
  intro ds m k hS
  obtain ⟨p, n, mn, a, d, b, e, g, f, rfl, hmn, hF, hd, hk⟩ := hS
  walk_at "s"
  refine s_seq (s_set (e_lstM (a_nil ⟨len0', fun q hq => ?_⟩)))
  dsimp only [List.set]
  have hqp : q ≠ p := hd.ne0 hq
  refine s_seq (s_forU (i_tup (e_slT (e_var rfl ⟨_, rfl, e_var rfl ⟨mn, rfl, ?_⟩⟩))))
  have hfr : ∀ x ∈ frs a d b e g f, 0 < x.2 ∧ x.1.natAbs < 2 ^ 45 ∧ x.2.natAbs < 2 ^ 45 := by
    intro x hx
    simp only [frs, List.mem_cons, List.not_mem_nil, or_false] at hx
    rcases hx with rfl | rfl | rfl
    · exact ⟨hF.d0, hF.a.lt, hF.d.lt⟩
    · exact ⟨hF.e0, hF.b.lt, hF.e.lt⟩
    · exact ⟨hF.f0, hF.g.lt, hF.f.lt⟩
  have hfl : ([.tup [.int a, .int d], .tup [.int b, .int e], .tup [.int g, .int f]] : List D) = (frs a d b e g f).map frD := rfl
  have hql : qsOf a d b e g f = (frs a d b e g f).map frQ := rfl
  have hlen : (frs a d b e g f).length = 3 := rfl
  rw [hql] at hk
  generalize frs a d b e g f = fs at *
  try refine ⟨_, rfl, ?_⟩
  rw [hfl]
  refine unr_idx (i := 0) (fun i r' m' => ∃ (acc : List D) (x4 x5 x6 : Option D), m' q = some (.lst acc) ∧ (∀ c, c ≠ p → c ≠ q → m' c = m c) ∧ Dr p (n + (4 - i)) m' ∧ r' = [some (.ref p), some (ptD a d b e g f), some (.int (mn : Int)), some (.ref q), x4, x5, x6] ∧ Nums K acc ((fs.map frQ).take i)) ⟨[], none, none, none, updM_same, fun c _ h => updM_ne h, hd.upd2 hqp, rfl, .nil⟩ ?_ ?_
  · rintro i x r' m' hi ⟨acc, x4, x5, x6, hm, ho, hd2, rfl, hN⟩
    rw [Nat.zero_add] at hd2 hN ⊢
    have hal : acc.length < 100000 := by rw [hN.len]; simp; omega
    obtain ⟨hi1, hi2⟩ : i < mn ∧ (fs.map frD)[i]? = some x := by
      rw [List.getElem?_take] at hi
      split at hi
      · exact ⟨by assumption, hi⟩
      · cases hi
    rw [List.getElem?_map] at hi2
    obtain ⟨⟨u, l⟩, hg, rfl⟩ : ∃ y, fs[i]? = some y ∧ frD y = x := by
      cases hx : fs[i]? with
      | none => rw [hx] at hi2; cases hi2
      | some y => rw [hx] at hi2; exact ⟨y, rfl, Option.some.inj hi2⟩
    obtain ⟨l0, hu, hl⟩ := hfr _ (List.mem_of_getElem? hg)
    simp only at l0 hu hl
    have hl9 : l.natAbs < 2 ^ 8999 := Nat.lt_of_lt_of_le hl (Nat.pow_le_pow_right (by decide) (by decide))
    have htk : (fs.map frQ).take (i + 1) = (fs.map frQ).take i ++ [Rat.divInt u l] := by
      rw [List.take_succ, List.getElem?_map, hg]; rfl
    unfold frD
    walk_at "d"
    have hsh : ∀ {m1 : Mu} {y6 : D}, m1 q = some (.lst acc) → (∀ c, c ≠ p → c ≠ q → m1 c = m c) → Dr p (n + (4 - (i + 1))) m1 → ∀ v, Num K v (Rat.divInt u l) → ∃ xs, m1 q = some (.lst xs) ∧ xs.length < 100000 ∧ ∃ (acc : List D) (x4 x5 x6 : Option D), updM m1 q (.lst (xs ++ [v])) q = some (.lst acc) ∧ (∀ c, c ≠ p → c ≠ q → updM m1 q (.lst (xs ++ [v])) c = m c) ∧ Dr p (n + (4 - (i + 1))) (updM m1 q (.lst (xs ++ [v]))) ∧ [some (.ref p), some (ptD a d b e g f), some (.int (mn : Int)), some (.ref q), some (.int u), some (.int l), some y6] = [some (.ref p), some (ptD a d b e g f), some (.int (mn : Int)), some (.ref q), x4, x5, x6] ∧ Nums K acc ((fs.map frQ).take (i + 1)) := by
      intro m1 x6 h1 h2 h3 v hd
      exact ⟨acc, h1, hal, _, _, _, _, updM_same, fun c c1 c2 => by rw [updM_ne c2]; exact h2 c c1 c2, h3.upd2 hqp, rfl, by rw [htk]; exact nums_app hN hd⟩
    refine ri (by omega) ?_
    walk_at "d"
    by_cases hw : Int.fmod u l = 0
    · refine ite_d1 (by simpa using hw) ?_
      walk_at "d"
      refine ⟨p, 2, n + (4 - (i + 1)), rfl, by decide, by decide, hd2.mono (by omega), fun r m1 r0 r1 o1 d1 => ?_⟩
      have hm1 : m1 q = some (.lst acc) := by rw [o1 q hqp]; exact hm
      have ho1 : ∀ c, c ≠ p → c ≠ q → m1 c = m c := fun c c1 c2 => by rw [o1 c c1]; exact ho c c1 c2
      walk_at "d"
      refine s_app (e_var rfl ⟨q, acc, rfl, hm1, ?_⟩)
      walk_at "d"
      by_cases hr0 : r = 0
      · refine ite_d1 (by simpa using hr0) ?_
        walk_at "d"
        refine ri (cdiv (by omega) hl9) ?_
        refine hsh hm1 ho1 d1 _ ?_
        rw [← whole_div l0 hw]
        exact .int _
      · refine ite_d0 (by simpa using hr0) ?_
        walk_at "d"
        refine ⟨_, _, rfl, rfl, by omega, hl9, ?_⟩
        exact hsh hm1 ho1 d1 _ (.sh _)
    · refine ite_d0 (by simpa using hw) ?_
      walk_at "d"
      refine s_app (e_var rfl ⟨q, acc, rfl, hm, ?_⟩)
      walk_at "d"
      refine ⟨_, _, rfl, rfl, by omega, hl9, ?_⟩
      exact hsh hm ho (hd2.mono (by omega)) _ (.sh _)
  · rintro r' m' ⟨acc, x4, x5, x6, hm, ho, hd2, rfl, hN⟩
    have htl : 0 + ((fs.map frD).take mn).length = mn := by simp [hlen]; omega
    rw [htl] at hd2 hN
    refine s_frz (i := 3) rfl hm ?_
    dsimp only [List.set]
    have hoff : Off p m (delM m' q) := off_del hq ho
    have hdr := hd2.del2 hqp
    walk_at "d"
    refine ⟨p, 2, n, rfl, by decide, by decide, hdr.mono (by omega), fun r m1 r0 r1 o1 d1 => ?_⟩
    walk_at "d"
    by_cases hr0 : r = 0
    · refine ite_d1 (by simpa using hr0) ?_
      walk_at "d"
      exact hk _ _ ⟨acc, .inl rfl, hN⟩ (hoff.trans o1) d1
    · refine ite_d0 (by simpa using hr0) ?_
      walk_at "d"
      refine c_tuple ?_
      exact hk _ _ ⟨acc, .inr rfl, hN⟩ (hoff.trans o1) d1
end
end LW
end

section
set_option Elab.async false
set_option linter.all false
set_option maxRecDepth 100000
set_option maxHeartbeats 1000000
set_option exponentiation.threshold 10000
namespace LW
open PySem PySem.Spec PyProof.Rows L2 DL MA
local macro_rules | `(tactic| walk_at "d1") => `(tactic| first
  | (with_reducible refine s_seq ?_) | (with_reducible refine s_set ?_) | (with_reducible refine s_ret ?_) | (with_reducible refine s_if ?_) | (with_reducible refine s_fld ?_) | (with_reducible refine s_next ?_) | (with_reducible refine s_par ?_)
  | (with_reducible refine e_var rfl ?_) | (with_reducible refine e_int ?_) | (with_reducible refine e_bl ?_) | (with_reducible refine e_non ?_) | (with_reducible refine e_str ?_) | (with_reducible refine e_ty ?_) | (with_reducible refine e_ref ?_)
  | (with_reducible refine e_op ?_) | (with_reducible refine e_un ?_) | (with_reducible refine e_cb ?_) | (with_reducible refine e_if ?_) | (with_reducible refine e_andV ?_) | (with_reducible refine e_orV ?_) | (with_reducible refine e_notV ?_) | (with_reducible refine e_fld ?_)
  | (with_reducible refine e_call0 ?_) | (with_reducible refine e_meth0 ?_) | (with_reducible refine e_make (dds := []) nilD ?_) | (with_reducible refine e_stat0 ?_)
  | (with_reducible refine a_nil ?_) | (with_reducible refine a_cons ?_) | (with_reducible refine e_tup ?_)
  | (with_reducible refine t_test ?_) | (with_reducible refine t_B ?_) | (with_reducible refine t_and ?_) | (with_reducible refine t_or ?_) | (with_reducible refine t_not ?_)
  | (with_reducible refine ri0 ?_) | (with_reducible refine rb0 ?_) | (with_reducible refine req ?_) | (with_reducible refine rne ?_) | (with_reducible refine reqb ?_) | (with_reducible refine ui ?_)
  | (with_reducible refine c_abs ?_) | (with_reducible refine c_int1 ?_) | (with_reducible refine c_bool1 ?_)
  | (with_reducible refine Exists.intro _ (And.intro rfl ?_)))
local macro_rules | `(tactic| walk_at "d") => `(tactic| repeat (walk_at "d1"; try dsimp only [List.set, wipeD, List.map]))
local macro_rules | `(tactic| walk_at "s") => `(tactic| dsimp only [cxOf, Cx.nox, Cx.wish, startD, List.map, List.length, Nat.reduceAdd, Nat.reduceSub, List.reduceReplicate, HAppend.hAppend, Append.append, List.append])
local macro_rules | `(tactic| walk_at "d1") => `(tactic| with_reducible refine e_lst ?_)
local macro_rules | `(tactic| walk_at "d1") => `(tactic| first
  | (with_reducible refine fld_top (by assumption) ?_) | (with_reducible refine fld_bottom (by assumption) ?_)
  | (with_reducible refine isnum_num (by assumption) (by assumption) ?_) | (with_reducible refine assh_num (by assumption) ?_) | (with_reducible refine isnum_num (by assumption) (Num.sh _) ?_) | (with_reducible refine assh_num (Num.sh _) ?_) | (with_reducible refine isnum_num (by assumption) (Num.int _) ?_) | (with_reducible refine assh_num (Num.int _) ?_)
  | (with_reducible refine e_Share1 ?_) | (with_reducible refine e_Share2 ?_))
local macro_rules | `(tactic| walk_at "d1") => `(tactic| first | (with_reducible refine r_SN (by assumption) ?_) | (with_reducible refine r_SN (Num.sh _) ?_) | (with_reducible refine r_SN (Num.int _) ?_) | (with_reducible refine u_S ?_))
local macro_rules | `(tactic| walk_at "d1") => `(tactic| first
  | (with_reducible refine fld_number (by assumption) ?_) | (with_reducible refine fld_times (by assumption) ?_) | (with_reducible refine e_Term ?_)
  | (with_reducible refine e_lcU (gin_name (by decide)) ?_) | (with_reducible refine i_rng1 ?_) | (with_reducible refine i_tup ?_) | (with_reducible refine i_list ?_) | (with_reducible refine t_yes ?_) | (with_reducible refine g_name ?_)
  | (with_reducible refine unrc_r3 ?_) | (with_reducible refine unrc_r4 ?_) | (with_reducible refine unr_r3 ?_) | (with_reducible refine unr_r4 ?_) | (with_reducible refine unr_r2 ?_) | (with_reducible refine unrc_cons ?_) | (with_reducible refine unrc_nil ?_) | (with_reducible refine unr_cons ?_) | (with_reducible refine unr_nil ?_) | (with_reducible refine s_forU ?_)
  | (with_reducible refine iteT ?_) | (with_reducible refine iteF ?_) | (with_reducible refine e_chain ?_) | (with_reducible refine And.intro len3 ?_) | (with_reducible refine And.intro len4 ?_) | (with_reducible refine And.intro (by decide) ?_) | (with_reducible refine ite_d1 (by decide) ?_) | (with_reducible refine ite_d0 (by decide) ?_))
local macro_rules | `(tactic| walk_at "d1") => `(tactic| first
  | (with_reducible refine isworth (by assumption) (by assumption) ?_) | (with_reducible refine asterm (by assumption) ?_) | (with_reducible refine isworth (by assumption) (Wth.tm _) ?_) | (with_reducible refine asterm (Wth.tm _) ?_)
  | (with_reducible refine i_zipT ?_) | (with_reducible refine unrc_z3 ?_) | (with_reducible refine e_lcU (gin_tup (gsin_one (by decide) (gsin_one (by decide) gsin_nil))) ?_) | (with_reducible refine g_tup rfl ?_) | (with_reducible refine gs_cons ?_) | (with_reducible refine gs_nil ?_)
  | (with_reducible refine And.intro lenz3 ?_) | (with_reducible refine Exists.intro _ (Exists.intro _ (And.intro rfl ?_)))
  | (with_reducible refine EN.i_enumT ?_) | (with_reducible refine unr_e3 ?_) | (with_reducible refine e_methT (fun _ => rfl) ?_) | (with_reducible refine a_star ?_)
  | (with_reducible refine r_TW (by assumption) ?_) | (with_reducible refine r_TW (Wth.tm _) ?_))
local macro_rules | `(tactic| walk_at "d1") => `(tactic| first | (with_reducible refine Exists.intro _ (Exists.intro _ (And.intro rfl ?_))) | (with_reducible refine And.intro len2' ?_))
local macro_rules | `(tactic| walk_at "d") => `(tactic| repeat (walk_at "d1"; try dsimp only [List.set, wipeD, List.map, Int.reduceAdd]))
local macro_rules | `(tactic| walk_at "d1") => `(tactic| first
  | (with_reducible refine And.intro rfl ?_) | (with_reducible refine ixT0 ?_) | (with_reducible refine ixT1 ?_) | (with_reducible refine ixL0 ?_) | (with_reducible refine ixL1 ?_) | (with_reducible refine ixL2 ?_) | (with_reducible refine ixL3 ?_))
local macro_rules | `(tactic| walk_at "d1") => `(tactic| first | (with_reducible refine isi_SS (by assumption) ?_) | (with_reducible refine isi_TT (by assumption) ?_) | (with_reducible refine isi_RR (by assumption) ?_))
local macro_rules | `(tactic| walk_at "d1") => `(tactic| first | (with_reducible refine s_asg ?_))
local macro_rules | `(tactic| walk_at "bn") => `(tactic| repeat (first | with_reducible assumption | with_reducible apply Bn.mul | with_reducible apply Bn.sub | with_reducible apply Bn.neg | with_reducible apply Bn.add | with_reducible apply Bn.addL))
local macro_rules | `(tactic| walk_at "d1") => `(tactic| first
  | (with_reducible refine ixT0 ?_) | (with_reducible refine ixT1 ?_) | (with_reducible refine ixT2 ?_) | (with_reducible refine ixT3 ?_) | (with_reducible refine And.intro rfl ?_) | (with_reducible refine reqS ?_) | (with_reducible refine ite_d1 rfl ?_) | (with_reducible refine ite_d0 rfl ?_)
  | (with_reducible refine ri (Cc := CMulW) ?_ ?_; refine bmul (by walk_at "bn") (by walk_at "bn") (by omega))
  | (with_reducible refine And.intro len2' ?_) | (with_reducible refine And.intro len3' ?_) | (with_reducible refine And.intro len1' ?_) | (with_reducible refine And.intro len0' ?_))
section
variable {P : Program} {w : World} {K : PySem.W.Frag} {mg : Str → Option Value} {base : Heap}
def chr (at_ : Nat) (k : Int) : Lin := ((Lin.unk at_).sub (Lin.con ((40 - k : Int) : Rat))).prim
def chn (at_ : Nat) : Nat → Tg
  | 0 => .leaf (.int 0)
  | i + 1 => .ask (chr at_ ((i + 1 : Nat) : Int)) true (.leaf (.int ((i + 1 : Nat) : Int))) (chn at_ i)
def pre (a : List D) : D → D
  | .tup [.tup q, d] => .tup [.tup (a ++ q), d]
  | x => x
theorem lv_pre : ∀ (t : Tg) (a p : List D), lvD K t (a ++ p) = (lvD K t p).map (pre a)
  | .leaf d, a, p => rfl
  | .ask t s n y, a, p => by
    simp only [lvD, List.map_append]
    rw [List.append_assoc, List.append_assoc, lv_pre n a, lv_pre y a]
theorem chn_dp (a : Nat) : ∀ i, dpT (chn a i) = i
  | 0 => rfl
  | i + 1 => by simp only [chn, dpT, chn_dp a i]; omega
theorem chn_sz (a : Nat) : ∀ i, szT (chn a i) = 1 + 2 * i
  | 0 => rfl
  | i + 1 => by simp only [chn, szT, chn_sz a i]; omega
theorem con_sz {i : Int} (h : i.natAbs ≤ 40) : SzL 7 (Lin.con (i : Rat)) := SzL.con (Lin.sz_int (show i.natAbs < 2 ^ 7 by omega) (by decide)) (by decide)
theorem chr_sz (a : Nat) {k : Int} (h : (40 - k).natAbs ≤ 40) : SzL 100 (chr a k) := (Lin.prim_sz ((szu a).sub (con_sz h))).mono (by decide)
theorem chn_ok (a : Nat) : ∀ i, i ≤ 40 → OkT 100 (chn a i)
  | 0, _ => rfl
  | i + 1, h => ⟨chr_sz a (by omega), rfl, chn_ok a i (by omega)⟩
theorem rsub_pos {v c : Int} : (0 : Rat) < (v : Rat) - (c : Rat) ↔ c < v := by
  rw [← Rat.intCast_sub, Rat.intCast_pos]; omega
theorem chr_hld {a : Nat} (ha : a < 3) (k v : Int) : hld (chr a k) true [(v : Rat), (v : Rat), (v : Rat)] = decide (40 - k < v) := by
  have p : Lin.Pos ((Lin.unk a).sub (Lin.con ((40 - k : Int) : Rat))) (chr a k) := (Lin.pos_self _).prim
  rw [Lin.pos_hld p]
  have e : ((Lin.unk a).sub (Lin.con ((40 - k : Int) : Rat))).at [(v : Rat), (v : Rat), (v : Rat)] = (v : Rat) - ((40 - k : Int) : Rat) := by
    have h3 : a = 0 ∨ a = 1 ∨ a = 2 := by omega
    generalize ((40 - k : Int) : Rat) = c
    generalize (v : Rat) = x
    rcases h3 with rfl | rfl | rfl
    · show (0 + c * -1) + (1 + 0 * -1) * x + (0 + 0 * -1) * x + (0 + 0 * -1) * x = x - c; grind
    · show (0 + c * -1) + (0 + 0 * -1) * x + (1 + 0 * -1) * x + (0 + 0 * -1) * x = x - c; grind
    · show (0 + c * -1) + (0 + 0 * -1) * x + (0 + 0 * -1) * x + (1 + 0 * -1) * x = x - c; grind
  unfold hld
  rw [if_pos rfl, e]
  exact decide_eq_decide.mpr rsub_pos
theorem wk_chn {a : Nat} (ha : a < 3) (v : Int) : ∀ i, wkT [(v : Rat), (v : Rat), (v : Rat)] (chn a i) = .int (max 0 (min (i : Int) (40 - v)))
  | 0 => by
    show D.int 0 = _
    congr 1; omega
  | i + 1 => by
    show (if hld (chr a ((i + 1 : Nat) : Int)) true [(v : Rat), (v : Rat), (v : Rat)] = true then wkT [(v : Rat), (v : Rat), (v : Rat)] (chn a i) else D.int ((i + 1 : Nat) : Int)) = _
    rw [chr_hld ha, wk_chn ha v i]
    by_cases h : 40 - ((i + 1 : Nat) : Int) < v
    · rw [decide_eq_true h, if_pos rfl]; congr 1; omega
    · rw [decide_eq_false h, if_neg (by decide)]; congr 1; omega
/-- the leaves can be compared -/
def LfS (K : PySem.W.Frag) : Tg → Prop
  | .leaf d => Sx K 1 d
  | .ask _ _ n y => LfS K n ∧ LfS K y
theorem sx_pr (t : Lin) (s b : Bool) : Sx K 1 (.tup [rwD K t s, .bl b]) := .tup (fun x hx => by
  simp only [List.mem_cons, List.not_mem_nil, or_false] at hx
  rcases hx with rfl | rfl
  · exact .atm (.rw t s)
  · exact .atm (.bl b)) (by show 2 < 100000; decide)
theorem sx_app {p : List D} {t : Lin} {s b : Bool} (h : ∀ x ∈ p, Sx K 1 x) : ∀ x ∈ p ++ [.tup [rwD K t s, .bl b]], Sx K 1 x := fun x hx => by
  rcases List.mem_append.mp hx with q | q
  · exact h x q
  · rw [List.mem_singleton.mp q]; exact sx_pr t s b
theorem sx_lv : ∀ (t : Tg) (p : List D), (∀ x ∈ p, Sx K 1 x) → p.length + dpT t < 100000 → LfS K t → ∀ x ∈ lvD K t p, Sx K 3 x
  | .leaf d, p, hp, hl, hd, x, hx => by
    rw [show x = .tup [.tup p, d] by simpa [lvD] using hx]
    refine .tup (fun y hy => ?_) (by show 2 < 100000; decide)
    simp only [List.mem_cons, List.not_mem_nil, or_false] at hy
    rcases hy with rfl | rfl
    · exact .tup hp (by simp [dpT] at hl; omega)
    · exact sx_up hd
  | .ask t s n y, p, hp, hl, hd, x, hx => by
    simp only [dpT] at hl
    simp only [lvD] at hx
    rcases List.mem_append.mp hx with q | q
    · exact sx_lv n _ (sx_app hp) (by simp; omega) hd.1 x q
    · exact sx_lv y _ (sx_app hp) (by simp; omega) hd.2 x q
theorem sx_lvs {t : Tg} (h1 : dpT t ≤ 1000) (h2 : szT t ≤ 10000) (h3 : LfS K t) : Sx K 4 (.lst (lvD K t [])) := .lst (sx_lv t [] (by simp) (by simp; omega) h3) (by have := lv_sz (K := K) t []; omega)
theorem chn_lf (a : Nat) : ∀ i, LfS K (chn a i)
  | 0 => .atm (.int 0)
  | i + 1 => ⟨.atm (.int _), chn_lf a i⟩
structure Ch0 (P : Program) (w : World) (K : PySem.W.Frag) (mg : Str → Option Value) (base : Heap) : Prop where
  drw : Fn P w K mg base 1 (He.ga K "_law_draw") ["_law_draws", "_law_many"] S_draw
  unk : Fn P w K mg base 5 (FX.sAd K "Term" "unknown") ["k"] (S_unknown K)
  ngt : NI P w K mg base (mS K "__gt__")
  lt : Fn P w K mg base 9 (mT K "__lt__") ["self", "other"] (S_tcmp K (fun t u => Lin.sub u t) true)
  gt : Fn P w K mg base 9 (mT K "__gt__") ["self", "other"] (S_tcmp K Lin.sub true)
  lvs : Fn P w K mg base 2 (He.ga K "leaves") ["tree"] (S_leaves K)
  dep : Fn P w K mg base 3 (He.ga K "depth") ["tree"] (S_depth K)
  wlk : Fn P w K mg base 8 (He.ga K "walk") ["tree", "point"] (S_walk K)
  sam : Fn P w K mg base 13 (He.ga K "_law_same") ["_law_found", "_law_due"] (S_self K 4)
def S_chain : SpD := fun ds m k => ∃ (p : Addr) (n : Nat), ds = [.ref p, .int 40] ∧ Dr p (n + 2) m ∧ ∀ m', k (.bl true) m'
theorem sc_law_chain_right : FnScope ["_law_draws", "_law_asks", "_law_at", "_law_x", "_law_tree", "_law_due", "_law_k", "_law_spot", "_law_found", "_law_row_here", "_law_worth", "_law_path", "_law_leaf"] ["_law_draws", "_law_asks"] (defScope s_law_chain_right) := ⟨rfl, rfl, rfl, by decide +kernel, rfl, by decide +kernel, by decide +kernel⟩
theorem fn_chain (T : Txt K mg) (O : Ch0 P w K mg base) : Fn P w K mg base 14 (He.ga K "_law_chain_right") ["_law_draws", "_law_asks"] S_chain := by
  obtain ⟨⟨⟨_, G_law_draw, b_law_draw⟩, k_law_draw⟩, ⟨⟨_, G_Term_unknown, b_Term_unknown⟩, _⟩, ngt, ⟨⟨_, G_Term_lt, b_Term_lt⟩, _⟩, ⟨⟨_, G_Term_gt, b_Term_gt⟩, _⟩, ⟨⟨_, G_leaves, b_leaves⟩, k_leaves⟩, ⟨⟨_, G_depth, b_depth⟩, k_depth⟩, ⟨⟨_, G_walk, b_walk⟩, k_walk⟩, ⟨⟨_, G_law_same, b_law_same⟩, k_law_same⟩⟩ := O
  refine fn_of1 (kk := 13) T.F_law_chain_right sc_law_chain_right (fun ds m k h => by obtain ⟨p, n, rfl, _⟩ := h; rfl) (fun _ _ _ _ _ _ us hl => match us, hl with | [_, _], _ => rfl) ?_
  intro cdv A outer s H E hr
  refine ⟨_, (pss_cons (ps_set (i := 2) sc_law_chain_right.nd rfl (.inl rfl) (pe_call G_law_draw (hr.mono (by decide)) rfl T.g_law_draw k_law_draw b_law_draw .nil pass0 (pa_cons (pv 0) (pa_cons pe_int pa_nil))))
      (pss_cons (ps_asg (pe_tup (pa_cons (FX.pe_stat (pe_glob (v := .ref _) rfl T.g_Term rfl) T.st_Term_unknown G_Term_unknown (hr.mono (by decide)) b_Term_unknown .nil pass0 (pa_cons (pv 2) pa_nil)) (pa_cons (pe_tup (pa_cons pe_str (pa_cons pe_int pa_nil))) (pa_cons (pe_lst (pa_cons (pe_tup (pa_cons (pe_tup pa_nil) (pa_cons pe_int pa_nil))) pa_nil)) pa_nil)))) (pg_tup rfl (pgs_cons (pg_name (i := 3) sc_law_chain_right.nd rfl (.inl rfl)) (pgs_cons (pg_name (i := 4) sc_law_chain_right.nd rfl (.inr rfl)) (pgs_cons (pg_name (i := 5) sc_law_chain_right.nd rfl (.inl rfl)) pgs_nil)))))
      (pss_cons (ps_for PassesOwn.never rfl (pi_range2 rfl T.n_range (pa_cons pe_int (pa_cons (pe_op op_add (pv 1) pe_int) pa_nil))) (pg_name (i := 6) sc_law_chain_right.nd rfl (.inl rfl)) (pss_cons (ps_set (i := 9) sc_law_chain_right.nd rfl (.inr rfl) (pe_cmpR (oGtW (n := 9) (n' := 9) T ngt G_Term_gt G_Term_lt (hr.mono (by decide)) (hr.mono (by decide)) (hr.mono (by decide)) b_Term_gt b_Term_lt) (pv 3) (pe_op op_sub (pv 1) (pv 6)) (nomark _)))
      (pss_cons (ps_set (i := 4) sc_law_chain_right.nd rfl (.inr rfl) (pe_tup (pa_cons pe_str (pa_cons (pv 9) (pa_cons (pe_tup (pa_cons pe_str (pa_cons (pv 6) pa_nil))) (pa_cons (pv 4) pa_nil))))))
      (pss_one (ps_set (i := 5) sc_law_chain_right.nd rfl (.inl rfl) (pe_op op_catS (pe_lst (pa_cons (pe_tup (pa_cons (pe_tup (pa_cons (pe_tup (pa_cons (pv 9) (pa_cons pe_bl pa_nil))) pa_nil)) (pa_cons (pv 6) pa_nil))) pa_nil)) (pe_lc (own := [("_law_path", 11), ("_law_leaf", 12)]) rfl sc_law_chain_right.nd (pi_list (pv 5)) (blkOk_by (own := [("_law_path", 11), ("_law_leaf", 12)]) (N := ["_law_draws", "_law_asks", "_law_at", "_law_x", "_law_tree", "_law_due", "_law_k", "_law_spot", "_law_found", "_law_row_here", "_law_worth", "_law_path", "_law_leaf"]) (sc := defScope s_law_chain_right) (by decide +kernel)) (fun _ _ _ _ _ => (pg_tupK2 (K := K) rfl (pg_tup rfl (pgs_cons (pg_name (i := 11) sc_law_chain_right.nd rfl (.inl rfl)) (pgs_cons (pg_name (i := 12) sc_law_chain_right.nd rfl (.inl rfl)) pgs_nil))))) (fun _ _ _ _ _ => pts_nil) (fun _ _ _ _ _ => (pe_tup (pa_cons (pe_op op_catAK (pe_tup (pa_cons (pe_tup (pa_cons (pv 9) (pa_cons pe_bl pa_nil))) pa_nil)) (pv 11)) (pa_cons (pv 12) pa_nil)))))))))))
      (pss_cons (ps_if (PW.pt (pw_or (pt_not (pt_val (pe_call G_law_same (hr.mono (by decide)) rfl T.g_law_same k_law_same b_law_same .nil pass0 (pa_cons (pe_call G_leaves (hr.mono (by decide)) rfl T.g_leaves k_leaves b_leaves .nil pass0 (pa_cons (pv 4) pa_nil)) (pa_cons (pv 5) pa_nil))))) (pw_or1 (pt_not (pt_val (pe_call G_law_same (hr.mono (by decide)) rfl T.g_law_same k_law_same b_law_same .nil pass0 (pa_cons (pe_call G_depth (hr.mono (by decide)) rfl T.g_depth k_depth b_depth .nil pass0 (pa_cons (pv 4) pa_nil)) (pa_cons (pv 1) pa_nil)))))))) (pss_one (ps_ret pe_bl)) pss_nil)
      (pss_cons (ps_set (i := 7) sc_law_chain_right.nd rfl (.inl rfl) (pe_call G_law_draw (hr.mono (by decide)) rfl T.g_law_draw k_law_draw b_law_draw .nil pass0 (pa_cons (pv 0) (pa_cons (pv 1) pa_nil))))
      (pss_cons (ps_setLc (i := 8) (own := [("_law_worth", 10)]) rfl sc_law_chain_right.nd rfl rfl (sw_true rfl rfl rfl (by decide +kernel)) (pi_tup (pe_tup (pa_cons (pe_op op_sub pe_int pe_int) (pa_cons (pv 7) (pa_cons (pe_op op_add (pv 1) pe_int) pa_nil))))) (blkOk_by (own := [("_law_worth", 10)]) (N := ["_law_draws", "_law_asks", "_law_at", "_law_x", "_law_tree", "_law_due", "_law_k", "_law_spot", "_law_found", "_law_row_here", "_law_worth", "_law_path", "_law_leaf"]) (sc := defScope s_law_chain_right) (by decide +kernel)) (fun _ _ _ _ _ => (pg_name (i := 10) sc_law_chain_right.nd rfl (.inl rfl))) (fun _ _ _ _ _ => pts_nil) (fun _ _ _ _ _ => (pe_call G_walk (hr.mono (by decide)) rfl T.g_walk k_walk b_walk .nil pass0 (pa_cons (pv 4) (pa_cons (pe_tup (pa_cons (pv 10) (pa_cons (pv 10) (pa_cons (pv 10) pa_nil)))) pa_nil)))))
      (pss_one (ps_ret (pe_call G_law_same (hr.mono (by decide)) rfl T.g_law_same k_law_same b_law_same .nil pass0 (pa_cons (pv 8) (pa_cons (pe_lst (pa_cons (pv 1) (pa_cons (pe_op op_sub (pv 1) (pv 7)) (pa_cons pe_int pa_nil)))) pa_nil))))))))))), ?_⟩
  intro ds m k hS
  obtain ⟨p, n, rfl, hd, hk⟩ := hS
  walk_at "s"
  walk_at "d"
  refine ⟨p, 3, n + 1, rfl, by decide, by decide, hd, fun a0 m1 a1 a2 o1 d1 => ?_⟩
  obtain ⟨a, rfl, ha⟩ : ∃ a : Nat, a0 = (a : Int) ∧ a < 3 := ⟨a0.toNat, by omega, by omega⟩
  walk_at "d"
  refine ⟨a, rfl, ha, ?_⟩
  walk_at "d"
  refine i_rng2 (a_cons (e_int (a_cons (e_op (e_var rfl (e_int (ri0 (a_nil ⟨1, 41, rfl, by decide, ?_⟩))))))))
  refine unr_idx (i := 0) (fun i r' m' => m' = m1 ∧ ∃ x6 x9 x11 x12 : Option D, r' = [some (.ref p), some (.int 40), some (.int (a : Int)), some (tmD K (Lin.unk a)), some (tgD K (chn a i)), some (.lst (lvD K (chn a i) [])), x6, none, none, x9, none, x11, x12]) ⟨rfl, none, none, none, none, rfl⟩ ?_ ?_
  · rintro j x r' m' hj ⟨rfl, x6, x9, x11, x12, rfl⟩
    obtain ⟨hj40, hx2⟩ := rangeD_get hj
    have hj4 : j < 40 := hj40
    subst hx2
    rw [Nat.zero_add]
    have e1 : (1 : Int) + (j : Int) = ((j + 1 : Nat) : Int) := by omega
    rw [e1]
    have hll := lv_sz (K := K) (chn a j) []
    rw [chn_sz] at hll
    refine g_name ?_
    dsimp only [List.set]
    walk_at "d"
    refine r_or1 (r_CAw T (.num (.int _)) ⟨_, _, _, rfl, .num (.int _), ⟨1, 7, szu a, con_sz (by omega), by decide⟩, ?_⟩)
    walk_at "d"
    refine ⟨by show 4 ≤ 100000; decide, ?_⟩
    walk_at "d"
    refine ⟨by omega, unrc_map (pre [.tup [rwD K (chr a ((j + 1 : Nat) : Int)) true, .bl true]]) (fun x hx => ?_) ?_⟩
    · obtain ⟨q, v, rfl, hq⟩ := lv_all (chn a j) [] x hx
      rw [chn_dp] at hq
      walk_at "d"
      refine r_catA (by simp at hq ⊢; omega) ?_
      walk_at "d"
    · refine r_catS (by simp; omega) ?_
      refine g_name ?_
      refine ⟨rfl, some (.int ((j + 1 : Nat) : Int)), some (rwD K (chr a ((j + 1 : Nat) : Int)) true), x11, x12, ?_⟩
      dsimp only [List.set]
      have e3 : lvD K (chn a (j + 1)) [] = [.tup [.tup [.tup [rwD K (chr a ((j + 1 : Nat) : Int)) true, .bl false]], .int ((j + 1 : Nat) : Int)]] ++ (lvD K (chn a j) []).map (pre [.tup [rwD K (chr a ((j + 1 : Nat) : Int)) true, .bl true]]) := by
        rw [← lv_pre]; rfl
      rw [e3]
      rfl
  · rintro r' m' ⟨rfl, x6, x9, x11, x12, rfl⟩
    have e40 : 0 + (rangeD 1 (Int.toNat (41 - 1))).length = 40 := rfl
    rw [e40]
    have ho := chn_ok a 40 (by decide)
    have hdp := chn_dp a 40
    have hsz := chn_sz a 40
    have hlf := chn_lf (K := K) a 40
    have hwk := fun v => wk_chn ha v 40
    generalize chn a 40 = t at *
    have hsx := sx_lvs (K := K) (by omega) (by omega) hlf
    dsimp only
    refine s_seq (s_if ?_)
    refine t_or (t_not (t_B (e_call0 (a_cons (e_frz ?_)))))
    walk_at "d"
    refine ⟨t, 100, rfl, ho, by omega, by omega, fun b hb => ⟨b, _, m', rfl, updM_same, by rw [del_upd hb]; exact Sub.refl, ?_⟩⟩
    walk_at "d"
    refine ⟨_, rfl, hsx, ?_⟩
    walk_at "d"
    refine ⟨t, 100, rfl, ho, by omega, by omega, ?_⟩
    rw [hdp]
    walk_at "d"
    refine ⟨_, rfl, .atm (.int 40), ?_⟩
    walk_at "d"
    refine ⟨p, 40, n, rfl, by decide, by decide, d1, fun sp m2 s0 s1 o2 d2 => ?_⟩
    walk_at "d"
    have hwalk : ∀ {m : Mu} {v : Int} {k : D → Mu → Prop}, v.natAbs ≤ 100 → k (.int (max 0 (min 40 (40 - v)))) m → S_walk K [tgD K t, .tup [.int v, .int v, .int v]] m k := by
      intro m v k hv hk
      have hz : Sz 7 (v : Rat) := Lin.sz_int (show v.natAbs < 2 ^ 7 by omega) (by decide)
      refine ⟨t, _, _, 100, rfl, ⟨_, .inr rfl, .cons (.int v) (.cons (.int v) (.cons (.int v) .nil))⟩, ho, ⟨7, by decide, fun q hq => ?_, by decide⟩, ?_⟩
      · simp only [List.mem_cons, List.not_mem_nil, or_false] at hq
        rcases hq with rfl | rfl | rfl <;> exact hz
      · rw [hwk v]; exact hk
    refine hwalk (by decide) ?_
    walk_at "d"
    refine hwalk (by omega) ?_
    walk_at "d"
    refine hwalk (by decide) ?_
    walk_at "d"
    have f1 : (max 0 (min 40 (40 - (0 - 5))) : Int) = 40 := by decide
    have f2 : max 0 (min 40 (40 - sp)) = 40 - sp := by omega
    have f3 : (max 0 (min 40 (40 - 47)) : Int) = 0 := by decide
    rw [f1, f2, f3]
    dsimp only [List.nil_append, List.cons_append]
    refine ⟨_, rfl, ?_, hk _⟩
    refine .lst (fun x hx => ?_) (by show 3 < 100000; decide)
    simp only [List.mem_cons, List.not_mem_nil, or_false] at hx
    rcases hx with rfl | rfl | rfl <;> exact .atm (.int _)
end
end LW
end

section
set_option Elab.async false
set_option linter.all false
set_option maxRecDepth 100000
set_option maxHeartbeats 4000000
set_option exponentiation.threshold 10000
namespace LW
open PySem PySem.Spec PyProof.Rows L2 DL MA
local macro_rules | `(tactic| walk_at "d1") => `(tactic| first
  | (with_reducible refine s_seq ?_) | (with_reducible refine s_set ?_) | (with_reducible refine s_ret ?_) | (with_reducible refine s_if ?_) | (with_reducible refine s_fld ?_) | (with_reducible refine s_next ?_) | (with_reducible refine s_par ?_)
  | (with_reducible refine e_var rfl ?_) | (with_reducible refine e_int ?_) | (with_reducible refine e_bl ?_) | (with_reducible refine e_non ?_) | (with_reducible refine e_str ?_) | (with_reducible refine e_ty ?_) | (with_reducible refine e_ref ?_)
  | (with_reducible refine e_op ?_) | (with_reducible refine e_un ?_) | (with_reducible refine e_cb ?_) | (with_reducible refine e_if ?_) | (with_reducible refine e_andV ?_) | (with_reducible refine e_orV ?_) | (with_reducible refine e_notV ?_) | (with_reducible refine e_fld ?_)
  | (with_reducible refine e_call0 ?_) | (with_reducible refine e_meth0 ?_) | (with_reducible refine e_make (dds := []) nilD ?_) | (with_reducible refine e_stat0 ?_)
  | (with_reducible refine a_nil ?_) | (with_reducible refine a_cons ?_) | (with_reducible refine e_tup ?_)
  | (with_reducible refine t_test ?_) | (with_reducible refine t_B ?_) | (with_reducible refine t_and ?_) | (with_reducible refine t_or ?_) | (with_reducible refine t_not ?_)
  | (with_reducible refine ri0 ?_) | (with_reducible refine rb0 ?_) | (with_reducible refine req ?_) | (with_reducible refine rne ?_) | (with_reducible refine reqb ?_) | (with_reducible refine ui ?_)
  | (with_reducible refine c_abs ?_) | (with_reducible refine c_int1 ?_) | (with_reducible refine c_bool1 ?_)
  | (with_reducible refine Exists.intro _ (And.intro rfl ?_)))
local macro_rules | `(tactic| walk_at "d") => `(tactic| repeat (walk_at "d1"; try dsimp only [List.set, wipeD, List.map]))
local macro_rules | `(tactic| walk_at "s") => `(tactic| dsimp only [cxOf, Cx.nox, Cx.wish, startD, List.map, List.length, Nat.reduceAdd, Nat.reduceSub, List.reduceReplicate, HAppend.hAppend, Append.append, List.append])
local macro_rules | `(tactic| walk_at "d1") => `(tactic| with_reducible refine e_lst ?_)
local macro_rules | `(tactic| walk_at "d1") => `(tactic| first
  | (with_reducible refine fld_top (by assumption) ?_) | (with_reducible refine fld_bottom (by assumption) ?_)
  | (with_reducible refine isnum_num (by assumption) (by assumption) ?_) | (with_reducible refine assh_num (by assumption) ?_) | (with_reducible refine isnum_num (by assumption) (Num.sh _) ?_) | (with_reducible refine assh_num (Num.sh _) ?_) | (with_reducible refine isnum_num (by assumption) (Num.int _) ?_) | (with_reducible refine assh_num (Num.int _) ?_)
  | (with_reducible refine e_Share1 ?_) | (with_reducible refine e_Share2 ?_))
local macro_rules | `(tactic| walk_at "d1") => `(tactic| first | (with_reducible refine r_SN (by assumption) ?_) | (with_reducible refine r_SN (Num.sh _) ?_) | (with_reducible refine r_SN (Num.int _) ?_) | (with_reducible refine u_S ?_))
local macro_rules | `(tactic| walk_at "d1") => `(tactic| first
  | (with_reducible refine fld_number (by assumption) ?_) | (with_reducible refine fld_times (by assumption) ?_) | (with_reducible refine e_Term ?_)
  | (with_reducible refine e_lcU (gin_name (by decide)) ?_) | (with_reducible refine i_rng1 ?_) | (with_reducible refine i_tup ?_) | (with_reducible refine i_list ?_) | (with_reducible refine t_yes ?_) | (with_reducible refine g_name ?_)
  | (with_reducible refine unrc_r3 ?_) | (with_reducible refine unrc_r4 ?_) | (with_reducible refine unr_r3 ?_) | (with_reducible refine unr_r4 ?_) | (with_reducible refine unr_r2 ?_) | (with_reducible refine unrc_cons ?_) | (with_reducible refine unrc_nil ?_) | (with_reducible refine unr_cons ?_) | (with_reducible refine unr_nil ?_) | (with_reducible refine s_forU ?_)
  | (with_reducible refine iteT ?_) | (with_reducible refine iteF ?_) | (with_reducible refine e_chain ?_) | (with_reducible refine And.intro len3 ?_) | (with_reducible refine And.intro len4 ?_) | (with_reducible refine And.intro (by decide) ?_) | (with_reducible refine ite_d1 (by decide) ?_) | (with_reducible refine ite_d0 (by decide) ?_))
local macro_rules | `(tactic| walk_at "d1") => `(tactic| first
  | (with_reducible refine isworth (by assumption) (by assumption) ?_) | (with_reducible refine asterm (by assumption) ?_) | (with_reducible refine isworth (by assumption) (Wth.tm _) ?_) | (with_reducible refine asterm (Wth.tm _) ?_)
  | (with_reducible refine i_zipT ?_) | (with_reducible refine unrc_z3 ?_) | (with_reducible refine e_lcU (gin_tup (gsin_one (by decide) (gsin_one (by decide) gsin_nil))) ?_) | (with_reducible refine g_tup rfl ?_) | (with_reducible refine gs_cons ?_) | (with_reducible refine gs_nil ?_)
  | (with_reducible refine And.intro lenz3 ?_) | (with_reducible refine Exists.intro _ (Exists.intro _ (And.intro rfl ?_)))
  | (with_reducible refine EN.i_enumT ?_) | (with_reducible refine unr_e3 ?_) | (with_reducible refine e_methT (fun _ => rfl) ?_) | (with_reducible refine a_star ?_)
  | (with_reducible refine r_TW (by assumption) ?_) | (with_reducible refine r_TW (Wth.tm _) ?_))
local macro_rules | `(tactic| walk_at "d1") => `(tactic| first | (with_reducible refine Exists.intro _ (Exists.intro _ (And.intro rfl ?_))) | (with_reducible refine And.intro len2' ?_))
local macro_rules | `(tactic| walk_at "d") => `(tactic| repeat (walk_at "d1"; try dsimp only [List.set, wipeD, List.map, Int.reduceAdd]))
local macro_rules | `(tactic| walk_at "d1") => `(tactic| first
  | (with_reducible refine And.intro rfl ?_) | (with_reducible refine ixT0 ?_) | (with_reducible refine ixT1 ?_) | (with_reducible refine ixL0 ?_) | (with_reducible refine ixL1 ?_) | (with_reducible refine ixL2 ?_) | (with_reducible refine ixL3 ?_))
local macro_rules | `(tactic| walk_at "d1") => `(tactic| first | (with_reducible refine isi_SS (by assumption) ?_) | (with_reducible refine isi_TT (by assumption) ?_) | (with_reducible refine isi_RR (by assumption) ?_))
local macro_rules | `(tactic| walk_at "d1") => `(tactic| first | (with_reducible refine s_asg ?_))
local macro_rules | `(tactic| walk_at "bn") => `(tactic| repeat (first | with_reducible assumption | with_reducible apply Bn.mul | with_reducible apply Bn.sub | with_reducible apply Bn.neg | with_reducible apply Bn.add | with_reducible apply Bn.addL))
local macro_rules | `(tactic| walk_at "d1") => `(tactic| first
  | (with_reducible refine ixT0 ?_) | (with_reducible refine ixT1 ?_) | (with_reducible refine ixT2 ?_) | (with_reducible refine ixT3 ?_) | (with_reducible refine And.intro rfl ?_) | (with_reducible refine reqS ?_) | (with_reducible refine ite_d1 rfl ?_) | (with_reducible refine ite_d0 rfl ?_)
  | (with_reducible refine ri (Cc := CMulW) ?_ ?_; refine bmul (by walk_at "bn") (by walk_at "bn") (by omega))
  | (with_reducible refine And.intro len2' ?_) | (with_reducible refine And.intro len3' ?_) | (with_reducible refine And.intro len1' ?_) | (with_reducible refine And.intro len0' ?_))
section
variable {P : Program} {w : World} {K : PySem.W.Frag} {mg : Str → Option Value} {base : Heap}
theorem sd_sz {mn c t0 t1 t2 : Int} (h : c.natAbs ≤ 3 ∧ Tms mn t0 t1 t2) : SzL 20 (sdL c t0 t1 t2) := by
  obtain ⟨hc, h0, h1, h2, _⟩ := h
  have hz : SzL 3 (Lin.mk (c : Rat) (t0 : Rat) (t1 : Rat) (t2 : Rat)) := ⟨Lin.sz_int (show c.natAbs < 2 ^ 3 by omega) (by decide), Lin.sz_int (show t0.natAbs < 2 ^ 3 by omega) (by decide), Lin.sz_int (show t1.natAbs < 2 ^ 3 by omega) (by decide), Lin.sz_int (show t2.natAbs < 2 ^ 3 by omega) (by decide)⟩
  exact (Lin.prim_sz hz).mono (by decide)
theorem menu_nor : ∀ d ∈ menu, nor d = true := by
  intro d hd
  simp only [menu, List.mem_cons, List.not_mem_nil, or_false] at hd
  rcases hd with rfl | rfl | rfl | rfl | rfl | rfl | rfl <;> rfl
theorem menu_sx : ∀ d ∈ menu, Sx K 1 d := by
  intro d hd
  simp only [menu, List.mem_cons, List.not_mem_nil, or_false] at hd
  rcases hd with rfl | rfl | rfl | rfl | rfl | rfl | rfl
  · exact .atm (.int 0)
  · exact .atm (.int 1)
  · exact .atm (.st "a")
  · exact .tup (fun x hx => by
      simp only [List.mem_cons, List.not_mem_nil, or_false] at hx
      rcases hx with rfl | rfl <;> exact .atm (.int _)) (by show 2 < 100000; decide)
  · exact .atm .no
  · exact .atm (.bl true)
  · exact .atm (.int _)
theorem ok_tg {mn : Int} : ∀ {c : Cd}, OkC mn c → OkT 20 c.tg
  | .leaf d, h => menu_nor d h
  | .ask .., ⟨h1, h2, h3⟩ => ⟨sd_sz h1, ok_tg h2, ok_tg h3⟩
theorem ok_lf {mn : Int} : ∀ {c : Cd}, OkC mn c → LfS K c.tg
  | .leaf d, h => menu_sx d h
  | .ask .., ⟨h1, h2, h3⟩ => ⟨ok_lf h2, ok_lf h3⟩
theorem ok_wk {mn : Int} {qs : List Rat} : ∀ {c : Cd}, OkC mn c → wkT qs c.tg ∈ menu
  | .leaf d, h => h
  | .ask c t0 t1 t2 st wy n y, ⟨h1, h2, h3⟩ => by
    show (if hld (sdL c t0 t1 t2) st qs = true then wkT qs y.tg else wkT qs n.tg) ∈ menu
    split
    · exact ok_wk h3
    · exact ok_wk h2
theorem sz_tg : ∀ c : Cd, szT c.tg + 1 ≤ 2 ^ (dpC c + 1)
  | .leaf _ => by simp [Cd.tg, szT, dpC]
  | .ask c t0 t1 t2 st wy n y => by
    have h1 := sz_tg n
    have h2 := sz_tg y
    have e1 : 2 ^ (dpC n + 1) ≤ 2 ^ (max (dpC n) (dpC y) + 1) := Nat.pow_le_pow_right (by decide) (by omega)
    have e2 : 2 ^ (dpC y + 1) ≤ 2 ^ (max (dpC n) (dpC y) + 1) := Nat.pow_le_pow_right (by decide) (by omega)
    have e3 : dpC (.ask c t0 t1 t2 st wy n y) + 1 = max (dpC n) (dpC y) + 1 + 1 := by simp only [dpC]; omega
    rw [e3, Nat.pow_succ]
    simp only [Cd.tg, szT]
    omega
theorem at_take {mn : Nat} {c t0 t1 t2 : Int} {x y z : Rat} (hmn : mn = 1 ∨ mn = 2 ∨ mn = 3) (h : Tms (mn : Int) t0 t1 t2) : (Lin.mk (c : Rat) (t0 : Rat) (t1 : Rat) (t2 : Rat)).at ([x, y, z].take mn) = (Lin.mk (c : Rat) (t0 : Rat) (t1 : Rat) (t2 : Rat)).at [x, y, z] := by
  obtain ⟨_, _, _, h1, h2⟩ := h
  rcases hmn with rfl | rfl | rfl
  · rw [h1 rfl, h2 (by decide)]
    show (c : Rat) + t0 * x + ((0 : Int) : Rat) * 0 + ((0 : Int) : Rat) * 0 = c + t0 * x + ((0 : Int) : Rat) * y + ((0 : Int) : Rat) * z
    have e : ((0 : Int) : Rat) = 0 := rfl
    rw [e]; grind
  · rw [h2 (by decide)]
    show (c : Rat) + t0 * x + t1 * y + ((0 : Int) : Rat) * 0 = c + t0 * x + t1 * y + ((0 : Int) : Rat) * z
    have e : ((0 : Int) : Rat) = 0 := rfl
    rw [e]; grind
  · rfl
theorem hld_take {mn : Nat} {c t0 t1 t2 : Int} {st : Bool} {x y z : Rat} (hmn : mn = 1 ∨ mn = 2 ∨ mn = 3) (h : Tms (mn : Int) t0 t1 t2) : hld (sdL c t0 t1 t2) st ([x, y, z].take mn) = hld (sdL c t0 t1 t2) st [x, y, z] := by
  have p : Lin.Pos (Lin.mk (c : Rat) (t0 : Rat) (t1 : Rat) (t2 : Rat)) (sdL c t0 t1 t2) := (Lin.pos_self _).prim
  rw [Lin.pos_hld p, Lin.pos_hld p]
  unfold hld
  rw [at_take hmn h]
theorem wk_take {mn : Nat} {x y z : Rat} (hmn : mn = 1 ∨ mn = 2 ∨ mn = 3) : ∀ {c : Cd}, OkC (mn : Int) c → wkT ([x, y, z].take mn) c.tg = wkT [x, y, z] c.tg
  | .leaf d, h => rfl
  | .ask c t0 t1 t2 st wy n yy, ⟨h1, h2, h3⟩ => by
    show (if hld (sdL c t0 t1 t2) st ([x, y, z].take mn) = true then wkT ([x, y, z].take mn) yy.tg else wkT ([x, y, z].take mn) n.tg) = if hld (sdL c t0 t1 t2) st [x, y, z] = true then wkT [x, y, z] yy.tg else wkT [x, y, z] n.tg
    rw [hld_take hmn h1.2, wk_take hmn h2, wk_take hmn h3]
def cut2 : D → D
  | .tup xs => .tup (xs.take 2)
  | d => d
theorem rowsC_in {mn : Int} : ∀ {c : Cd}, OkC mn c → ∀ x ∈ rowsC c, ∃ c0 t0 t1 t2 st wy, x = rowD c0 t0 t1 t2 st wy ∧ Rw3 c0 t0 t1 t2
  | .leaf d, h, x, hx => by simp [rowsC] at hx
  | .ask c t0 t1 t2 st wy n y, ⟨h1, h2, h3⟩, x, hx => by
    simp only [rowsC] at hx
    rcases List.mem_append.mp hx with q | q
    · rcases List.mem_append.mp q with q | q
      · exact ⟨c, t0, t1, t2, st, wy, List.mem_singleton.mp q, ok_rw h1⟩
      · exact rowsC_in h2 x q
    · exact rowsC_in h3 x q
theorem cut_rw {mn : Int} {c : Cd} (h : OkC mn c) : ∀ x ∈ (rowsC c).map cut2, Rw 2 x := fun x hx => by
  obtain ⟨y, hy, rfl⟩ := List.mem_map.mp hx
  obtain ⟨c0, t0, t1, t2, st, wy, rfl, q⟩ := rowsC_in h y hy
  exact ⟨c0, t0, t1, t2, rfl, q.c, q.t0, q.t1, q.t2⟩
def nlA (K : PySem.W.Frag) : EqR := fun x y r => ∃ xs ys, x = .lst xs ∧ y = .lst ys ∧ EqLs (atR K) xs ys r
theorem eq_nums {xs : List D} {qs : List Rat} (h : Nums K xs qs) : EqLs (atR K) xs xs true := by
  induction h with
  | nil => exact .nil
  | @cons d q ds qs h t ih =>
    have e : atR K d d true := by
      cases h with
      | int i => exact ⟨.int i, .int i, rfl, rfl, (eqA_self _).symm⟩
      | sh q => exact ⟨.sh q, .sh q, rfl, rfl, (eqA_self _).symm⟩
    exact EqLs.cons (R := atR K) e ih
structure Lw (P : Program) (w : World) (K : PySem.W.Frag) (mg : Str → Option Value) (base : Heap) : Prop where
  src : Fn P w K mg base 1 (He.ga K "_law_source") ["_law_script", "_law_at"] (S_source K)
  drw : Fn P w K mg base 1 (He.ga K "_law_draw") ["_law_draws", "_law_many"] S_draw
  pck : Fn P w K mg base 2 (He.ga K "_law_pick") ["_law_draws", "_law_xs"] S_pick
  grn : Fn P w K mg base 8 (He.ga K "_law_grown") ["_law_draws", "_law_many", "_law_deep"] (S_grown 4)
  trm : Fn P w K mg base 6 (He.ga K "_law_terms") ["_law_many"] (S_terms K)
  oft : Fn P w K mg base 15 (He.ga K "_law_of_terms") ["_law_code", "_law_x"] (S_of K 4)
  lst : Fn P w K mg base 15 (He.ga K "_law_listed") ["_law_code", "_law_x", "_law_path"] (S_listed K 4)
  lvs : Fn P w K mg base 2 (He.ga K "leaves") ["tree"] (S_leaves K)
  sam : Fn P w K mg base 13 (He.ga K "_law_same") ["_law_found", "_law_due"] (S_self K 4)
  dep : Fn P w K mg base 3 (He.ga K "depth") ["tree"] (S_depth K)
  rws : Fn P w K mg base 5 (He.ga K "_law_rows_of") ["_law_code"] (S_rows_of 4)
  fcs : Fn P w K mg base 4 (He.ga K "_law_faces") ["_law_rows", "_law_many"] S_faces
  psd : Fn P w K mg base 4 (He.ga K "_law_passed") ["_law_draws", "_law_point", "_law_many"] (S_passed K)
  wlk : Fn P w K mg base 8 (He.ga K "walk") ["tree", "point"] (S_walk K)
  led : Fn P w K mg base 3 (He.ga K "_law_led") ["_law_code", "_law_point"] S_led
  chn : Fn P w K mg base 14 (He.ga K "_law_chain_right") ["_law_draws", "_law_asks"] S_chain
  eqs : Eqs P w K mg base
def S_law : SpD := fun ds m k => ∃ is : List Int, ds = [.lst (is.map D.int)] ∧ ∀ m', k (.bl true) m'
theorem c_min2 {m : Mu} {k : D → Mu → Prop} {i j : Int} (q : k (.int (if j < i then j else i)) m) : wC K (fun xs H Q => ∃ i j, xs = [.int i, .int j] ∧ Q (.int (if j < i then j else i)) H) [.int i, .int j] m k := fun vs F H Q w iv p => by
  obtain ⟨v, r, rfl, iv, v2, r2, rfl, iv2, rfl⟩ := iv
  obtain rfl : v = .int i := iv
  obtain rfl : v2 = .int j := iv2
  exact ⟨i, j, rfl, p.now w q rfl⟩
theorem c_max2 {m : Mu} {k : D → Mu → Prop} {i j : Int} (q : k (.int (if j > i then j else i)) m) : wC K (fun xs H Q => ∃ i j, xs = [.int i, .int j] ∧ Q (.int (if j > i then j else i)) H) [.int i, .int j] m k := fun vs F H Q w iv p => by
  obtain ⟨v, r, rfl, iv, v2, r2, rfl, iv2, rfl⟩ := iv
  obtain rfl : v = .int i := iv
  obtain rfl : v2 = .int j := iv2
  exact ⟨i, j, rfl, p.now w q rfl⟩
theorem ite_int {c : Prop} [Decidable c] {r : En} {m : Mu} {k : D → Mu → Prop} {i j : Int} (h : ∀ z : Int, (c ∧ z = i ∨ ¬ c ∧ z = j) → k (.int z) m) : if decide c = true then wE K (tC (.int i)) r m k else wE K (tC (.int j)) r m k := by
  by_cases hc : c
  · rw [if_pos (by simpa using hc)]; exact e_int (h i (.inl ⟨hc, rfl⟩))
  · rw [if_neg (by simpa using hc)]; exact e_int (h j (.inr ⟨hc, rfl⟩))
theorem far_dp {t : Tg} {far : Int} (h0 : 0 ≤ far) (h1 : ∀ x ∈ lvD K t [], lenP x ≤ far) (h2 : far = 0 ∨ ∃ x ∈ lvD K t [], lenP x = far) : far = (dpT t : Int) := by
  obtain ⟨q2, d2, hm, hq2⟩ := lv_some (K := K) t []
  have h3 := h1 _ hm
  simp only [lenP, List.length_nil, Nat.zero_add] at h3 hq2
  rcases h2 with h | ⟨x, hx, h⟩
  · omega
  · obtain ⟨q, d, rfl, hq⟩ := lv_all t [] x hx
    simp only [lenP, List.length_nil, Nat.zero_add] at h hq
    omega
theorem sc_law : FnScope ["_law_script", "_law_k", "_law_draws", "_law_many", "_law_code", "_law_x", "_law_told", "_law_due", "_law_turn", "_law_far", "_law_path", "_law_some", "_law_points", "_law_found", "_law_point", "_law_passed_here", "_law_copied", "_law_row_here"] ["_law_script"] (defScope s_law) := ⟨rfl, rfl, rfl, by decide +kernel, rfl, by decide +kernel, by decide +kernel⟩
theorem ok_law (T : Txt K mg) (O : Lw P w K mg base) {fd : FuncData} (F : FunD K "law" "law" (defArgs s_law) (defBody s_law) (defScope s_law) [] [] (He.ga K "law") fd) : FnOk P w K mg base CX0 16 (He.ga K "law") fd ["_law_script"] (spOf K S_law) := by
  obtain ⟨⟨⟨_, G_law_source, b_law_source⟩, k_law_source⟩, ⟨⟨_, G_law_draw, b_law_draw⟩, k_law_draw⟩, ⟨⟨_, G_law_pick, b_law_pick⟩, k_law_pick⟩, ⟨⟨_, G_law_grown, b_law_grown⟩, k_law_grown⟩, ⟨⟨_, G_law_terms, b_law_terms⟩, k_law_terms⟩, ⟨⟨_, G_law_of_terms, b_law_of_terms⟩, k_law_of_terms⟩, ⟨⟨_, G_law_listed, b_law_listed⟩, k_law_listed⟩, ⟨⟨_, G_leaves, b_leaves⟩, k_leaves⟩, ⟨⟨_, G_law_same, b_law_same⟩, k_law_same⟩, ⟨⟨_, G_depth, b_depth⟩, k_depth⟩, ⟨⟨_, G_law_rows_of, b_law_rows_of⟩, k_law_rows_of⟩, ⟨⟨_, G_law_faces, b_law_faces⟩, k_law_faces⟩, ⟨⟨_, G_law_passed, b_law_passed⟩, k_law_passed⟩, ⟨⟨_, G_walk, b_walk⟩, k_walk⟩, ⟨⟨_, G_law_led, b_law_led⟩, k_law_led⟩, ⟨⟨_, G_law_chain_right, b_law_chain_right⟩, k_law_chain_right⟩, ⟨⟨⟨_, G_s, b_s⟩, _⟩, ⟨⟨_, G_t, b_t⟩, _⟩, ⟨⟨_, G_r, b_r⟩, _⟩⟩⟩ := O
  refine ok_of (kk := 15) F sc_law (fun ds m k h => by obtain ⟨is, rfl, _⟩ := h; rfl) ?_
  intro cdv A outer s H E hr
  refine ⟨_, (pss_cons (ps_for PassesOwn.never rfl (pi_range1 rfl T.n_range (pa_cons (pe_op op_add pe_int (pe_callB (call_min2 rfl) rfl T.n_min (by decide +kernel) (pa_cons (pe_callB call_len_seq rfl T.n_len PySem.boot_len (pa_cons (pv 0) pa_nil)) (pa_cons pe_int pa_nil)))) pa_nil)) (pg_name (i := 1) sc_law.nd rfl (.inl rfl)) (pss_cons (ps_set (i := 2) sc_law.nd rfl (.inl rfl) (pe_call G_law_source (hr.mono (by decide)) rfl T.g_law_source k_law_source b_law_source .nil pass0 (pa_cons (pv 0) (pa_cons (pv 1) pa_nil))))
      (pss_cons (ps_set (i := 3) sc_law.nd rfl (.inl rfl) (pe_op op_add pe_int (pe_call G_law_draw (hr.mono (by decide)) rfl T.g_law_draw k_law_draw b_law_draw .nil pass0 (pa_cons (pv 2) (pa_cons pe_int pa_nil)))))
      (pss_cons (ps_par (i := 4) (j := 5) rfl sc_law.nd rfl rfl (by decide) rfl rfl (pa_cons (pe_call G_law_grown (hr.mono (by decide)) rfl T.g_law_grown k_law_grown b_law_grown .nil pass0 (pa_cons (pv 2) (pa_cons (pv 3) (pa_cons (pe_ifExp (pt_cmpR op_lt (pv 3) pe_int (nomark _)) pe_int pe_int) pa_nil)))) (pa_cons (pe_call G_law_terms (hr.mono (by decide)) rfl T.g_law_terms k_law_terms b_law_terms .nil pass0 (pa_cons (pv 3) pa_nil)) pa_nil)) (by rfl))
      (pss_cons (ps_set (i := 6) sc_law.nd rfl (.inl rfl) (pe_call G_law_of_terms (hr.mono (by decide)) rfl T.g_law_of_terms k_law_of_terms b_law_of_terms .nil pass0 (pa_cons (pv 4) (pa_cons (pv 5) pa_nil))))
      (pss_cons (ps_set (i := 7) sc_law.nd rfl (.inl rfl) (pe_call G_law_listed (hr.mono (by decide)) rfl T.g_law_listed k_law_listed b_law_listed .nil pass0 (pa_cons (pv 4) (pa_cons (pv 5) (pa_cons (pe_tup pa_nil) pa_nil)))))
      (pss_cons (ps_for PassesOwn.never rfl (pi_range1 rfl T.n_range (pa_cons pe_int pa_nil)) (pg_name (i := 8) sc_law.nd rfl (.inl rfl)) (pss_cons (ps_set (i := 13) sc_law.nd rfl (.inl rfl) (pe_call G_leaves (hr.mono (by decide)) rfl T.g_leaves k_leaves b_leaves .nil pass0 (pa_cons (pv 6) pa_nil)))
      (pss_cons (ps_if (pt_not (pt_val (pe_call G_law_same (hr.mono (by decide)) rfl T.g_law_same k_law_same b_law_same .nil pass0 (pa_cons (pv 13) (pa_cons (pv 7) pa_nil))))) (pss_one (ps_ret pe_bl)) pss_nil)
      (pss_one (ps_expr (pe_bm0 PySem.F.plainAttrs_list PySem.F.slot_list_clear PySem.F.type_list_clear mt_clrN (pv 13)))))))
      (pss_cons (ps_set (i := 9) sc_law.nd rfl (.inl rfl) pe_int)
      (pss_cons (ps_for PassesOwn.never rfl (pi_list (pv 7)) (pg_tup rfl (pgs_cons (pg_name (i := 10) sc_law.nd rfl (.inl rfl)) (pgs_cons (pg_name (i := 11) sc_law.nd rfl (.inl rfl)) pgs_nil))) (pss_one (ps_set (i := 9) sc_law.nd rfl (.inl rfl) (pe_callB (call_max2 rfl) rfl T.n_max (by decide +kernel) (pa_cons (pv 9) (pa_cons (pe_callB call_len_seq rfl T.n_len PySem.boot_len (pa_cons (pv 10) pa_nil)) pa_nil))))))
      (pss_cons (ps_if (pt_not (pt_val (pe_call G_law_same (hr.mono (by decide)) rfl T.g_law_same k_law_same b_law_same .nil pass0 (pa_cons (pe_call G_depth (hr.mono (by decide)) rfl T.g_depth k_depth b_depth .nil pass0 (pa_cons (pv 6) pa_nil)) (pa_cons (pv 9) pa_nil))))) (pss_one (ps_ret pe_bl)) pss_nil)
      (pss_cons (ps_set (i := 12) sc_law.nd rfl (.inl rfl) (pe_call G_law_faces (hr.mono (by decide)) rfl T.g_law_faces k_law_faces b_law_faces .nil pass0 (pa_cons (pe_lc (own := [("_law_row_here", 17)]) rfl sc_law.nd (pi_list (pe_call G_law_rows_of (hr.mono (by decide)) rfl T.g_law_rows_of k_law_rows_of b_law_rows_of .nil pass0 (pa_cons (pv 4) pa_nil))) (blkOk_by (own := [("_law_row_here", 17)]) (N := ["_law_script", "_law_k", "_law_draws", "_law_many", "_law_code", "_law_x", "_law_told", "_law_due", "_law_turn", "_law_far", "_law_path", "_law_some", "_law_points", "_law_found", "_law_point", "_law_passed_here", "_law_copied", "_law_row_here"]) (sc := defScope s_law) (by decide +kernel)) (fun _ _ _ _ _ => (pg_name (i := 17) sc_law.nd rfl (.inl rfl))) (fun _ _ _ _ _ => pts_nil) (fun _ _ _ _ _ => (pe_slice (sl_tupAK (K := K) rfl) (pv 17) po_none (po_some pe_int)))) (pa_cons (pv 3) pa_nil))))
      (pss_one (ps_for PassesOwn.never rfl (pi_range1 rfl T.n_range (pa_cons pe_int pa_nil)) (pg_name (i := 8) sc_law.nd rfl (.inl rfl)) (pss_cons (ps_set (i := 14) sc_law.nd rfl (.inl rfl) (pe_call G_law_pick (hr.mono (by decide)) rfl T.g_law_pick k_law_pick b_law_pick .nil pass0 (pa_cons (pv 2) (pa_cons (pv 12) pa_nil))))
      (pss_cons (ps_set (i := 15) sc_law.nd rfl (.inl rfl) (pe_call G_law_passed (hr.mono (by decide)) rfl T.g_law_passed k_law_passed b_law_passed .nil pass0 (pa_cons (pv 2) (pa_cons (pv 14) (pa_cons (pv 3) pa_nil)))))
      (pss_cons (ps_set (i := 16) sc_law.nd rfl (.inl rfl) (pe_callTy call_list_of rfl T.n_list (by decide +kernel) (pa_cons (pv 15) pa_nil)))
      (pss_one (ps_if (PW.pt (pw_or (pt_not (pt_val (pe_call G_law_same (hr.mono (by decide)) rfl T.g_law_same k_law_same b_law_same .nil pass0 (pa_cons (pe_call G_walk (hr.mono (by decide)) rfl T.g_walk k_walk b_walk .nil pass0 (pa_cons (pv 6) (pa_cons (pv 15) pa_nil))) (pa_cons (pe_call G_law_led (hr.mono (by decide)) rfl T.g_law_led k_law_led b_law_led .nil pass0 (pa_cons (pv 4) (pa_cons (pv 14) pa_nil))) pa_nil))))) (pw_or1 (pt_cmpR (op_neB (rnB_list (eqB_at T G_s b_s G_t b_t G_r b_r)) (hr.mono (by decide))) (pe_callTy call_list_of rfl T.n_list (by decide +kernel) (pa_cons (pv 15) pa_nil)) (pv 16) (nomark _))))) (pss_one (ps_ret pe_bl)) pss_nil))))))))))))))))))
      (pss_one (ps_ret (pe_call G_law_chain_right (hr.mono (by decide)) rfl T.g_law_chain_right k_law_chain_right b_law_chain_right .nil pass0 (pa_cons (pe_call G_law_source (hr.mono (by decide)) rfl T.g_law_source k_law_source b_law_source .nil pass0 (pa_cons (pv 0) (pa_cons pe_int pa_nil))) (pa_cons pe_int pa_nil)))))), ?_⟩
  intro ds m k hS
  obtain ⟨is, rfl, hk⟩ := hS
  walk_at "s"
  walk_at "d"
  refine c_len (.inl ⟨_, rfl, rfl⟩) ?_
  walk_at "d"
  refine c_min2 ?_
  walk_at "d"
  obtain ⟨N, hN, hN6⟩ : ∃ N : Nat, (2 + if (3 : Int) < ((List.map D.int is).length : Nat) then (3 : Int) else ((List.map D.int is).length : Nat)) = (N : Int) ∧ N ≤ 5 := by
    refine ⟨(2 + if (3 : Int) < ((List.map D.int is).length : Nat) then (3 : Int) else ((List.map D.int is).length : Nat)).toNat, ?_, ?_⟩
    · split <;> omega
    · split <;> omega
  rw [hN]
  refine ⟨by omega, by omega, ?_⟩
  refine unr_inv (fun r' m' => ∃ x1 x2 x3 x4 x5 x6 x7 x8 x9 x10 x11 x12 x13 x14 x15 x16 x17 : Option D, r' = [some (.lst (is.map D.int)), x1, x2, x3, x4, x5, x6, x7, x8, x9, x10, x11, x12, x13, x14, x15, x16, x17]) ⟨none, none, none, none, none, none, none, none, none, none, none, none, none, none, none, none, none, rfl⟩ ?_ ?_
  · rintro x hx r' m0 ⟨x1, x2, x3, x4, x5, x6, x7, x8, x9, x10, x11, x12, x13, x14, x15, x16, x17, rfl⟩
    obtain ⟨i, hi⟩ := List.getElem?_of_mem hx
    obtain ⟨hi8, hx2⟩ := rangeD_get hi
    rw [Int.zero_add] at hx2
    subst hx2
    refine g_name ?_
    dsimp only [List.set]
    walk_at "d"
    have hi9 : i < 5 := by omega
    refine ⟨is, i, rfl, (by omega), fun a m1 hp0 o1 d1 => ?_⟩
    walk_at "d"
    refine ⟨a, 3, 9999, rfl, by decide, by decide, d1, fun r m2 r0 r1 o2 d2 => ?_⟩
    walk_at "d"
    obtain ⟨mn, hmn, e⟩ : ∃ mn : Nat, (mn = 1 ∨ mn = 2 ∨ mn = 3) ∧ 1 + r = (mn : Int) := ⟨(1 + r).toNat, by omega, by omega⟩
    rw [e]
    walk_at "d"
    refine ite_int fun z hz => ?_
    obtain ⟨dd, hdd, rfl⟩ : ∃ dd : Nat, (mn < 3 ∧ dd = 3 ∨ mn = 3 ∧ dd = 2) ∧ z = (dd : Int) := ⟨z.toNat, by omega, by omega⟩
    have hgb : gb (dd + 1) ≤ gb 4 := gb_le (by omega)
    have hgb4 : gb 4 = 120 := rfl
    walk_at "d"
    refine ⟨a, 9000, dd, mn, rfl, by omega, by omega, d2.mono (by omega), fun c m3 hc1 hc2 o3 d3 => ?_⟩
    have hok := ok_tg hc2
    have hlf := ok_lf (K := K) hc2
    have hst := sz_tg c
    have hdp : dpT c.tg = dpC c := tg_dp c
    have hp16 : 2 ^ (dpC c + 1) ≤ 2 ^ 4 := Nat.pow_le_pow_right (by decide) (by omega)
    have hsx := sx_lvs (K := K) (t := c.tg) (by omega) (by omega) hlf
    have hll := lv_sz (K := K) c.tg []
    walk_at "d"
    refine ⟨mn, rfl, hmn, ?_⟩
    walk_at "d"
    refine ⟨c, mn, rfl, by omega, hmn, hc2, ?_⟩
    walk_at "d"
    refine ⟨c, mn, [], rfl, by omega, hmn, hc2, by omega, by simp; omega, ?_⟩
    walk_at "d"
    refine ⟨c.tg, 20, rfl, hok, by omega, by omega, fun b hb => ?_⟩
    have hba : b ≠ a := d3.ne0 hb
    refine g_name ?_
    dsimp only [List.set]
    refine s_seq (s_if (t_bor (i := 13) rfl updM_same ?_))
    dsimp only [List.set]
    walk_at "d"
    refine ⟨_, rfl, hsx, ?_⟩
    walk_at "d"
    refine s_clr (e_var rfl ⟨b, _, rfl, updM_same, ?_⟩)
    walk_at "d"
    refine ⟨c.tg, 20, rfl, hok, by omega, by omega, fun b2 hb2 => ?_⟩
    have hba2 : b2 ≠ a := ((d3.upd2 hba).upd2 hba).ne0 hb2
    refine g_name ?_
    dsimp only [List.set]
    refine s_seq (s_if (t_bor (i := 13) rfl updM_same ?_))
    dsimp only [List.set]
    walk_at "d"
    refine ⟨_, rfl, hsx, ?_⟩
    walk_at "d"
    refine s_clr (e_var rfl ⟨b2, _, rfl, updM_same, ?_⟩)
    walk_at "d"
    refine unr_idx (i := 0) (fun j r' m' => Dr a 9000 m' ∧ ∃ (far : Int) (x10 x11 : Option D), r' = [some (.lst (is.map D.int)), some (.int (i : Int)), some (.ref a), some (.int (mn : Int)), some (cdD c), some (.tup (unks K mn)), some (tgD K c.tg), some (.lst (lvD K c.tg [])), some (.int 1), some (.int far), x10, x11, x12, some (.ref b2), x14, x15, x16, x17] ∧ 0 ≤ far ∧ (∀ j' < j, ∀ x, (lvD K c.tg [])[j']? = some x → lenP x ≤ far) ∧ (far = 0 ∨ ∃ x ∈ lvD K c.tg [], lenP x = far)) ⟨(((d3.upd2 hba).upd2 hba).upd2 hba2).upd2 hba2, 0, _, _, rfl, by decide, fun _ h => by omega, .inl rfl⟩ ?_ ?_
    · rintro j x r' m' hj ⟨dM, far, y10, y11, rfl, f0, f1, f2⟩
      have hxm := List.mem_of_getElem? hj
      obtain ⟨q, v, rfl, hq⟩ := lv_all c.tg [] x hxm
      rw [Nat.zero_add] at f1 ⊢
      walk_at "d"
      refine c_len (.inr (.inl ⟨_, rfl, rfl⟩)) ?_
      walk_at "d"
      refine c_max2 ?_
      walk_at "d"
      refine ⟨dM, _, _, _, rfl, ?_, ?_, ?_⟩
      · split <;> omega
      · intro j' hj' x hx
        by_cases e : j' = j
        · subst e
          rw [hj] at hx
          cases hx
          show ((q.length : Nat) : Int) ≤ _
          split <;> omega
        · have := f1 j' (by omega) x hx
          split <;> omega
      · split
        · exact .inr ⟨_, hxm, rfl⟩
        · exact f2
    · rintro r' m' ⟨dM, far, y10, y11, rfl, f0, f1, f2⟩
      have hfar : far = (dpT c.tg : Int) := far_dp f0 (fun x hx => by
        obtain ⟨j', hj'⟩ := List.getElem?_of_mem hx
        exact f1 j' (by rw [Nat.zero_add]; exact (List.getElem?_eq_some_iff.mp hj').1) x hj') f2
      subst hfar
      walk_at "d"
      refine ⟨c.tg, 20, rfl, hok, by omega, by omega, ?_⟩
      walk_at "d"
      refine ⟨_, rfl, .atm (.int _), ?_⟩
      walk_at "d"
      refine ⟨c, rfl, by omega, by omega, ?_⟩
      walk_at "d"
      have hrl := rowsC_len c
      have hr8 : 2 ^ dpC c ≤ 2 ^ dd := Nat.pow_le_pow_right (by decide) hc1
      have hrm : mn < 3 ∧ (rowsC c).length ≤ 7 ∨ mn = 3 ∧ (rowsC c).length ≤ 3 := by
        rcases hdd with ⟨h1, rfl⟩ | ⟨h1, rfl⟩
        · exact .inl ⟨h1, by omega⟩
        · exact .inr ⟨h1, by omega⟩
      refine ⟨by omega, unrc_map cut2 (fun x hx => ?_) ?_⟩
      · obtain ⟨c0, t0, t1, t2, st, wy, rfl, _⟩ := rowsC_in hc2 x hx
        refine g_name ?_
        dsimp only [List.set]
        refine ⟨rfl, ?_⟩
        refine e_slT (e_var rfl ⟨_, rfl, e_int ⟨2, rfl, ?_⟩⟩)
        exact ⟨rfl, rfl⟩
      walk_at "d"
      refine ⟨(rowsC c).map cut2, (mn : Int), rfl, by rw [List.length_map]; omega, cut_rw hc2, fun ps hps hne hpl => ?_⟩
      walk_at "d"
      refine unr_idx (i := 0) (fun j r' m' => Dr a (1000 + 6 * (6 - j)) m' ∧ ∃ x8 x14 x15 x16 : Option D, r' = [some (.lst (is.map D.int)), some (.int (i : Int)), some (.ref a), some (.int (mn : Int)), some (cdD c), some (.tup (unks K mn)), some (tgD K c.tg), some (.lst (lvD K c.tg [])), x8, some (.int (dpT c.tg : Int)), y10, y11, some (.lst ps), some (.ref b2), x14, x15, x16, x17]) ⟨dM.mono (by decide), _, _, _, _, rfl⟩ ?_ ?_
      · rintro j y r' m4 hj ⟨d4, z8, z14, z15, z16, rfl⟩
        obtain ⟨hj6, hy2⟩ := rangeD_get hj
        have hj7 : j < 6 := hj6
        rw [Nat.zero_add] at d4 ⊢
        refine g_name ?_
        dsimp only [List.set]
        walk_at "d"
        refine ⟨a, 1000 + 6 * (5 - j) + 5, ps, rfl, hne, by omega, d4.mono (by omega), fun x m5 hx o5 d5 => ?_⟩
        obtain ⟨aa, d, b, e, g, f, rfl, hF⟩ := pnt_fr (hps x hx)
        walk_at "d"
        refine ⟨a, 1000 + 6 * (5 - j) + 1, mn, aa, d, b, e, g, f, rfl, hmn, hF, d5, fun x m6 hpt o6 d6 => ?_⟩
        obtain ⟨xs, hxs, hN⟩ := hpt
        walk_at "d"
        refine c_list hxs ?_
        walk_at "d"
        refine ⟨c.tg, x, _, 20, rfl, ⟨xs, hxs, hN⟩, hok, ⟨45, by decide, fun q hq => ?_, by decide⟩, ?_⟩
        · have hq2 : q ∈ qsOf aa d b e g f := List.mem_of_mem_take hq
          simp only [qsOf, List.mem_cons, List.not_mem_nil, or_false] at hq2
          rcases hq2 with rfl | rfl | rfl
          · exact Sz.div (by have := hF.d0; omega) hF.a.lt hF.d.lt
          · exact Sz.div (by have := hF.e0; omega) hF.b.lt hF.e.lt
          · exact Sz.div (by have := hF.f0; omega) hF.g.lt hF.f.lt
        have hwk : wkT ((qsOf aa d b e g f).take mn) c.tg = wkT (qsOf aa d b e g f) c.tg := wk_take hmn hc2
        rw [hwk]
        walk_at "d"
        refine ⟨c, (mn : Int), aa, d, b, e, g, f, rfl, hc2, hF, ?_⟩
        walk_at "d"
        refine ⟨_, rfl, sx_le (n := 1) (j := 3) (menu_sx _ (ok_wk hc2)), ?_⟩
        walk_at "d"
        refine c_list hxs ?_
        walk_at "d"
        refine r_neB (R := nlA K) ⟨xs, xs, rfl, rfl, eq_nums hN⟩ ?_
        walk_at "d"
        first | exact ⟨d6.mono (by omega), _, _, _, _, rfl⟩ | done
      · rintro r' m4 ⟨d4, z8, z14, z15, z16, rfl⟩
        exact ⟨_, _, _, _, _, _, _, _, _, _, _, _, _, _, _, _, _, rfl⟩
  · rintro r' m' ⟨x1, x2, x3, x4, x5, x6, x7, x8, x9, x10, x11, x12, x13, x14, x15, x16, x17, rfl⟩
    walk_at "d"
    refine ⟨is, 5, rfl, by decide, fun a m1 hp0 o1 d1 => ?_⟩
    walk_at "d"
    exact ⟨a, 9998, rfl, d1, hk⟩
end
end LW
end

section
set_option Elab.async false
set_option linter.all false
set_option maxRecDepth 100000
set_option maxHeartbeats 0
namespace LW
open PySem PySem.Spec PyProof.Rows L2 DL MA
theorem prog_of {P : Program} {w : World} {K : PySem.W.Frag} {mg : Str → Option Value} {base : Heap} (T : Txt K mg) : Lw P w K mg base := by
  have gcd := fn_gcd (P := P) (w := w) (base := base) T
  have pool : PoolShare P w K mg base := ok_Share_init T gcd
  have isi := fn_is_integer (P := P) (w := w) (base := base) T
  have isn := fn_is_number T isi
  have ash := fn_as_share T pool
  have sh0 : Sh0 P w K mg base := ⟨isn, ash, pool⟩
  have sadd := fn_Share_add T sh0
  have smul := fn_Share_mul T sh0
  have tini := fn_Term_init (P := P) (w := w) (base := base) T
  have t0 : Tm0 P w K mg base := ⟨sh0, isi, tini, sadd, smul⟩
  have con := fn_constant T t0
  have unk := fn_unknown T t0
  have isw := fn_is_worth T t0
  have ast := fn_as_term T con
  have scl := fn_scaled T t0
  have t1 : Tm1 P w K mg base := ⟨t0, isw, ast, scl⟩
  have tadd := fn_Term_add T t1
  have tneg := fn_Term_neg T t1
  have t2 : Tm2 P w K mg base := ⟨t1, tadd, tneg⟩
  have tsub := fn_Term_sub T t2
  have tradd := fn_Term_radd T t2
  have trmul := fn_Term_rmul T t1
  have worth := fn_worth_of T sh0
  have tat := fn_Term_at T t0 worth
  have wf := fn_whole_factor T sh0 gcd
  have rini := fn_Row_init T scl wf
  have rw0 : Rw0 P w K mg base := ⟨isw, ast, tsub, rini⟩
  have hol := fn_Row_holds T ⟨tat, fn_Share_gt T sh0, fn_Share_ge T sh0⟩
  have seq := fn_Share_eq T sh0
  have teq := fn_Term_eq T seq
  have req := fn_Row_eq T teq
  have eqs : Eqs P w K mg base := ⟨seq, teq, req⟩
  have src := fn_source (P := P) (w := w) (base := base) T
  have drw := fn_draw (P := P) (w := w) (base := base) T
  have pck := fn_pick T drw
  have row := fn_row T drw (fn_ints T drw)
  have trm := fn_terms T unk
  have tlt := fn_Term_lt T rw0
  have tgt := fn_Term_gt T rw0
  have ngt := ni_Share_gt T isn
  have sai := fn_said T ⟨ni_Share_add T isn, ni_Share_mul T isn, ni_Share_lt T isn, ni_Share_le T isn, ngt, ni_Share_ge T isn, tadd, tradd, trmul, tsub, tlt, fn_Term_le T rw0, tgt, fn_Term_ge T rw0⟩
  have les := fn_less (P := P) (w := w) (base := base) T
  have mid := fn_middle (P := P) (w := w) (base := base) T
  have rot := fn_root (P := P) (w := w) (base := base) T
  have det := fn_det (P := P) (w := w) (base := base) T
  have lin := fn_line T rot
  have mee := fn_meet T rot
  have fix := fn_fixed (P := P) (w := w) (base := base) T
  have pln := fn_plane T lin mee
  have rom := fn_room T lin mee (fn_triple T rot det)
  have fcs := fn_faces T ⟨lin, pln, rom, fn_worths T les mid, fix⟩
  have lvs := fn_leaves (P := P) (w := w) (base := base) T
  have dep := fn_depth T lvs
  have wlk := fn_walk T hol
  have sam := fn_sameN T eqs 4
  have led := fn_led T (fn_holds T (fn_number (P := P) (w := w) (base := base) T))
  have chn := fn_chain T ⟨drw, unk, ngt, tlt, tgt, lvs, dep, wlk, sam⟩
  exact ⟨src, drw, pck, fn_grownN T pck drw row 4, trm, fn_ofN T sai 4, fn_listedN T sai 4, lvs, sam, dep, fn_rows_ofN T 4, fcs, fn_passed T drw pool, wlk, led, chn, eqs⟩
theorem isL_ints {K : PySem.W.Frag} {F : Hp} : ∀ ns : List Int, IsL K F (ns.map D.int) (ns.map V.int)
  | [] => rfl
  | n :: ns => ⟨.int n, ns.map V.int, rfl, rfl, isL_ints ns⟩
theorem law_at {K : PySem.W.Frag} {H : Hp} {a : Addr} {ns : List Int} {Q : VK} {E : XK} (hS : SqL K H a (ns.map V.int)) (hq : ∀ H', Q (.bl true) H') : spOf K S_law [.ref a] H Q E := by
  refine ⟨[.lst (ns.map D.int)], H, fun _ => none, fun d _ => d = .bl true, ⟨fun _ _ h => h, fun _ _ h => by cases h⟩, ⟨.ref a, [], rfl, ⟨a, ns.map V.int, rfl, hS, isL_ints ns⟩, rfl⟩, ⟨ns, rfl, fun _ => rfl⟩, ?_⟩
  intro d m' v F' H' hd w' s' iv
  subst hd
  obtain rfl : v = .bl true := iv
  exact hq H'
theorem facts {P : Program} {w : World} {K : PySem.W.Frag} {h : Heap} {mg : Str → Option Value} {f : Addr} (X : K.In h) (G : h.Ns mainGlobals mg) (hfa : mg ("law" : Str) = some (.ref f)) (c : FX.SaysE fa fn fx fs K) :
    ∃ fd : FuncData, (∀ (s : Shared) (v : Value), BindsTo s fd ⟨[v], []⟩ [("_law_script", v)]) ∧ ∀ base : Heap, K.In base → base.Ns mainGlobals mg → FnOk P w K mg base CX0 16 f fd ["_law_script"] (spOf K S_law) := by
  have T := txt_of X G c
  obtain ⟨fd, F⟩ := T.F_law
  have e := hfa.symm.trans T.g_law
  cases e
  have b := FunD.bindsA (ps := ["_law_script"]) F fun _ _ _ _ _ _ us hl => match us, hl with | [_], _ => rfl
  exact ⟨fd, fun s v => b s [v] rfl, fun base _ _ => ok_law T (prog_of T) F⟩
end LW
open PySem PySem.W PySem.Calls PyProof.Rows
theorem PySem.Challenge.cw_lessways_k10_leaves_depth_walk_holds : PySem.Challenge.rw_lessways_k10_leaves_depth_walk.Holds := by
  w_on; o_law
  refine HandSHeadRun.head_any (r := OpenLaw.row PySem.Challenge.rw_lessways_k10_leaves_depth_walk) (q := view (OpenLaw.row PySem.Challenge.rw_lessways_k10_leaves_depth_walk).prog [55]) (H := LW.hk) (ob := LW.ob) (M := 4600) (loose := LW.loose) (d := HandSHeadRun.topDef (OpenLaw.row PySem.Challenge.rw_lessways_k10_leaves_depth_walk).prog 55) (kwd := []) LW.ob_eq
    (by kernel_rfl) (fun s => by kernel_rfl) LW.run (by kernel_rfl) (by kernel_rfl) (by kernel_rfl) (by rfl) (by first | assumption | decide +kernel) (by decide +kernel) ⟨rfl, rfl, rfl, rfl, rfl, by decide +kernel⟩ ?hw ?hc
  case hw => w_witness2
  case hc =>
    refine L2.walk_ofE (l := PySem.Challenge.rw_lessways_k10_leaves_depth_walk) (n := 63) (k := 16) (x := "_law_script") (CX := L2.CX0) rfl (by decide) (by kernel_rfl) ⟨rfl, by decide, by decide⟩ ?F (fun _ _ _ _ z => z)
    intro w mg fa h Y G hmg0
    obtain ⟨K, KX, c⟩ := Y
    have hmg : mg ("law" : PySem.Str) = some (.ref fa) := by
      have e : (HandSHeadRun.topDef (OpenLaw.row PySem.Challenge.rw_lessways_k10_leaves_depth_walk).prog 55).name = ("law" : PySem.Str) := by kernel_rfl
      rw [← e]
      exact hmg0
    obtain ⟨fd, hb, hF⟩ := LW.facts (P := (PySem.Challenge.rw_lessways_k10_leaves_depth_walk).prog) (w := w) KX G hmg c
    exact ⟨K, fd, DL.spOf K LW.S_law, KX, hb, fun H a ns hl _ hS => LW.law_at hS fun _ => rfl, hF⟩
end

import PyProof.Rows.All
import Wide.All
import OpenK.AllK
import Wide.FinOn
import PyProof.EqAt
import PyProof.EqKinds
import PyProof.TupleCall
import HandS.ForMost
import HandS.ForExc
import HandS.EndBits
import HandS.IsInst
import HandS.Wide
import HandS.Defaults
import HandS.Zip
import HandS.Property
import HandS.Deep
import HandS.ClsMeth
import HandS.Codes
import HandS.NoneIn
import HandS.MakeKw
import HandS.MakeKwOnly
import HandS.OwnEq
import PyProof.InstNe
import PySem.Challenge.RW_unseencurves_k02_moves_made
set_option Elab.async false
set_option linter.all false
set_option maxRecDepth 100000
set_option maxHeartbeats 4000000
/-! DL: the data layer. Plain data (D) stands behind values; the heap is hidden. -/
namespace DL
open PySem PySem.Spec PyProof.Rows L2

/-! ### data -/
inductive D where
  | non | bl (b : Bool) | int (i : Int) | str (x : Str) | ty (n : String) | cls (C : Addr)
  | tup (xs : List D) | lst (xs : List D) | ins (C : Addr) (fs : List (Str × D)) | bag | lat (c : Addr) (xs : List D)

/-- the drawn bag: a list whose contents change behind the veil -/
structure BagIn (h : Heap) (b c : Addr) (m : Nat) : Prop where
  ex : ∃ (i g s n : Int) (t1 t2 t3 t4 : Tok) (z : Nat), h.get? b = some { cls := .type "list", data := .seq #[.ref c, .int i t1, .int g t2, .int s t3, .int n t4] z } ∧
    0 ≤ i ∧ i ≤ (m : Int) ∧ 0 ≤ g ∧ 0 ≤ s ∧ s < 2147483587
def bagO (b c : Addr) (m : Nat) : HO := .ext fun h => BagIn h b c m
def BagOk (K : PySem.W.Frag) (H : Hp) (b : Addr) : Prop :=
  ∃ (c : Addr) (ns : List Int), H b = some (bagO b c ns.length) ∧ H c = some (.lst (ns.map V.int)) ∧ ns.length ≤ 63

mutual
def Rep (K : PySem.W.Frag) (H : Hp) : D → V → Prop
  | .non, v => v = .non
  | .bl b, v => v = .bl b
  | .int i, v => v = .int i
  | .str x, v => v = .str x
  | .ty n, v => v = .ty n
  | .cls C, v => v = .ref C
  | .tup xs, v => ∃ a vs, v = .ref a ∧ SqT K H a vs ∧ Reps K H xs vs
  | .lst xs, v => ∃ a vs, v = .ref a ∧ SqL K H a vs ∧ Reps K H xs vs
  | .ins C fs, v => ∃ a dx fvs, v = .ref a ∧ H a = some (.ins C dx fvs) ∧ Repf K H fs fvs
  | .bag, v => ∃ a, v = .ref a ∧ BagOk K H a
  | .lat c xs, v => v = .ref c ∧ ∃ vs, SqL K H c vs ∧ Reps K H xs vs
def Reps (K : PySem.W.Frag) (H : Hp) : List D → List V → Prop
  | [], vs => vs = []
  | d :: ds, vs => ∃ v r, vs = v :: r ∧ Rep K H d v ∧ Reps K H ds r
def Repf (K : PySem.W.Frag) (H : Hp) : List (Str × D) → List (Str × V) → Prop
  | [], vs => vs = []
  | (f, d) :: ds, vs => ∃ v r, vs = (f, v) :: r ∧ Rep K H d v ∧ Repf K H ds r
end

section
variable {K : PySem.W.Frag} {H H' : Hp}
theorem sqt_mono {a : Addr} {xs : List V} (e : Same H H') (h : SqT K H a xs) : SqT K H' a xs := by
  rcases h with (h | ⟨o, h⟩) | h
  · exact .inl (.inl (e _ _ h))
  · exact .inl (.inr ⟨o, e _ _ h⟩)
  · exact .inr h
mutual
theorem Rep.mono (e : Same H H') : ∀ (d : D) (v : V), Rep K H d v → Rep K H' d v
  | .non, _, h => h
  | .bl _, _, h => h
  | .int _, _, h => h
  | .str _, _, h => h
  | .ty _, _, h => h
  | .cls _, _, h => h
  | .tup xs, _, ⟨a, vs, e1, hs, hr⟩ => ⟨a, vs, e1, sqt_mono e hs, Reps.mono e xs vs hr⟩
  | .lst xs, _, ⟨a, vs, e1, hs, hr⟩ => ⟨a, vs, e1, e.seq hs, Reps.mono e xs vs hr⟩
  | .ins C fs, _, ⟨a, dx, fvs, e1, hs, hr⟩ => ⟨a, dx, fvs, e1, e _ _ hs, Repf.mono e fs fvs hr⟩
  | .lat c xs, _, ⟨e1, vs, hs, hr⟩ => ⟨e1, vs, e.seq hs, Reps.mono e xs vs hr⟩
  | .bag, _, ⟨a, e1, c, ns, hb, hc, hl⟩ => ⟨a, e1, c, ns, e _ _ hb, e _ _ hc, hl⟩
theorem Reps.mono (e : Same H H') : ∀ (ds : List D) (vs : List V), Reps K H ds vs → Reps K H' ds vs
  | [], _, h => h
  | d :: ds, _, ⟨v, r, e1, h1, h2⟩ => ⟨v, r, e1, Rep.mono e d v h1, Reps.mono e ds r h2⟩
theorem Repf.mono (e : Same H H') : ∀ (ds : List (Str × D)) (vs : List (Str × V)), Repf K H ds vs → Repf K H' ds vs
  | [], _, h => h
  | (f, d) :: ds, _, ⟨v, r, e1, h1, h2⟩ => ⟨v, r, e1, Rep.mono e d v h1, Repf.mono e ds r h2⟩
end
theorem Reps.length : ∀ {ds : List D} {vs : List V}, Reps K H ds vs → vs.length = ds.length
  | [], _, h => by cases (show _ = _ from h); rfl
  | d :: ds, _, ⟨v, r, e1, _, h2⟩ => by subst e1; exact congrArg (· + 1) (Reps.length h2)
theorem Reps.get : ∀ {ds : List D} {vs : List V} {i : Nat} {d : D}, Reps K H ds vs → ds[i]? = some d → ∃ v, vs[i]? = some v ∧ Rep K H d v
  | [], _, _, _, _, e => by simp at e
  | x :: ds, _, 0, d, ⟨v, r, e1, h1, _⟩, e => by
    simp at e; subst e; subst e1
    exact ⟨v, rfl, h1⟩
  | x :: ds, _, i + 1, d, ⟨v, r, e1, _, h2⟩, e => by
    subst e1
    obtain ⟨u, q1, q2⟩ := Reps.get (i := i) h2 (by simpa using e)
    exact ⟨u, by simpa using q1, q2⟩
theorem Reps.get' : ∀ {ds : List D} {vs : List V} {i : Nat} {v : V}, Reps K H ds vs → vs[i]? = some v → ∃ d, ds[i]? = some d ∧ Rep K H d v := fun {ds vs i v} h e => by
  have hi : i < vs.length := (List.getElem?_eq_some_iff.mp e).1
  have hd : i < ds.length := by rw [← h.length]; exact hi
  obtain ⟨u, q1, q2⟩ := h.get (List.getElem?_eq_getElem hd)
  rw [e] at q1
  cases q1
  exact ⟨_, List.getElem?_eq_getElem hd, q2⟩
theorem Reps.append : ∀ {ds es : List D} {vs us : List V}, Reps K H ds vs → Reps K H es us → Reps K H (ds ++ es) (vs ++ us)
  | [], _, _, _, h, q => by cases (show _ = _ from h); exact q
  | d :: ds, _, _, _, ⟨v, r, e1, h1, h2⟩, q => by
    subst e1
    exact ⟨v, _, rfl, h1, Reps.append h2 q⟩
theorem Reps.take : ∀ {ds : List D} {vs : List V} (n : Nat), Reps K H ds vs → Reps K H (ds.take n) (vs.take n)
  | _, _, 0, _ => by rw [List.take_zero, List.take_zero]; rfl
  | [], _, n + 1, h => by cases (show _ = _ from h); rfl
  | d :: ds, _, n + 1, ⟨v, r, e1, h1, h2⟩ => by
    subst e1
    exact ⟨v, _, rfl, h1, Reps.take n h2⟩
theorem Reps.drop : ∀ {ds : List D} {vs : List V} (n : Nat), Reps K H ds vs → Reps K H (ds.drop n) (vs.drop n)
  | _, _, 0, h => h
  | [], _, n + 1, h => by cases (show _ = _ from h); rfl
  | d :: ds, _, n + 1, ⟨v, r, e1, h1, h2⟩ => by
    subst e1
    exact Reps.drop n h2
theorem Reps.set {d : D} {v : V} (hv : Rep K H d v) : ∀ {ds : List D} {vs : List V} (n : Nat), Reps K H ds vs → Reps K H (ds.set n d) (vs.set n v)
  | [], _, n, h => by cases (show _ = _ from h); rfl
  | x :: ds, _, 0, ⟨u, r, e1, h1, h2⟩ => by
    subst e1
    exact ⟨v, _, rfl, hv, h2⟩
  | x :: ds, _, n + 1, ⟨u, r, e1, h1, h2⟩ => by
    subst e1
    exact ⟨u, _, rfl, h1, Reps.set hv n h2⟩
theorem Repf.get : ∀ {fs : List (Str × D)} {vs : List (Str × V)} {f : Str} {d : D}, Repf K H fs vs → fs.lookup f = some d → ∃ v, vs.lookup f = some v ∧ Rep K H d v
  | [], _, _, _, _, e => by simp at e
  | (g, x) :: fs, _, f, d, ⟨v, r, e1, h1, h2⟩, e => by
    subst e1
    by_cases hg : f = g
    · subst hg
      rw [List.lookup_cons_self] at e ⊢
      cases e
      exact ⟨v, rfl, h1⟩
    · have hb : (f == g) = false := by simpa using hg
      simp only [List.lookup, hb] at e ⊢
      exact Repf.get h2 e
theorem Repf.none_of : ∀ {fs : List (Str × D)} {vs : List (Str × V)} {f : Str}, Repf K H fs vs → fs.lookup f = none → vs.lookup f = none
  | [], _, _, h, _ => by cases (show _ = _ from h); rfl
  | (g, x) :: fs, _, f, ⟨v, r, e1, h1, h2⟩, e => by
    subst e1
    by_cases hg : f = g
    · subst hg
      rw [List.lookup_cons_self] at e
      cases e
    · have hb : (f == g) = false := by simpa using hg
      simp only [List.lookup, hb] at e ⊢
      exact Repf.none_of h2 e
def putD (f : Str) (v : D) : List (Str × D) → List (Str × D)
  | [] => [(f, v)]
  | (g, x) :: r => if g = f then (f, v) :: r else (g, x) :: putD f v r
end

/-! ### growth of the two heaps: what is known as data, and all that is tracked -/
structure Grow (A B A' B' : Hp) : Prop where
  g0 : Same A A'
  g1 : Same B B'
  g2 : Same A' B'
  nw : ∀ p, B p ≠ none → A' p = A p
section
variable {A B A1 B1 A2 B2 : Hp} {p : Addr} {o : HO}
theorem Grow.refl (h : Same A B) : Grow A B A B := ⟨.refl _, .refl _, h, fun _ _ => rfl⟩
theorem ne_none_of {H H' : Hp} (e : Same H H') {p : Addr} (h : H p ≠ none) : H' p ≠ none := by
  cases q : H p with
  | none => exact absurd q h
  | some o => rw [e p o q]; exact fun z => nomatch z
theorem Grow.trans (a : Grow A B A1 B1) (b : Grow A1 B1 A2 B2) : Grow A B A2 B2 :=
  ⟨a.g0.trans b.g0, a.g1.trans b.g1, b.g2, fun p hp => (b.nw p (ne_none_of a.g1 hp)).trans (a.nw p hp)⟩
theorem same_upd {H : Hp} (h : H p = none) : Same H (upd H p o) := fun b x e => by
  rw [upd_ne (ne_of_none e h)]
  exact e
theorem same_upd2 (h : Same A B) : Same (upd A p o) (upd B p o) := fun b x e => by
  by_cases hb : b = p
  · subst hb
    rw [upd_same] at e ⊢
    exact e
  · rw [upd_ne hb] at e ⊢
    exact h b x e
theorem same_updR (h : Same A B) (hp : A p = none) : Same A (upd B p o) := fun b x e => by
  rw [upd_ne (ne_of_none e hp)]
  exact h b x e
theorem Grow.new (h : Same A B) (hp : B p = none) : Grow A B (upd A p o) (upd B p o) :=
  ⟨same_upd (h.free hp), same_upd hp, same_upd2 h, fun q hq => by
    by_cases e : q = p
    · subst e
      exact absurd hp hq
    · rw [upd_ne e]⟩
end

/-! ### the frame -/
/-- a slot's content: data, or a thing of one's own that may be changed -/
inductive SV where
  | d (x : D) | lst (x : Addr) (xs : List D) | ins (x C : Addr) (fs : List (Str × D))
abbrev Rho := List (Option SV)
def OwnRep (K : PySem.W.Frag) (H0 : Hp) (a : Addr) : SV → HO → Prop
  | .d _, _ => False
  | .lst x xs, o => x = a ∧ ∃ vs, o = .lst vs ∧ Reps K H0 xs vs
  | .ins x C fs, o => x = a ∧ ∃ dx fvs, o = .ins C dx fvs ∧ Repf K H0 fs fvs
theorem OwnRep.mono {K : PySem.W.Frag} {H H' : Hp} {a : Addr} (e : Same H H') : ∀ {w : SV} {o : HO}, OwnRep K H a w o → OwnRep K H' a w o
  | .lst _ _, _, ⟨ex, vs, e1, h⟩ => ⟨ex, vs, e1, Reps.mono e _ _ h⟩
  | .ins _ _ _, _, ⟨ex, dx, fvs, e1, h⟩ => ⟨ex, dx, fvs, e1, Repf.mono e _ _ h⟩
def Slot (K : PySem.W.Frag) (B1 H0 H : Hp) : Option SV → Option V → Option Addr → Prop
  | none, _, oa => oa = none
  | some (.d x), v, oa => oa = none ∧ ∃ u, v = some u ∧ Rep K H0 x u
  | some w, v, oa => ∃ a o, v = some (.ref a) ∧ oa = some a ∧ H0 a = none ∧ B1 a = none ∧ H a = some o ∧ OwnRep K H0 a w o

structure RepS (K : PySem.W.Frag) (B0 B1 : Hp) (A : Nat → Option Addr) (H0 H : Hp) (σ : L2.St) (ρ : Rho) : Prop where
  ex : Same H0 H
  gr : Grow B0 B1 H0 H
  len : σ.length = ρ.length
  slot : ∀ i w, ρ[i]? = some w → ∃ v, σ[i]? = some v ∧ Slot K B1 H0 H w v (A i)
  inj : ∀ i j a, A i = some a → A j = some a → i = j
  own : ∀ i a, A i = some a → H0 a = none ∧ B1 a = none ∧ H a ≠ none

section
variable {K : PySem.W.Frag} {B0 B1 H0 H H0' H' : Hp} {A : Nat → Option Addr} {σ : L2.St} {ρ : Rho}
theorem Slot.grow (g : Grow H0 H H0' H') : ∀ {w : Option SV} {v : Option V} {oa : Option Addr}, Slot K B1 H0 H w v oa → Slot K B1 H0' H' w v oa
  | none, _, _, h => h
  | some (.d x), _, _, ⟨e, u, e1, r⟩ => ⟨e, u, e1, Rep.mono g.g0 _ _ r⟩
  | some (.lst x xs), _, _, ⟨a, o, e1, e2, n, b, ho, r⟩ => ⟨a, o, e1, e2, (g.nw a (by rw [ho]; exact fun z => nomatch z)).trans n, b, g.g1 _ _ ho, r.mono g.g0⟩
  | some (.ins x C fs), _, _, ⟨a, o, e1, e2, n, b, ho, r⟩ => ⟨a, o, e1, e2, (g.nw a (by rw [ho]; exact fun z => nomatch z)).trans n, b, g.g1 _ _ ho, r.mono g.g0⟩
theorem RepS.grow (R : RepS K B0 B1 A H0 H σ ρ) (g : Grow H0 H H0' H') : RepS K B0 B1 A H0' H' σ ρ :=
  ⟨g.g2, R.gr.trans g, R.len, fun i w e => by
    obtain ⟨v, e1, s⟩ := R.slot i w e
    exact ⟨v, e1, s.grow g⟩, R.inj, fun i a e => by
    obtain ⟨h1, h2, h3⟩ := R.own i a e
    exact ⟨(g.nw a h3).trans h1, h2, ne_none_of g.g1 h3⟩⟩
def clr (A : Nat → Option Addr) (i : Nat) : Nat → Option Addr := fun j => if j = i then none else A j
def sto (A : Nat → Option Addr) (i : Nat) (a : Addr) : Nat → Option Addr := fun j => if j = i then some a else A j
theorem clr_some {i j : Nat} {a : Addr} (h : clr A i j = some a) : j ≠ i ∧ A j = some a := by
  unfold clr at h
  by_cases e : j = i
  · rw [if_pos e] at h
    cases h
  · rw [if_neg e] at h
    exact ⟨e, h⟩
theorem RepS.setD (R : RepS K B0 B1 A H0 H σ ρ) {x : D} {u : V} (i : Nat) (r : Rep K H0 x u) : RepS K B0 B1 (clr A i) H0 H (σ.set i (some u)) (ρ.set i (some (.d x))) := by
  refine ⟨R.ex, R.gr, by rw [List.length_set, List.length_set]; exact R.len, fun j w e => ?_, fun j k a h1 h2 => R.inj j k a (clr_some h1).2 (clr_some h2).2, fun j a h => R.own j a (clr_some h).2⟩
  by_cases hj : i = j
  · subst hj
    by_cases hl : i < ρ.length
    · rw [List.getElem?_set_self hl] at e
      cases e
      refine ⟨some u, by rw [List.getElem?_set_self (by rw [R.len]; exact hl)], ?_⟩
      exact ⟨by unfold clr; rw [if_pos rfl], u, rfl, r⟩
    · rw [List.getElem?_eq_none (by simpa using hl)] at e
      cases e
  · rw [List.getElem?_set_ne hj] at e
    obtain ⟨v, e1, s⟩ := R.slot j w e
    refine ⟨v, by rw [List.getElem?_set_ne hj]; exact e1, ?_⟩
    unfold clr
    rw [if_neg (fun z => hj z.symm)]
    exact s
theorem RepS.setNone (R : RepS K B0 B1 A H0 H σ ρ) (i : Nat) : RepS K B0 B1 (clr A i) H0 H (σ.set i none) (ρ.set i none) := by
  refine ⟨R.ex, R.gr, by rw [List.length_set, List.length_set]; exact R.len, fun j w e => ?_, fun j k a h1 h2 => R.inj j k a (clr_some h1).2 (clr_some h2).2, fun j a h => R.own j a (clr_some h).2⟩
  by_cases hj : i = j
  · subst hj
    by_cases hl : i < ρ.length
    · rw [List.getElem?_set_self hl] at e
      cases e
      refine ⟨none, by rw [List.getElem?_set_self (by rw [R.len]; exact hl)], ?_⟩
      show clr A i i = none
      unfold clr
      rw [if_pos rfl]
    · rw [List.getElem?_eq_none (by simpa using hl)] at e
      cases e
  · rw [List.getElem?_set_ne hj] at e
    obtain ⟨v, e1, s⟩ := R.slot j w e
    refine ⟨v, by rw [List.getElem?_set_ne hj]; exact e1, ?_⟩
    unfold clr
    rw [if_neg (fun z => hj z.symm)]
    exact s
/-- an object at a fresh place that only the slot i holds -/
theorem RepS.setOwn (R : RepS K B0 B1 A H0 H σ ρ) {w : SV} {a : Addr} {o : HO} (i : Nat) (hi : i < ρ.length) (na : H a = none) (hw : OwnRep K H0 a w o) : RepS K B0 B1 (sto A i a) H0 (upd H a o) (σ.set i (some (.ref a))) (ρ.set i (some w)) := by
  have n0 : H0 a = none := R.ex.free na
  have nb : B1 a = none := R.gr.g1.free na
  have ne : ∀ j b, A j = some b → b ≠ a := fun j b h e => by
    subst e
    exact (R.own j b h).2.2 na
  have slotOf : Slot K B1 H0 (upd H a o) (some w) (some (.ref a)) (some a) := by
    cases w with
    | d x => exact hw.elim
    | lst x2 xs => exact ⟨a, o, rfl, rfl, n0, nb, upd_same, hw⟩
    | ins x C fs => exact ⟨a, o, rfl, rfl, n0, nb, upd_same, hw⟩
  refine ⟨same_updR R.ex n0, ⟨R.gr.g0, same_updR R.gr.g1 nb, same_updR R.ex n0, R.gr.nw⟩, by rw [List.length_set, List.length_set]; exact R.len, fun j x e => ?_, fun j k b h1 h2 => ?_, fun j b h => ?_⟩
  · by_cases hj : i = j
    · subst hj
      rw [List.getElem?_set_self hi] at e
      cases e
      refine ⟨some (.ref a), by rw [List.getElem?_set_self (by rw [R.len]; exact hi)], ?_⟩
      unfold sto
      rw [if_pos rfl]
      exact slotOf
    · rw [List.getElem?_set_ne hj] at e
      obtain ⟨v, e1, s⟩ := R.slot j x e
      refine ⟨v, by rw [List.getElem?_set_ne hj]; exact e1, ?_⟩
      unfold sto
      rw [if_neg (fun z => hj z.symm)]
      cases x with
      | none => exact s
      | some x =>
        cases x with
        | d y => exact s
        | lst x2 xs =>
          obtain ⟨b, o', e2, e3, n, b1, ho, r⟩ := s
          exact ⟨b, o', e2, e3, n, b1, by rw [upd_ne (ne j b e3)]; exact ho, r⟩
        | ins x2 C fs =>
          obtain ⟨b, o', e2, e3, n, b1, ho, r⟩ := s
          exact ⟨b, o', e2, e3, n, b1, by rw [upd_ne (ne j b e3)]; exact ho, r⟩
  · unfold sto at h1 h2
    by_cases hj : j = i
    · rw [if_pos hj] at h1
      cases h1
      by_cases hk : k = i
      · exact hj.trans hk.symm
      · rw [if_neg hk] at h2
        exact absurd rfl (ne k a h2)
    · rw [if_neg hj] at h1
      by_cases hk : k = i
      · rw [if_pos hk] at h2
        cases h2
        exact absurd rfl (ne j a h1)
      · rw [if_neg hk] at h2
        exact R.inj j k b h1 h2
  · unfold sto at h
    by_cases hj : j = i
    · rw [if_pos hj] at h
      cases h
      exact ⟨n0, nb, by rw [upd_same]; exact fun z => nomatch z⟩
    · rw [if_neg hj] at h
      obtain ⟨q1, q2, q3⟩ := R.own j b h
      exact ⟨q1, q2, by rw [upd_ne (ne j b h)]; exact q3⟩
/-- the slot's own thing -/
theorem RepS.ownAt (R : RepS K B0 B1 A H0 H σ ρ) {w : SV} {i : Nat} (e : ρ[i]? = some (some w)) (hw : ∀ x, w ≠ .d x) : ∃ a o, σ[i]? = some (some (.ref a)) ∧ A i = some a ∧ H0 a = none ∧ B1 a = none ∧ H a = some o ∧ OwnRep K H0 a w o := by
  obtain ⟨v, e1, s⟩ := R.slot i _ e
  cases w with
  | d x => exact absurd rfl (hw x)
  | lst x2 xs =>
    obtain ⟨a, o, e2, e3, n, b1, ho, r⟩ := s
    subst e2
    exact ⟨a, o, e1, e3, n, b1, ho, r⟩
  | ins x2 C fs =>
    obtain ⟨a, o, e2, e3, n, b1, ho, r⟩ := s
    subst e2
    exact ⟨a, o, e1, e3, n, b1, ho, r⟩
/-- .. changed -/
theorem RepS.updOwn (R : RepS K B0 B1 A H0 H σ ρ) {w : SV} {i : Nat} {a : Addr} {o : HO} (hi : i < ρ.length) (hs : σ[i]? = some (some (.ref a))) (ha : A i = some a) (hw : OwnRep K H0 a w o) : RepS K B0 B1 A H0 (upd H a o) σ (ρ.set i (some w)) := by
  obtain ⟨n0, nb, nh⟩ := R.own i a ha
  refine ⟨same_updR R.ex n0, ⟨R.gr.g0, same_updR R.gr.g1 nb, same_updR R.ex n0, R.gr.nw⟩, by rw [List.length_set]; exact R.len, fun j x e => ?_, R.inj, fun j b h => ?_⟩
  · by_cases hj : i = j
    · subst hj
      rw [List.getElem?_set_self hi] at e
      cases e
      refine ⟨_, hs, ?_⟩
      cases w with
      | d x => exact hw.elim
      | lst x2 xs => exact ⟨a, o, rfl, ha, n0, nb, upd_same, hw⟩
      | ins x C fs => exact ⟨a, o, rfl, ha, n0, nb, upd_same, hw⟩
    · rw [List.getElem?_set_ne hj] at e
      obtain ⟨v, e1, s⟩ := R.slot j x e
      have ne : ∀ b, A j = some b → b ≠ a := fun b h z => by
        subst z
        exact hj (R.inj i j b ha h)
      refine ⟨v, e1, ?_⟩
      cases x with
      | none => exact s
      | some x =>
        cases x with
        | d y => exact s
        | lst x2 xs =>
          obtain ⟨b, o', e2, e3, n, b1, ho, r⟩ := s
          exact ⟨b, o', e2, e3, n, b1, by rw [upd_ne (ne b e3)]; exact ho, r⟩
        | ins x2 C fs =>
          obtain ⟨b, o', e2, e3, n, b1, ho, r⟩ := s
          exact ⟨b, o', e2, e3, n, b1, by rw [upd_ne (ne b e3)]; exact ho, r⟩
  · obtain ⟨q1, q2, q3⟩ := R.own j b h
    refine ⟨q1, q2, ?_⟩
    by_cases hb : b = a
    · subst hb
      rw [upd_same]
      exact fun z => nomatch z
    · rw [upd_ne hb]
      exact q3
/-- what an own thing is once it is let go -/
def SV.toD : SV → D
  | .d x => x
  | .lst _ xs => .lst xs
  | .ins _ C fs => .ins C fs
theorem OwnRep.toD {w : SV} {o : HO} {a : Addr} (h : H0 a = none) (ho : OwnRep K H0 a w o) : Rep K (upd H0 a o) w.toD (.ref a) := by
  cases w with
  | d x => exact ho.elim
  | lst x2 xs =>
    obtain ⟨_, vs, rfl, r⟩ := ho
    exact ⟨a, vs, rfl, .inl (.inl upd_same), Reps.mono (same_upd h) _ _ r⟩
  | ins x C fs =>
    obtain ⟨_, dx, fvs, rfl, r⟩ := ho
    exact ⟨a, dx, fvs, rfl, upd_same, Repf.mono (same_upd h) _ _ r⟩
/-- the own thing of a slot let go: it is data from now on -/
theorem RepS.freeze (R : RepS K B0 B1 A H0 H σ ρ) {w : SV} {i : Nat} (e : ρ[i]? = some (some w)) (hw : ∀ x, w ≠ .d x) : ∃ a o, σ[i]? = some (some (.ref a)) ∧ H a = some o ∧ H0 a = none ∧ B1 a = none ∧ Rep K (upd H0 a o) w.toD (.ref a) ∧
    RepS K B0 B1 (clr A i) (upd H0 a o) H σ (ρ.set i (some (.d w.toD))) := by
  obtain ⟨a, o, hs, ha, n0, nb, ho, hr⟩ := R.ownAt e hw
  have hi : i < ρ.length := (List.getElem?_eq_some_iff.mp e).1
  have rep := OwnRep.toD n0 hr
  have ex : Same (upd H0 a o) H := fun b x q => by
    by_cases hb : b = a
    · subst hb
      rw [upd_same] at q
      cases q
      exact ho
    · rw [upd_ne hb] at q
      exact R.ex b x q
  have ne : ∀ j b, j ≠ i → A j = some b → b ≠ a := fun j b hj h z => by
    subst z
    exact hj (R.inj j i b h ha)
  refine ⟨a, o, hs, ho, n0, nb, rep, ex, ⟨R.gr.g0.trans (same_upd n0), R.gr.g1, ex, fun p hp => ?_⟩, by rw [List.length_set]; exact R.len, fun j x q => ?_, fun j k b h1 h2 => R.inj j k b (clr_some h1).2 (clr_some h2).2, fun j b h => ?_⟩
  · by_cases hb : p = a
    · subst hb
      exact absurd nb hp
    · rw [upd_ne hb]
      exact R.gr.nw p hp
  · by_cases hj : i = j
    · subst hj
      rw [List.getElem?_set_self hi] at q
      cases q
      refine ⟨_, hs, ?_⟩
      exact ⟨by unfold clr; rw [if_pos rfl], _, rfl, rep⟩
    · rw [List.getElem?_set_ne hj] at q
      obtain ⟨v, e1, s⟩ := R.slot j x q
      refine ⟨v, e1, ?_⟩
      unfold clr
      rw [if_neg (fun z => hj z.symm)]
      cases x with
      | none => exact s
      | some x =>
        cases x with
        | d y =>
          obtain ⟨e2, u, e3, r⟩ := s
          exact ⟨e2, u, e3, Rep.mono (same_upd n0) _ _ r⟩
        | lst x2 xs =>
          obtain ⟨b, o', e2, e3, n, b1, ho', r⟩ := s
          exact ⟨b, o', e2, e3, by rw [upd_ne (ne j b (fun z => hj z.symm) e3)]; exact n, b1, ho', r.mono (same_upd n0)⟩
        | ins x2 C fs =>
          obtain ⟨b, o', e2, e3, n, b1, ho', r⟩ := s
          exact ⟨b, o', e2, e3, by rw [upd_ne (ne j b (fun z => hj z.symm) e3)]; exact n, b1, ho', r.mono (same_upd n0)⟩
  · obtain ⟨hj, h⟩ := clr_some h
    obtain ⟨q1, q2, q3⟩ := R.own j b h
    exact ⟨by rw [upd_ne (ne j b hj h)]; exact q1, q2, q3⟩
/-- a new ground at this very state -/
theorem RepS.rebase (R : RepS K B0 B1 A H0 H σ ρ) : ∃ B1', RepS K H0 B1' A H0 H σ ρ ∧ Same H0 B1' ∧ (∀ i a, A i = some a → B1' a = none) ∧ (∀ p, H p ≠ none → (∀ i, A i ≠ some p) → B1' p = H p) ∧
    ∀ H0' H', Grow H0 B1' H0' H' → Grow B0 B1 H0' H' := by
  classical
  refine ⟨fun p => if ∃ i, A i = some p then none else H p, ?_, ?_, ?_, ?_, ?_⟩
  · have h0 : Same (fun p => if ∃ i, A i = some p then none else H p) H := fun b x e => by
      have e : (if ∃ i, A i = some b then none else H b) = some x := e
      by_cases hb : ∃ i, A i = some b
      · rw [if_pos hb] at e
        cases e
      · rw [if_neg hb] at e
        exact e
    refine ⟨R.ex, ⟨.refl _, h0, R.ex, fun _ _ => rfl⟩, R.len, fun i w e => ?_, R.inj, fun i a h => ?_⟩
    · obtain ⟨v, e1, s⟩ := R.slot i w e
      refine ⟨v, e1, ?_⟩
      cases w with
      | none => exact s
      | some w =>
        cases w with
        | d y => exact s
        | lst x2 xs =>
          obtain ⟨b, o', e2, e3, n, b1, ho', r⟩ := s
          exact ⟨b, o', e2, e3, n, if_pos ⟨i, e3⟩, ho', r⟩
        | ins x2 C fs =>
          obtain ⟨b, o', e2, e3, n, b1, ho', r⟩ := s
          exact ⟨b, o', e2, e3, n, if_pos ⟨i, e3⟩, ho', r⟩
    · obtain ⟨q1, q2, q3⟩ := R.own i a h
      exact ⟨q1, if_pos ⟨i, h⟩, q3⟩
  · intro b x e
    show (if ∃ i, A i = some b then none else H b) = some x
    rw [if_neg (fun ⟨i, hi⟩ => by rw [(R.own i b hi).1] at e; cases e)]
    exact R.ex b x e
  · intro i a h
    exact if_pos ⟨i, h⟩
  · intro p _ h
    exact if_neg fun ⟨i, hi⟩ => h i hi
  · intro H0' H' g
    have hB : Same B1 (fun p => if ∃ i, A i = some p then none else H p) := fun b x e => by
      show (if ∃ i, A i = some b then none else H b) = some x
      rw [if_neg (fun ⟨i, hi⟩ => by rw [(R.own i b hi).2.1] at e; cases e)]
      exact R.gr.g1 b x e
    exact ⟨R.gr.g0.trans g.g0, hB.trans g.g1, g.g2, fun p hp => (g.nw p (ne_none_of hB hp)).trans (R.gr.nw p hp)⟩
theorem RepS.unbase {B1' : Hp} {A' : Nat → Option Addr} {σ' : L2.St} {ρ' : Rho} (hB : ∀ H0' H', Grow H0 B1' H0' H' → Grow B0 B1 H0' H') (hb : ∀ p, B1' p = none → B1 p = none) (R : RepS K H0 B1' A' H0' H' σ' ρ') : RepS K B0 B1 A' H0' H' σ' ρ' :=
  ⟨R.ex, hB _ _ R.gr, R.len, fun i w e => by
    obtain ⟨v, e1, s⟩ := R.slot i w e
    refine ⟨v, e1, ?_⟩
    cases w with
    | none => exact s
    | some w =>
      cases w with
      | d y => exact s
      | lst x2 xs =>
        obtain ⟨b, o', e2, e3, n, b1, ho', r⟩ := s
        exact ⟨b, o', e2, e3, n, hb _ b1, ho', r⟩
      | ins C fs =>
        obtain ⟨b, o', e2, e3, n, b1, ho', r⟩ := s
        exact ⟨b, o', e2, e3, n, hb _ b1, ho', r⟩, R.inj, fun i a h => by
    obtain ⟨q1, q2, q3⟩ := R.own i a h
    exact ⟨q1, hb _ q2, q3⟩⟩
theorem same_back {B B' : Hp} (e : Same B B') {p : Addr} (h : B' p = none) : B p = none := e.free h
end
end DL

namespace DL
open PySem PySem.Spec PyProof.Rows L2

/-! ### readings over data -/
/-- an error: its class, its fields -/
abbrev DX := Addr × List (Str × D)
abbrev DE := Rho → (D → Prop) → Prop
abbrev DT := Rho → (Bool → Prop) → Prop
abbrev DA := Rho → (List D → Prop) → Prop
structure DEnds where
  nx : Rho → Prop
  rt : D → Rho → Prop
  bk : Rho → Prop := fun _ => False
  ct : Rho → Prop := fun _ => False
abbrev DS := DEnds → Rho → Prop
/-- what is wanted of errors, over data and over the heap -/
def ExRel (K : PySem.W.Frag) (B0 B1 : Hp) (Ed : DX → Prop) (E : XK) : Prop :=
  ∀ (C : Addr) (fs : List (Str × D)) (fvs : List (Str × V)) (dx : Addr) (H0' H' : Hp), Grow B0 B1 H0' H' → H' dx = some (.xd fvs) → Repf K H0' fs fvs → Ed (C, fs) → E (.ref C) (some dx) H'
theorem ExRel.grow {K : PySem.W.Frag} {B0 B1 C0 C1 : Hp} {Ed : DX → Prop} {E : XK} (h : ExRel K B0 B1 Ed E) (g : ∀ H0' H', Grow C0 C1 H0' H' → Grow B0 B1 H0' H') : ExRel K C0 C1 Ed E :=
  fun C fs fvs dx H0' H' q => h C fs fvs dx H0' H' (g _ _ q)
theorem ExRel.none {K : PySem.W.Frag} {B0 B1 : Hp} {E : XK} : ExRel K B0 B1 (fun _ => False) E := fun _ _ _ _ _ _ _ _ _ h => h.elim

structure EndsRel (K : PySem.W.Frag) (B0 B1 : Hp) (d : DEnds) (e : Ends) : Prop where
  nx : ∀ A H0 H σ ρ, RepS K B0 B1 A H0 H σ ρ → d.nx ρ → e.nx σ H
  rt : ∀ A H0 H σ ρ x v, RepS K B0 B1 A H0 H σ ρ → Rep K H0 x v → d.rt x ρ → e.rt v H
  bk : ∀ A H0 H σ ρ, RepS K B0 B1 A H0 H σ ρ → d.bk ρ → e.bk σ H
  ct : ∀ A H0 H σ ρ, RepS K B0 B1 A H0 H σ ρ → d.ct ρ → e.ct σ H

section
variable (K : PySem.W.Frag) (Ed : DX → Prop) (E : XK)
def SimE (te : TE) (de : DE) : Prop := ∀ B0 B1 A H0 H σ ρ, RepS K B0 B1 A H0 H σ ρ → ExRel K B0 B1 Ed E → ∀ Qd : D → Prop, de ρ Qd → ∀ Q : VK,
  (∀ x v H0' H', RepS K B0 B1 A H0' H' σ ρ → Grow H0 H H0' H' → Rep K H0' x v → Qd x → Q v H') → te σ H Q
def SimT (te : TT) (de : DT) : Prop := ∀ B0 B1 A H0 H σ ρ, RepS K B0 B1 A H0 H σ ρ → ExRel K B0 B1 Ed E → ∀ Qd : Bool → Prop, de ρ Qd → ∀ Q : Bool → Hp → Prop,
  (∀ x H0' H', RepS K B0 B1 A H0' H' σ ρ → Grow H0 H H0' H' → Qd x → Q x H') → te σ H Q
def SimA (te : TA) (de : DA) : Prop := ∀ B0 B1 A H0 H σ ρ, RepS K B0 B1 A H0 H σ ρ → ExRel K B0 B1 Ed E → ∀ Qd : List D → Prop, de ρ Qd → ∀ Q : List V → Hp → Prop,
  (∀ x v H0' H', RepS K B0 B1 A H0' H' σ ρ → Grow H0 H H0' H' → Reps K H0' x v → Qd x → Q v H') → te σ H Q
def SimS (ts : TS) (ds : DS) : Prop := ∀ B0 B1 A H0 H σ ρ, RepS K B0 B1 A H0 H σ ρ → ExRel K B0 B1 Ed E → ∀ (d : DEnds) (e : Ends), EndsRel K B0 B1 d e → ds d ρ → ts e σ H
end
/-- operations on values -/
def SimR2 (K : PySem.W.Frag) (r : R2) (rd : D → D → (D → Prop) → Prop) : Prop := ∀ (H0 H : Hp) (x y : V) (dx dy : D), Same H0 H → Rep K H0 dx x → Rep K H0 dy y → ∀ Qd : D → Prop, rd dx dy Qd → ∀ Q : VK,
  (∀ z v H0' H', Grow H0 H H0' H' → Rep K H0' z v → Qd z → Q v H') → r x y H Q
def SimR1 (K : PySem.W.Frag) (r : V → Hp → VK → Prop) (rd : D → (D → Prop) → Prop) : Prop := ∀ (H0 H : Hp) (x : V) (dx : D), Same H0 H → Rep K H0 dx x → ∀ Qd : D → Prop, rd dx Qd → ∀ Q : VK,
  (∀ z v H0' H', Grow H0 H H0' H' → Rep K H0' z v → Qd z → Q v H') → r x H Q
def SimRC (K : PySem.W.Frag) (r : List V → Hp → VK → Prop) (rd : List D → (D → Prop) → Prop) : Prop := ∀ (H0 H : Hp) (xs : List V) (ds : List D), Same H0 H → Reps K H0 ds xs → ∀ Qd : D → Prop, rd ds Qd → ∀ Q : VK,
  (∀ z v H0' H', Grow H0 H H0' H' → Rep K H0' z v → Qd z → Q v H') → r xs H Q
def SimRM (K : PySem.W.Frag) (r : V → List V → Hp → VK → Prop) (rd : D → List D → (D → Prop) → Prop) : Prop := ∀ (H0 H : Hp) (x : V) (xs : List V) (d : D) (ds : List D), Same H0 H → Rep K H0 d x → Reps K H0 ds xs → ∀ Qd : D → Prop, rd d ds Qd → ∀ Q : VK,
  (∀ z v H0' H', Grow H0 H H0' H' → Rep K H0' z v → Qd z → Q v H') → r x xs H Q

/-- a syntax, its reading over the heap, its reading over data -/
structure JE (X : Cx) (Ed : DX → Prop) (E : XK) (e : Expr) (te : TE) (de : DE) : Prop where
  pe : PE X e te
  sim : SimE X.K Ed E te de
structure JT (X : Cx) (Ed : DX → Prop) (E : XK) (e : Expr) (te : TT) (de : DT) : Prop where
  pe : PT X e te
  sim : SimT X.K Ed E te de
structure JW (X : Cx) (Ed : DX → Prop) (E : XK) (e : Expr) (te : TT) (de : DT) : Prop where
  pe : PW X e te
  sim : SimT X.K Ed E te de
structure JA (X : Cx) (Ed : DX → Prop) (E : XK) (e : List Expr) (te : TA) (de : DA) : Prop where
  pe : PA X e te
  sim : SimA X.K Ed E te de
structure JS (X : Cx) (Ed : DX → Prop) (E : XK) (st : Stmt) (ts : TS) (ds : DS) : Prop where
  pe : PS X st ts
  sim : SimS X.K Ed E ts ds
structure JB (X : Cx) (Ed : DX → Prop) (E : XK) (st : List Stmt) (ts : TS) (ds : DS) : Prop where
  pe : PSs X st ts
  sim : SimS X.K Ed E ts ds

/-! ### names, constants -/
def lk : Nat → Rho → Option SV
  | _, [] => none
  | 0, a :: _ => a
  | n + 1, _ :: r => lk n r
theorem lk_some : ∀ {i : Nat} {ρ : Rho} {w : SV}, lk i ρ = some w → ρ[i]? = some (some w)
  | 0, [], _, h => nomatch (show none = some _ from h)
  | _ + 1, [], _, h => nomatch (show none = some _ from h)
  | 0, a :: _, w, h => by
    show some a = _
    exact congrArg some h
  | n + 1, _ :: r, w, h => by simpa using lk_some (i := n) (ρ := r) h
def dVar (i : Nat) (ρ : Rho) (Q : D → Prop) : Prop := match lk i ρ with
  | some (.d x) => Q x
  | _ => False
def dC (x : D) (_ : Rho) (Q : D → Prop) : Prop := Q x

section
variable {X : Cx} {Ed : DX → Prop} {E : XK} {K : PySem.W.Frag} {pos : Pos} {e a b c : Expr} {te ta tb : TE} {de da db : DE} {tt tu : TT} {dt du : DT} {tal : TA} {dal : DA} {es : List Expr}

theorem sim_var {i : Nat} : SimE K Ed E (tVar i) (dVar i) := by
  intro B0 B1 A H0 H σ ρ R X Qd h Q q
  unfold dVar at h
  split at h
  · rename_i x e
    obtain ⟨v, e1, _, u, e2, r⟩ := R.slot i _ (lk_some e)
    subst e2
    exact ⟨u, e1, q x u H0 H R (.refl R.ex) r h⟩
  · exact h.elim
theorem sim_c {x : D} {v : V} (h : ∀ H, Rep K H x v) : SimE K Ed E (tC v) (dC x) := fun B0 B1 A H0 H σ ρ R _ Qd hd Q q => q x v H0 H R (.refl R.ex) (h H0) hd
theorem e_var (i : Nat) {x : Str} (hN : X.N[i]? = some x := by rfl) (hv : Vis X.env.scope x := by first | exact Or.inl rfl | exact Or.inr (Or.inl rfl) | exact Or.inr (Or.inr rfl)) (hd : (x == ("__debug__" : Str)) = false := by decide)
    (hcd : (x == ("__classdict__" : Str)) = false := by decide) : JE X Ed E (.Name x pos) (tVar i) (dVar i) := ⟨pe_var hN hv hd hcd, sim_var⟩
theorem e_int {i j} : JE X Ed E (.Constant (.int i) j pos) (tC (.int i)) (dC (.int i)) := ⟨pe_int, sim_c fun _ => rfl⟩
theorem e_bl {b j} : JE X Ed E (.Constant (.bool b) j pos) (tC (.bl b)) (dC (.bl b)) := ⟨pe_bl, sim_c fun _ => rfl⟩
theorem e_non {j} : JE X Ed E (.Constant .none j pos) (tC .non) (dC .non) := ⟨pe_non, sim_c fun _ => rfl⟩
theorem e_str {x j} : JE X Ed E (.Constant (.str x) j pos) (tC (.str x)) (dC (.str x)) := ⟨pe_str, sim_c fun _ => rfl⟩
/-- a module's name: a constant, a class -/
theorem e_glob {x : Str} {v : V} {u : Value} {d : D} (hg : Gl X x) (hm : X.mg x = some u) (r : RelV v u) (hr : ∀ H, Rep X.K H d v) (hd : (x == ("__debug__" : Str)) = false := by decide) : JE X Ed E (.Name x pos) (tC v) (dC d) := ⟨pe_glob hg hm r hd, sim_c hr⟩
theorem e_bltn {x : Str} {v : V} {u : Value} {d : D} (hg : Gl X x) (hm : X.mg x = none) (hv : bootBuiltins x = some u) (r : RelV v u) (hr : ∀ H, Rep X.K H d v) (hn : x ≠ "__name__" := by decide) (hd : (x == ("__debug__" : Str)) = false := by decide) : JE X Ed E (.Name x pos) (tC v) (dC d) := ⟨pe_bltn hg hm hv r hn hd, sim_c hr⟩

/-! ### operators -/
def dOp (r : D → D → (D → Prop) → Prop) (da db : DE) (ρ : Rho) (Q : D → Prop) : Prop := da ρ fun x => db ρ fun y => r x y Q
def dUn (r : D → (D → Prop) → Prop) (da : DE) (ρ : Rho) (Q : D → Prop) : Prop := da ρ fun x => r x Q
theorem sim_op {r : R2} {rd : D → D → (D → Prop) → Prop} (sr : SimR2 K r rd) (ha : SimE K Ed E ta da) (hb : SimE K Ed E tb db) : SimE K Ed E (tOp r ta tb) (dOp rd da db) := fun B0 B1 A H0 H σ ρ R X Qd h Q q =>
  ha B0 B1 A H0 H σ ρ R X _ h _ fun x v H1 H' R1 g1 r1 h1 => hb B0 B1 A H1 H' σ ρ R1 X _ h1 _ fun y u H2 H'' R2 g2 r2 h2 =>
    sr H2 H'' v u x y R2.ex (Rep.mono g2.g0 _ _ r1) r2 Qd h2 Q fun z w H3 H''' g3 r3 h3 => q z w H3 H''' (R2.grow g3) ((g1.trans g2).trans g3) r3 h3
theorem sim_un {r : V → Hp → VK → Prop} {rd : D → (D → Prop) → Prop} (sr : SimR1 K r rd) (ha : SimE K Ed E ta da) : SimE K Ed E (tUn r ta) (dUn rd da) := fun B0 B1 A H0 H σ ρ R X Qd h Q q =>
  ha B0 B1 A H0 H σ ρ R X _ h _ fun x v H1 H' R1 g1 r1 h1 => sr H1 H' v x R1.ex r1 Qd h1 Q fun z w H3 H''' g3 r3 h3 => q z w H3 H''' (R1.grow g3) (g1.trans g3) r3 h3
theorem e_op {op : Operator} {r : R2} {rd : D → D → (D → Prop) → Prop} (ho : OpR X (binaryOp op) r) (sr : SimR2 X.K r rd) (ha : JE X Ed E a ta da) (hb : JE X Ed E b tb db) : JE X Ed E (.BinOp a op b pos) (tOp r ta tb) (dOp rd da db) :=
  ⟨pe_op ho ha.pe hb.pe, sim_op sr ha.sim hb.sim⟩
theorem e_un {op : UnaryOp} {r : V → Hp → VK → Prop} {rd : D → (D → Prop) → Prop} (ho : UnR X (unaryOp op) r) (sr : SimR1 X.K r rd) (ha : JE X Ed E a ta da) : JE X Ed E (.UnaryOp op a pos) (tUn r ta) (dUn rd da) :=
  ⟨pe_un ho ha.pe, sim_un sr ha.sim⟩
theorem e_cmp {op : CmpOp} {r : R2} {rd : D → D → (D → Prop) → Prop} (ho : OpR X (compareOp op) r) (sr : SimR2 X.K r rd) (ha : JE X Ed E a ta da) (hb : JE X Ed E b tb db) (hm : behindInMarks op b = false) : JE X Ed E (.Compare a [op] [b] pos) (tOp r ta tb) (dOp rd da db) :=
  ⟨pe_cmpR ho ha.pe hb.pe hm, sim_op sr ha.sim hb.sim⟩
/-- a < b < c -/
def dChain (r r' : D → D → (D → Prop) → Prop) (da db dc : DE) (ρ : Rho) (Q : D → Prop) : Prop := da ρ fun x => db ρ fun y => r x y fun z => match z with
  | .bl true => dc ρ fun u => r' y u Q
  | .bl false => Q (.bl false)
  | _ => False

/-! ### int operations -/
def dI2 (C : Int → Int → Prop) (g : Int → Int → D) (x y : D) (Q : D → Prop) : Prop := match x, y with
  | .int i, .int j => C i j ∧ Q (g i j)
  | _, _ => False
def dI0 (g : Int → Int → D) (x y : D) (Q : D → Prop) : Prop := match x, y with
  | .int i, .int j => Q (g i j)
  | _, _ => False
def dI1 (g : Int → D) (x : D) (Q : D → Prop) : Prop := match x with
  | .int i => Q (g i)
  | _ => False
theorem s_I {C : Int → Int → Prop} {g : Int → Int → V} {gd : Int → Int → D} (hg : ∀ H i j, Rep K H (gd i j) (g i j)) : SimR2 K (rI C g) (dI2 C gd) := by
  intro H0 H x y dx dy sm rx ry Qd h Q q
  unfold dI2 at h
  split at h
  · rename_i i j
    exact ⟨i, j, rx, ry, h.1, q _ _ H0 H (.refl sm) (hg _ _ _) h.2⟩
  · exact h.elim
theorem s_I0 {g : Int → Int → V} {gd : Int → Int → D} (hg : ∀ H i j, Rep K H (gd i j) (g i j)) : SimR2 K (rI0 g) (dI0 gd) := by
  intro H0 H x y dx dy sm rx ry Qd h Q q
  unfold dI0 at h
  split at h
  · rename_i i j
    exact ⟨i, j, rx, ry, q _ _ H0 H (.refl sm) (hg _ _ _) h⟩
  · exact h.elim
theorem s_U {g : Int → V} {gd : Int → D} (hg : ∀ H i, Rep K H (gd i) (g i)) : SimR1 K (rU g) (dI1 gd) := by
  intro H0 H x dx sm rx Qd h Q q
  unfold dI1 at h
  split at h
  · rename_i i
    exact ⟨i, rx, q _ _ H0 H (.refl sm) (hg _ _) h⟩
  · exact h.elim
theorem s_int {g : Int → Int → Int} (H : Hp) (i j : Int) : Rep K H (.int (g i j)) (.int (g i j)) := rfl
theorem s_bl {g : Int → Int → Bool} (H : Hp) (i j : Int) : Rep K H (.bl (g i j)) (.bl (g i j)) := rfl
/-- + of ints, of texts, of lists -/
def dAdd (x y : D) (Q : D → Prop) : Prop := match x, y with
  | .int i, .int j => Q (.int (i + j))
  | .str i, .str j => i.length + j.length ≤ sizeLine ∧ Q (.str (i ++ j))
  | _, _ => False
abbrev dSub := dI0 fun i j => .int (i - j)
abbrev dMul := dI2 CMul fun i j => .int (i * j)
abbrev dDiv := dI2 CDiv fun i j => .int (i / j)
abbrev dDivW := dI2 CDivW fun i j => .int (i / j)
abbrev dMod := dI2 (fun _ j => 0 < j) fun i j => .int (i % j)
abbrev dPow := dI2 CPow fun i j => .int (i ^ j.toNat)
abbrev dLt := dI0 fun i j => .bl (decide (i < j))
abbrev dLe := dI0 fun i j => .bl (decide (i ≤ j))
abbrev dGt := dI0 fun i j => .bl (decide (j < i))
abbrev dGe := dI0 fun i j => .bl (decide (j ≤ i))
abbrev dNeg := dI1 fun i => .int (-i)
def rAddP : R2 := fun x y H Q => (rI0 (fun i j => .int (i + j)) x y H Q) ∨ (∃ i j, x = .str i ∧ y = .str j ∧ i.length + j.length ≤ sizeLine ∧ Q (.str (i ++ j)) H)
theorem op_addP : OpR X (binaryOp .Add) rAddP := op_add.or op_add_str
theorem s_addP : SimR2 K rAddP dAdd := by
  intro H0 H x y dx dy sm rx ry Qd h Q q
  unfold dAdd at h
  split at h
  · rename_i i j
    exact .inl ⟨i, j, rx, ry, q (.int (i + j)) _ H0 H (.refl sm) rfl h⟩
  · rename_i i j
    exact .inr ⟨i, j, rx, ry, h.1, q (.str (i ++ j)) _ H0 H (.refl sm) rfl h.2⟩
  · exact h.elim
theorem e_add (ha : JE X Ed E a ta da) (hb : JE X Ed E b tb db) : JE X Ed E (.BinOp a .Add b pos) (tOp rAddP ta tb) (dOp dAdd da db) := e_op op_addP s_addP ha hb
theorem e_sub (ha : JE X Ed E a ta da) (hb : JE X Ed E b tb db) : JE X Ed E (.BinOp a .Sub b pos) (tOp (rI0 fun i j => .int (i - j)) ta tb) (dOp dSub da db) := e_op op_sub (s_I0 fun _ _ _ => rfl) ha hb
theorem e_mul (ha : JE X Ed E a ta da) (hb : JE X Ed E b tb db) : JE X Ed E (.BinOp a .Mult b pos) (tOp (rI CMul fun i j => .int (i * j)) ta tb) (dOp dMul da db) := e_op op_mul (s_I fun _ _ _ => rfl) ha hb
theorem e_div (ha : JE X Ed E a ta da) (hb : JE X Ed E b tb db) : JE X Ed E (.BinOp a .FloorDiv b pos) (tOp (rI CDivW fun i j => .int (i / j)) ta tb) (dOp dDivW da db) := e_op op_fdivW (s_I fun _ _ _ => rfl) ha hb
theorem e_mod (ha : JE X Ed E a ta da) (hb : JE X Ed E b tb db) : JE X Ed E (.BinOp a .Mod b pos) (tOp (rI (fun _ j => 0 < j) fun i j => .int (i % j)) ta tb) (dOp dMod da db) := e_op op_mod (s_I fun _ _ _ => rfl) ha hb
theorem e_pow (ha : JE X Ed E a ta da) (hb : JE X Ed E b tb db) : JE X Ed E (.BinOp a .Pow b pos) (tOp (rI CPow fun i j => .int (i ^ j.toNat)) ta tb) (dOp dPow da db) := e_op op_pow (s_I fun _ _ _ => rfl) ha hb
theorem e_neg (ha : JE X Ed E a ta da) : JE X Ed E (.UnaryOp .USub a pos) (tUn (rU fun i => .int (-i)) ta) (dUn dNeg da) := e_un un_neg (s_U fun _ _ => rfl) ha
theorem e_lt (ha : JE X Ed E a ta da) (hb : JE X Ed E b tb db) : JE X Ed E (.Compare a [.Lt] [b] pos) (tOp (rI0 fun i j => .bl (decide (i < j))) ta tb) (dOp dLt da db) := e_cmp op_lt (s_I0 fun _ _ _ => rfl) ha hb (nomark _)
theorem e_le (ha : JE X Ed E a ta da) (hb : JE X Ed E b tb db) : JE X Ed E (.Compare a [.LtE] [b] pos) (tOp (rI0 fun i j => .bl (decide (i ≤ j))) ta tb) (dOp dLe da db) := e_cmp op_le (s_I0 fun _ _ _ => rfl) ha hb (nomark _)
theorem e_gt (ha : JE X Ed E a ta da) (hb : JE X Ed E b tb db) : JE X Ed E (.Compare a [.Gt] [b] pos) (tOp (rI0 fun i j => .bl (decide (j < i))) ta tb) (dOp dGt da db) := e_cmp op_gt (s_I0 fun _ _ _ => rfl) ha hb (nomark _)
theorem e_ge (ha : JE X Ed E a ta da) (hb : JE X Ed E b tb db) : JE X Ed E (.Compare a [.GtE] [b] pos) (tOp (rI0 fun i j => .bl (decide (j ≤ i))) ta tb) (dOp dGe da db) := e_cmp op_ge (s_I0 fun _ _ _ => rfl) ha hb (nomark _)

/-! ### == of data -/
mutual
/-- None, bools, ints, texts, lists, tuples of these, at most n deep -/
def D.isData : Nat → D → Bool
  | _, .non => true
  | _, .bl _ => true
  | _, .int _ => true
  | _, .str _ => true
  | n + 1, .tup xs => allData n xs
  | n + 1, .lst xs => allData n xs
  | _, _ => false
def allData : Nat → List D → Bool
  | _, [] => true
  | n, x :: xs => x.isData n && allData n xs
end
def b2z (b : Bool) : Int := if b then 1 else 0
mutual
def deq : D → D → Bool
  | .non, .non => true
  | .bl a, .bl b => a == b
  | .bl a, .int j => b2z a == j
  | .int i, .bl b => i == b2z b
  | .int i, .int j => i == j
  | .str x, .str y => x == y
  | .tup xs, .tup ys => deqs xs ys
  | .lst xs, .lst ys => deqs xs ys
  | _, _ => false
def deqs : List D → List D → Bool
  | [], [] => true
  | x :: xs, y :: ys => deq x y && deqs xs ys
  | _, _ => false
end
def deqAt (xs ys : List D) (j : Nat) : Bool := match xs[j]?, ys[j]? with
  | some a, some b => deq a b
  | _, _ => true
theorem deqs_pairs : ∀ xs ys : List D, ((List.range (min xs.length ys.length)).all (deqAt xs ys) && xs.length == ys.length) = deqs xs ys
  | [], [] => by simp [deqs]
  | [], _ :: _ => by simp [deqs]
  | _ :: _, [] => by simp [deqs]
  | x :: xs, y :: ys => by
    have ih := deqs_pairs xs ys
    rw [List.length_cons, List.length_cons, Nat.add_min_add_right, List.range_succ_eq_map, List.all_cons, List.all_map]
    have e : (deqAt (x :: xs) (y :: ys) ∘ Nat.succ) = deqAt xs ys := by
      funext j
      simp [deqAt]
    have e2 : (xs.length + 1 == ys.length + 1) = (xs.length == ys.length) := by simp
    rw [e, e2, Bool.and_assoc, ih]
    simp [deqAt, deqs]
theorem deqs_len {xs ys : List D} (h : xs.length = ys.length) : (List.range xs.length).all (deqAt xs ys) = deqs xs ys := by
  have e := deqs_pairs xs ys
  rw [h, Nat.min_self] at e
  rw [h]
  simpa using e
theorem deqs_other {xs ys : List D} (h : xs.length ≠ ys.length) : deqs xs ys = false := by
  rw [← deqs_pairs]
  simp [h]
mutual
theorem deq_refl : ∀ (n : Nat) (x : D), x.isData n = true → deq x x = true
  | _, .non, _ => rfl
  | _, .bl b, _ => by simp [deq]
  | _, .int _, _ => by simp [deq]
  | _, .str _, _ => by simp [deq]
  | n + 1, .tup xs, h => deqs_refl n xs h
  | n + 1, .lst xs, h => deqs_refl n xs h
  | 0, .tup xs, h => by simp [D.isData] at h
  | 0, .lst xs, h => by simp [D.isData] at h
  | n, .ty _, h => by simp [D.isData] at h
  | n, .cls _, h => by simp [D.isData] at h
  | n, .ins _ _, h => by simp [D.isData] at h
  | n, .bag, h => by simp [D.isData] at h
  | n, .lat _ _, h => by simp [D.isData] at h
theorem deqs_refl : ∀ (n : Nat) (xs : List D), allData n xs = true → deqs xs xs = true
  | _, [], _ => rfl
  | n, x :: xs, h => by
    obtain ⟨h1, h2⟩ := Bool.and_eq_true_iff.mp (show (x.isData n && allData n xs) = true from h)
    show (deq x x && deqs xs xs) = true
    rw [deq_refl n x h1, deqs_refl n xs h2]
    rfl
end
end

section
variable {X : Cx} {pins : List (Addr × Obj)} {σ : L2.St} {H : Hp} {s : Shared}
theorem list_not_tuple {a : Addr} {xs ys : List V} (I : Inv X pins σ H s) (h : SqL X.K H a xs) (h' : SqT X.K H a ys) : False := by
  obtain ⟨its, r, ⟨o, n, e, hc, _, d⟩, _⟩ := I.list h
  obtain ⟨its', r', ⟨o', e', hc', _⟩, _⟩ := I.tuple h'
  rw [e] at e'
  cases e'
  rw [hc] at hc'
  simp at hc'
mutual
/-- a value stands for one datum -/
theorem Rep.inj (I : Inv X pins σ H s) : ∀ (n : Nat) (x y : D) (v : V), x.isData n = true → y.isData n = true → Rep X.K H x v → Rep X.K H y v → x = y
  | n, .non, y, v, hx, hy, rx, ry => by
    cases (show v = _ from rx)
    cases y <;> first | rfl | (simp [Rep] at ry) | (simp [D.isData] at hy)
  | n, .bl b, y, v, hx, hy, rx, ry => by
    cases (show v = _ from rx)
    cases y <;> first | (simp [Rep] at ry; subst ry; rfl) | (simp [Rep] at ry) | (simp [D.isData] at hy)
  | n, .int b, y, v, hx, hy, rx, ry => by
    cases (show v = _ from rx)
    cases y <;> first | (simp [Rep] at ry; subst ry; rfl) | (simp [Rep] at ry) | (simp [D.isData] at hy)
  | n, .str b, y, v, hx, hy, rx, ry => by
    cases (show v = _ from rx)
    cases y <;> first | (simp [Rep] at ry; subst ry; rfl) | (simp [Rep] at ry) | (simp [D.isData] at hy)
  | n + 1, .tup xs, y, v, hx, hy, ⟨a, vs, e1, h1, r1⟩, ry => by
    subst e1
    cases y with
    | tup ys =>
      obtain ⟨b, us, e2, h2, r2⟩ := ry
      cases e2
      have e := I.tuple_inj h1 h2
      subst e
      exact congrArg D.tup (Reps.inj I n xs ys vs hx hy r1 r2)
    | lst ys =>
      obtain ⟨b, us, e2, h2, r2⟩ := ry
      cases e2
      exact (list_not_tuple I h2 h1).elim
    | _ => first | (simp [Rep] at ry; done) | (simp [D.isData] at hy)
  | n + 1, .lst xs, y, v, hx, hy, ⟨a, vs, e1, h1, r1⟩, ry => by
    subst e1
    cases y with
    | lst ys =>
      obtain ⟨b, us, e2, h2, r2⟩ := ry
      cases e2
      have e := I.list_inj h1 h2
      subst e
      exact congrArg D.lst (Reps.inj I n xs ys vs hx hy r1 r2)
    | tup ys =>
      obtain ⟨b, us, e2, h2, r2⟩ := ry
      cases e2
      exact (list_not_tuple I h1 h2).elim
    | _ => first | (simp [Rep] at ry; done) | (simp [D.isData] at hy)
  | 0, .tup xs, _, _, h, _, _, _ => by simp [D.isData] at h
  | 0, .lst xs, _, _, h, _, _, _ => by simp [D.isData] at h
  | n, .ty _, _, _, h, _, _, _ => by simp [D.isData] at h
  | n, .cls _, _, _, h, _, _, _ => by simp [D.isData] at h
  | n, .ins _ _, _, _, h, _, _, _ => by simp [D.isData] at h
  | n, .bag, _, _, h, _, _, _ => by simp [D.isData] at h
  | n, .lat _ _, _, _, h, _, _, _ => by simp [D.isData] at h
theorem Reps.inj (I : Inv X pins σ H s) : ∀ (n : Nat) (xs ys : List D) (vs : List V), allData n xs = true → allData n ys = true → Reps X.K H xs vs → Reps X.K H ys vs → xs = ys
  | _, [], ys, vs, _, _, rx, ry => by
    cases (show vs = _ from rx)
    cases ys with
    | nil => rfl
    | cons y ys =>
      obtain ⟨v, r, e, _⟩ := ry
      cases e
  | n, x :: xs, ys, vs, hx, hy, ⟨v, r, e, r1, r2⟩, ry => by
    subst e
    cases ys with
    | nil => cases (show _ = _ from ry)
    | cons y ys =>
      obtain ⟨u, r', e, q1, q2⟩ := ry
      cases e
      obtain ⟨h1, h2⟩ := Bool.and_eq_true_iff.mp (show (x.isData n && allData n xs) = true from hx)
      obtain ⟨h3, h4⟩ := Bool.and_eq_true_iff.mp (show (y.isData n && allData n ys) = true from hy)
      rw [Rep.inj I n x y v h1 h3 r1 q1, Reps.inj I n xs ys r h2 h4 r2 q2]
end
end
end DL

namespace DL
open PySem PySem.Spec PyProof.Rows L2
section
variable {X : Cx} {pins : List (Addr × Obj)} {σ : L2.St} {H : Hp} {s : Shared}
theorem room_of {A : Around} {n : Nat} (h : A.units + n < cLine) : A.units < cLine := by omega
theorem room_in1 {A : Around} {n : Nat} (h : A.units + (n + 1) < cLine) : A.in1.units + n < cLine := by
  show A.units + 1 + n < cLine
  omega
mutual
theorem deq_at (I : Inv X pins σ H s) : ∀ (n : Nat) (x y : D) (a b : V) (u v : Value) (A : Around), x.isData n = true → y.isData n = true → Rep X.K H x a → Rep X.K H y b → RelV a u → RelV b v → A.units + n < cLine → SeqAt.EqAt A s u v (deq x y)
  | n, .tup xs, y, a, b, u, v, A, hx, hy, rx, ry, ra, rb, hu => by
    cases n with
    | zero => simp [D.isData] at hx
    | succ n =>
    obtain ⟨l, vs, e1, h1, r1⟩ := rx
    subst e1
    cases (show u = _ from ra)
    obtain ⟨its, w1, p1, z1⟩ := I.tuple h1
    have n1 : its.toArray.size = xs.length := by rw [← r1.length, w1.length]; simp
    cases y with
    | non => subst ry; cases rb; exact .tuple_none p1 (room_of hu)
    | bl k => subst ry; cases rb; exact .tuple_bool k p1 (room_of hu)
    | int k => subst ry; obtain ⟨t, rfl⟩ := rb; exact .tuple_int k t p1 (room_of hu)
    | str k => subst ry; obtain ⟨t, rfl⟩ := rb; exact .tuple_str k t p1 (room_of hu)
    | lst ys =>
      obtain ⟨l', us, e2, h2, r2⟩ := ry
      subst e2
      cases (show v = _ from rb)
      obtain ⟨jts, w2, p2, z2⟩ := I.list h2
      exact .tuple_list p1 p2.isList (room_of hu)
    | tup ys =>
      obtain ⟨l', us, e2, h2, r2⟩ := ry
      subst e2
      cases (show v = _ from rb)
      obtain ⟨jts, w2, p2, z2⟩ := I.tuple h2
      have n2 : jts.toArray.size = ys.length := by rw [← r2.length, w2.length]; simp
      by_cases hll : l = l'
      · subst hll
        have e := I.tuple_inj h1 h2
        subst e
        have e := Reps.inj I n xs ys vs hx hy r1 r2
        subst e
        rw [show deq (.tup xs) (.tup xs) = true from deq_refl (n + 1) (.tup xs) hx]
        exact .same _
      · show SeqAt.EqAt A s _ _ (deqs xs ys)
        rw [← deqs_pairs xs ys, ← n1, ← n2]
        refine .of_refs hll (.tuples p1 p2 (room_of hu) fun j j1 j2 => ?_)
        have q := deqs_at I n xs ys vs us its jts A.in1 hx hy r1 r2 w1 w2 (room_in1 hu) j (by simpa using j1) (by simpa using j2)
        simpa using q
    | _ => simp [D.isData] at hy
  | n, .lst xs, y, a, b, u, v, A, hx, hy, rx, ry, ra, rb, hu => by
    cases n with
    | zero => simp [D.isData] at hx
    | succ n =>
    obtain ⟨l, vs, e1, h1, r1⟩ := rx
    subst e1
    cases (show u = _ from ra)
    obtain ⟨its, w1, p1, z1⟩ := I.list h1
    have n1 : its.toArray.size = xs.length := by rw [← r1.length, w1.length]; simp
    cases y with
    | non => subst ry; cases rb; exact .list_none p1.isList (room_of hu)
    | bl k => subst ry; cases rb; exact .list_bool k p1.isList (room_of hu)
    | int k => subst ry; obtain ⟨t, rfl⟩ := rb; exact .list_int k t p1.isList (room_of hu)
    | str k => subst ry; obtain ⟨t, rfl⟩ := rb; exact .list_str k t p1.isList (room_of hu)
    | tup ys =>
      obtain ⟨l', us, e2, h2, r2⟩ := ry
      subst e2
      cases (show v = _ from rb)
      obtain ⟨jts, w2, p2, z2⟩ := I.tuple h2
      exact .list_tuple p1.isList p2 (room_of hu)
    | lst ys =>
      obtain ⟨l', us, e2, h2, r2⟩ := ry
      subst e2
      cases (show v = _ from rb)
      obtain ⟨jts, w2, p2, z2⟩ := I.list h2
      have n2 : jts.toArray.size = ys.length := by rw [← r2.length, w2.length]; simp
      by_cases hll : l = l'
      · subst hll
        have e := I.list_inj h1 h2
        subst e
        have e := Reps.inj I n xs ys vs hx hy r1 r2
        subst e
        rw [show deq (.lst xs) (.lst xs) = true from deq_refl (n + 1) (.lst xs) hx]
        exact .same _
      · show SeqAt.EqAt A s _ _ (deqs xs ys)
        by_cases hsz : xs.length = ys.length
        · rw [← deqs_len hsz, ← n1]
          refine .of_refs hll (.lists p1.isList p2.isList (by omega) (room_of hu) fun j j1 j2 => ?_)
          have q := deqs_at I n xs ys vs us its jts A.in1 hx hy r1 r2 w1 w2 (room_in1 hu) j (by simpa using j1) (by simpa using j2)
          simpa using q
        · rw [deqs_other hsz]
          exact .of_refs hll (.lists_lengths p1.isList p2.isList (by rw [n1, n2]; simpa using hsz) (room_of hu))
    | _ => simp [D.isData] at hy
  | n, .non, y, a, b, u, v, A, hx, hy, rx, ry, ra, rb, hu => by
    subst rx
    cases ra
    cases y with
    | non => subst ry; cases rb; exact .same _
    | bl k => subst ry; cases rb; exact .none_bool k
    | int k => subst ry; obtain ⟨t, rfl⟩ := rb; exact .none_int k t
    | str k => subst ry; obtain ⟨t, rfl⟩ := rb; exact .none_str k t
    | tup ys =>
      obtain ⟨l', us, e2, h2, r2⟩ := ry
      subst e2
      cases (show v = _ from rb)
      obtain ⟨jts, w2, p2, z2⟩ := I.tuple h2
      exact .none_tuple p2 (room_of hu)
    | lst ys =>
      obtain ⟨l', us, e2, h2, r2⟩ := ry
      subst e2
      cases (show v = _ from rb)
      obtain ⟨jts, w2, p2, z2⟩ := I.list h2
      exact .none_list p2.isList (room_of hu)
    | _ => simp [D.isData] at hy
  | n, .bl i, y, a, b, u, v, A, hx, hy, rx, ry, ra, rb, hu => by
    subst rx
    cases ra
    cases y with
    | non => subst ry; cases rb; exact .bool_none i
    | bl k => subst ry; cases rb; exact .bool_bool i k
    | int k => subst ry; obtain ⟨t, rfl⟩ := rb; exact .bool_int i k t
    | str k => subst ry; obtain ⟨t, rfl⟩ := rb; exact .bool_str i k t
    | tup ys =>
      obtain ⟨l', us, e2, h2, r2⟩ := ry
      subst e2
      cases (show v = _ from rb)
      obtain ⟨jts, w2, p2, z2⟩ := I.tuple h2
      exact .bool_tuple i p2 (room_of hu)
    | lst ys =>
      obtain ⟨l', us, e2, h2, r2⟩ := ry
      subst e2
      cases (show v = _ from rb)
      obtain ⟨jts, w2, p2, z2⟩ := I.list h2
      exact .bool_list i p2.isList (room_of hu)
    | _ => simp [D.isData] at hy
  | n, .int i, y, a, b, u, v, A, hx, hy, rx, ry, ra, rb, hu => by
    subst rx
    obtain ⟨t0, rfl⟩ := ra
    cases y with
    | non => subst ry; cases rb; exact .int_none i t0
    | bl k => subst ry; cases rb; exact .int_bool i t0 k
    | int k => subst ry; obtain ⟨t, rfl⟩ := rb; exact .int_int i t0 k t
    | str k => subst ry; obtain ⟨t, rfl⟩ := rb; exact .int_str i t0 k t
    | tup ys =>
      obtain ⟨l', us, e2, h2, r2⟩ := ry
      subst e2
      cases (show v = _ from rb)
      obtain ⟨jts, w2, p2, z2⟩ := I.tuple h2
      exact .int_tuple i t0 p2 (room_of hu)
    | lst ys =>
      obtain ⟨l', us, e2, h2, r2⟩ := ry
      subst e2
      cases (show v = _ from rb)
      obtain ⟨jts, w2, p2, z2⟩ := I.list h2
      exact .int_list i t0 p2.isList (room_of hu)
    | _ => simp [D.isData] at hy
  | n, .str i, y, a, b, u, v, A, hx, hy, rx, ry, ra, rb, hu => by
    subst rx
    obtain ⟨t0, rfl⟩ := ra
    cases y with
    | non => subst ry; cases rb; exact .str_none i t0
    | bl k => subst ry; cases rb; exact .str_bool i t0 k
    | int k => subst ry; obtain ⟨t, rfl⟩ := rb; exact .str_int i t0 k t
    | str k => subst ry; obtain ⟨t, rfl⟩ := rb; exact .str_str i t0 k t
    | tup ys =>
      obtain ⟨l', us, e2, h2, r2⟩ := ry
      subst e2
      cases (show v = _ from rb)
      obtain ⟨jts, w2, p2, z2⟩ := I.tuple h2
      exact .str_tuple i t0 p2 (room_of hu)
    | lst ys =>
      obtain ⟨l', us, e2, h2, r2⟩ := ry
      subst e2
      cases (show v = _ from rb)
      obtain ⟨jts, w2, p2, z2⟩ := I.list h2
      exact .str_list i t0 p2.isList (room_of hu)
    | _ => simp [D.isData] at hy
  | n, .ty _, _, _, _, _, _, _, h, _, _, _, _, _, _ => by simp [D.isData] at h
  | n, .cls _, _, _, _, _, _, _, h, _, _, _, _, _, _ => by simp [D.isData] at h
  | n, .ins _ _, _, _, _, _, _, _, h, _, _, _, _, _, _ => by simp [D.isData] at h
  | n, .bag, _, _, _, _, _, _, h, _, _, _, _, _, _ => by simp [D.isData] at h
  | n, .lat _ _, _, _, _, _, _, _, h, _, _, _, _, _, _ => by simp [D.isData] at h
theorem deqs_at (I : Inv X pins σ H s) : ∀ (n : Nat) (xs ys : List D) (as bs : List V) (us vs : List Value) (A : Around), allData n xs = true → allData n ys = true → Reps X.K H xs as → Reps X.K H ys bs → Vals as us → Vals bs vs → A.units + n < cLine →
    ∀ (j : Nat) (h1 : j < us.length) (h2 : j < vs.length), SeqAt.EqAt A s us[j] vs[j] (deqAt xs ys j)
  | _, [], _, _, _, us, _, _, _, _, rx, _, ra, _, _, j, h1, _ => by
    cases (show _ = _ from rx)
    cases ra
    exact absurd h1 (Nat.not_lt_zero _)
  | _, _ :: _, [], _, _, _, vs, _, _, _, _, ry, _, rb, _, j, _, h2 => by
    cases (show _ = _ from ry)
    cases rb
    exact absurd h2 (Nat.not_lt_zero _)
  | n, x :: xs, y :: ys, _, _, _, _, A, hx, hy, ⟨a, as, e1, r1, rr1⟩, ⟨b, bs, e2, r2, rr2⟩, ra, rb, hu, j, h1, h2 => by
    subst e1 e2
    obtain ⟨k1, k2⟩ := Bool.and_eq_true_iff.mp (show (x.isData n && allData n xs) = true from hx)
    obtain ⟨k3, k4⟩ := Bool.and_eq_true_iff.mp (show (y.isData n && allData n ys) = true from hy)
    cases ra with
    | cons p ps =>
      cases rb with
      | cons q qs =>
        cases j with
        | zero => exact deq_at I n x y a b _ _ A k1 k3 r1 r2 p q hu
        | succ j => exact deqs_at I n xs ys as bs _ _ A k2 k4 rr1 rr2 ps qs hu j (Nat.lt_of_succ_lt_succ h1) (Nat.lt_of_succ_lt_succ h2)
end
theorem rc_at (I : Inv X pins σ H s) {n : Nat} {x y : D} {a b : V} {u v : Value} {A : Around} (hx : x.isData n = true) (hy : y.isData n = true) (rx : Rep X.K H x a) (ry : Rep X.K H y b) (ra : RelV a u) (rb : RelV b v) (hu : A.units + n < cLine) : SeqAt.RcAt A s u v (deq x y) := by
  cases x with
  | non =>
    subst rx
    cases ra
    cases y with
    | non => subst ry; cases rb; exact .none_none 
    | bl k => subst ry; cases rb; exact .none_bool k
    | int k => subst ry; obtain ⟨t, rfl⟩ := rb; exact .none_int k t
    | str k => subst ry; obtain ⟨t, rfl⟩ := rb; exact .none_str k t
    | tup ys =>
      obtain ⟨l2, us, e2, h2, r2⟩ := ry
      subst e2
      cases (show v = _ from rb)
      obtain ⟨jts, w2, p2, z2⟩ := I.tuple h2
      exact .none_tuple p2 (room_of hu)
    | lst ys =>
      obtain ⟨l2, us, e2, h2, r2⟩ := ry
      subst e2
      cases (show v = _ from rb)
      obtain ⟨jts, w2, p2, z2⟩ := I.list h2
      exact .none_list p2.isList (room_of hu)
    | _ => simp [D.isData] at hy
  | bl i =>
    subst rx
    cases ra
    cases y with
    | non => subst ry; cases rb; exact .bool_none i
    | bl k => subst ry; cases rb; exact .bool_bool i k
    | int k => subst ry; obtain ⟨t, rfl⟩ := rb; exact .bool_int i k t
    | str k => subst ry; obtain ⟨t, rfl⟩ := rb; exact .bool_str i k t
    | tup ys =>
      obtain ⟨l2, us, e2, h2, r2⟩ := ry
      subst e2
      cases (show v = _ from rb)
      obtain ⟨jts, w2, p2, z2⟩ := I.tuple h2
      exact .bool_tuple i p2 (room_of hu)
    | lst ys =>
      obtain ⟨l2, us, e2, h2, r2⟩ := ry
      subst e2
      cases (show v = _ from rb)
      obtain ⟨jts, w2, p2, z2⟩ := I.list h2
      exact .bool_list i p2.isList (room_of hu)
    | _ => simp [D.isData] at hy
  | int i =>
    subst rx
    obtain ⟨t0, rfl⟩ := ra
    cases y with
    | non => subst ry; cases rb; exact .int_none i t0
    | bl k => subst ry; cases rb; exact .int_bool i t0 k
    | int k => subst ry; obtain ⟨t, rfl⟩ := rb; exact .int_int i t0 k t
    | str k => subst ry; obtain ⟨t, rfl⟩ := rb; exact .int_str i t0 k t
    | tup ys =>
      obtain ⟨l2, us, e2, h2, r2⟩ := ry
      subst e2
      cases (show v = _ from rb)
      obtain ⟨jts, w2, p2, z2⟩ := I.tuple h2
      exact .int_tuple i t0 p2 (room_of hu)
    | lst ys =>
      obtain ⟨l2, us, e2, h2, r2⟩ := ry
      subst e2
      cases (show v = _ from rb)
      obtain ⟨jts, w2, p2, z2⟩ := I.list h2
      exact .int_list i t0 p2.isList (room_of hu)
    | _ => simp [D.isData] at hy
  | str i =>
    subst rx
    obtain ⟨t0, rfl⟩ := ra
    cases y with
    | non => subst ry; cases rb; exact .str_none i t0
    | bl k => subst ry; cases rb; exact .str_bool i t0 k
    | int k => subst ry; obtain ⟨t, rfl⟩ := rb; exact .str_int i t0 k t
    | str k => subst ry; obtain ⟨t, rfl⟩ := rb; exact .str_str i t0 k t
    | tup ys =>
      obtain ⟨l2, us, e2, h2, r2⟩ := ry
      subst e2
      cases (show v = _ from rb)
      obtain ⟨jts, w2, p2, z2⟩ := I.tuple h2
      exact .str_tuple i t0 p2 (room_of hu)
    | lst ys =>
      obtain ⟨l2, us, e2, h2, r2⟩ := ry
      subst e2
      cases (show v = _ from rb)
      obtain ⟨jts, w2, p2, z2⟩ := I.list h2
      exact .str_list i t0 p2.isList (room_of hu)
    | _ => simp [D.isData] at hy
  | tup xs =>
    cases n with
    | zero => simp [D.isData] at hx
    | succ n =>
    obtain ⟨l, vs, e1, h1, r1⟩ := rx
    subst e1
    cases (show u = _ from ra)
    obtain ⟨its, w1, p1, z1⟩ := I.tuple h1
    have n1 : its.toArray.size = xs.length := by rw [← r1.length, w1.length]; simp
    cases y with
    | non => subst ry; cases rb; exact .tuple_none p1 (room_of hu)
    | bl k => subst ry; cases rb; exact .tuple_bool k p1 (room_of hu)
    | int k => subst ry; obtain ⟨t, rfl⟩ := rb; exact .tuple_int k t p1 (room_of hu)
    | str k => subst ry; obtain ⟨t, rfl⟩ := rb; exact .tuple_str k t p1 (room_of hu)
    | tup ys =>
      obtain ⟨l2, us, e2, h2, r2⟩ := ry
      subst e2
      cases (show v = _ from rb)
      obtain ⟨jts, w2, p2, z2⟩ := I.tuple h2
      have n2 : jts.toArray.size = ys.length := by rw [← r2.length, w2.length]; simp
      have he : ∀ (j : Nat) (j1 : j < its.toArray.size) (j2 : j < jts.toArray.size), SeqAt.EqAt A.in1 s its.toArray[j] jts.toArray[j] (deqAt xs ys j) := fun j j1 j2 => by
        have q := deqs_at I n xs ys vs us its jts A.in1 hx hy r1 r2 w1 w2 (room_in1 hu) j (by simpa using j1) (by simpa using j2)
        simpa using q
      show SeqAt.RcAt A s _ _ (deqs xs ys)
      rw [← deqs_pairs xs ys, ← n1, ← n2]
      exact .tuples p1 p2 (room_of hu) he
    | lst ys =>
      obtain ⟨l2, us, e2, h2, r2⟩ := ry
      subst e2
      cases (show v = _ from rb)
      obtain ⟨jts, w2, p2, z2⟩ := I.list h2
      exact .tuple_list p1 p2.isList (room_of hu)
    | _ => simp [D.isData] at hy
  | lst xs =>
    cases n with
    | zero => simp [D.isData] at hx
    | succ n =>
    obtain ⟨l, vs, e1, h1, r1⟩ := rx
    subst e1
    cases (show u = _ from ra)
    obtain ⟨its, w1, p1, z1⟩ := I.list h1
    have n1 : its.toArray.size = xs.length := by rw [← r1.length, w1.length]; simp
    cases y with
    | non => subst ry; cases rb; exact .list_none p1.isList (room_of hu)
    | bl k => subst ry; cases rb; exact .list_bool k p1.isList (room_of hu)
    | int k => subst ry; obtain ⟨t, rfl⟩ := rb; exact .list_int k t p1.isList (room_of hu)
    | str k => subst ry; obtain ⟨t, rfl⟩ := rb; exact .list_str k t p1.isList (room_of hu)
    | tup ys =>
      obtain ⟨l2, us, e2, h2, r2⟩ := ry
      subst e2
      cases (show v = _ from rb)
      obtain ⟨jts, w2, p2, z2⟩ := I.tuple h2
      exact .list_tuple p1.isList p2 (room_of hu)
    | lst ys =>
      obtain ⟨l2, us, e2, h2, r2⟩ := ry
      subst e2
      cases (show v = _ from rb)
      obtain ⟨jts, w2, p2, z2⟩ := I.list h2
      have n2 : jts.toArray.size = ys.length := by rw [← r2.length, w2.length]; simp
      have he : ∀ (j : Nat) (j1 : j < its.toArray.size) (j2 : j < jts.toArray.size), SeqAt.EqAt A.in1 s its.toArray[j] jts.toArray[j] (deqAt xs ys j) := fun j j1 j2 => by
        have q := deqs_at I n xs ys vs us its jts A.in1 hx hy r1 r2 w1 w2 (room_in1 hu) j (by simpa using j1) (by simpa using j2)
        simpa using q
      show SeqAt.RcAt A s _ _ (deqs xs ys)
      by_cases hsz : xs.length = ys.length
      · rw [← deqs_len hsz, ← n1]
        exact .lists p1.isList p2.isList (by omega) (room_of hu) he
      · rw [deqs_other hsz]
        exact .lists_lengths p1.isList p2.isList (by rw [n1, n2]; simpa using hsz) (room_of hu)
    | _ => simp [D.isData] at hy
  | _ => simp [D.isData] at hx
theorem rcne_at (I : Inv X pins σ H s) {n : Nat} {x y : D} {a b : V} {u v : Value} {A : Around} (hx : x.isData n = true) (hy : y.isData n = true) (rx : Rep X.K H x a) (ry : Rep X.K H y b) (ra : RelV a u) (rb : RelV b v) (hu : A.units + n < cLine) : SeqAt.RcNeAt A s u v (!deq x y) := by
  cases x with
  | non =>
    subst rx
    cases ra
    cases y with
    | non => subst ry; cases rb; exact .none_none 
    | bl k => subst ry; cases rb; exact .none_bool k
    | int k => subst ry; obtain ⟨t, rfl⟩ := rb; exact .none_int k t
    | str k => subst ry; obtain ⟨t, rfl⟩ := rb; exact .none_str k t
    | tup ys =>
      obtain ⟨l2, us, e2, h2, r2⟩ := ry
      subst e2
      cases (show v = _ from rb)
      obtain ⟨jts, w2, p2, z2⟩ := I.tuple h2
      exact .none_tuple p2 (room_of hu)
    | lst ys =>
      obtain ⟨l2, us, e2, h2, r2⟩ := ry
      subst e2
      cases (show v = _ from rb)
      obtain ⟨jts, w2, p2, z2⟩ := I.list h2
      exact .none_list p2.isList (room_of hu)
    | _ => simp [D.isData] at hy
  | bl i =>
    subst rx
    cases ra
    cases y with
    | non => subst ry; cases rb; exact .bool_none i
    | bl k => subst ry; cases rb; exact .bool_bool i k
    | int k => subst ry; obtain ⟨t, rfl⟩ := rb; exact .bool_int i k t
    | str k => subst ry; obtain ⟨t, rfl⟩ := rb; exact .bool_str i k t
    | tup ys =>
      obtain ⟨l2, us, e2, h2, r2⟩ := ry
      subst e2
      cases (show v = _ from rb)
      obtain ⟨jts, w2, p2, z2⟩ := I.tuple h2
      exact .bool_tuple i p2 (room_of hu)
    | lst ys =>
      obtain ⟨l2, us, e2, h2, r2⟩ := ry
      subst e2
      cases (show v = _ from rb)
      obtain ⟨jts, w2, p2, z2⟩ := I.list h2
      exact .bool_list i p2.isList (room_of hu)
    | _ => simp [D.isData] at hy
  | int i =>
    subst rx
    obtain ⟨t0, rfl⟩ := ra
    cases y with
    | non => subst ry; cases rb; exact .int_none i t0
    | bl k => subst ry; cases rb; exact .int_bool i t0 k
    | int k => subst ry; obtain ⟨t, rfl⟩ := rb; exact .int_int i t0 k t
    | str k => subst ry; obtain ⟨t, rfl⟩ := rb; exact .int_str i t0 k t
    | tup ys =>
      obtain ⟨l2, us, e2, h2, r2⟩ := ry
      subst e2
      cases (show v = _ from rb)
      obtain ⟨jts, w2, p2, z2⟩ := I.tuple h2
      exact .int_tuple i t0 p2 (room_of hu)
    | lst ys =>
      obtain ⟨l2, us, e2, h2, r2⟩ := ry
      subst e2
      cases (show v = _ from rb)
      obtain ⟨jts, w2, p2, z2⟩ := I.list h2
      exact .int_list i t0 p2.isList (room_of hu)
    | _ => simp [D.isData] at hy
  | str i =>
    subst rx
    obtain ⟨t0, rfl⟩ := ra
    cases y with
    | non => subst ry; cases rb; exact .str_none i t0
    | bl k => subst ry; cases rb; exact .str_bool i t0 k
    | int k => subst ry; obtain ⟨t, rfl⟩ := rb; exact .str_int i t0 k t
    | str k => subst ry; obtain ⟨t, rfl⟩ := rb; exact .str_str i t0 k t
    | tup ys =>
      obtain ⟨l2, us, e2, h2, r2⟩ := ry
      subst e2
      cases (show v = _ from rb)
      obtain ⟨jts, w2, p2, z2⟩ := I.tuple h2
      exact .str_tuple i t0 p2 (room_of hu)
    | lst ys =>
      obtain ⟨l2, us, e2, h2, r2⟩ := ry
      subst e2
      cases (show v = _ from rb)
      obtain ⟨jts, w2, p2, z2⟩ := I.list h2
      exact .str_list i t0 p2.isList (room_of hu)
    | _ => simp [D.isData] at hy
  | tup xs =>
    cases n with
    | zero => simp [D.isData] at hx
    | succ n =>
    obtain ⟨l, vs, e1, h1, r1⟩ := rx
    subst e1
    cases (show u = _ from ra)
    obtain ⟨its, w1, p1, z1⟩ := I.tuple h1
    have n1 : its.toArray.size = xs.length := by rw [← r1.length, w1.length]; simp
    cases y with
    | non => subst ry; cases rb; exact .tuple_none p1 (room_of hu)
    | bl k => subst ry; cases rb; exact .tuple_bool k p1 (room_of hu)
    | int k => subst ry; obtain ⟨t, rfl⟩ := rb; exact .tuple_int k t p1 (room_of hu)
    | str k => subst ry; obtain ⟨t, rfl⟩ := rb; exact .tuple_str k t p1 (room_of hu)
    | tup ys =>
      obtain ⟨l2, us, e2, h2, r2⟩ := ry
      subst e2
      cases (show v = _ from rb)
      obtain ⟨jts, w2, p2, z2⟩ := I.tuple h2
      have n2 : jts.toArray.size = ys.length := by rw [← r2.length, w2.length]; simp
      have he : ∀ (j : Nat) (j1 : j < its.toArray.size) (j2 : j < jts.toArray.size), SeqAt.EqAt A.in1 s its.toArray[j] jts.toArray[j] (deqAt xs ys j) := fun j j1 j2 => by
        have q := deqs_at I n xs ys vs us its jts A.in1 hx hy r1 r2 w1 w2 (room_in1 hu) j (by simpa using j1) (by simpa using j2)
        simpa using q
      show SeqAt.RcNeAt A s _ _ (!deqs xs ys)
      rw [← deqs_pairs xs ys, ← n1, ← n2]
      exact .tuples p1 p2 (room_of hu) he
    | lst ys =>
      obtain ⟨l2, us, e2, h2, r2⟩ := ry
      subst e2
      cases (show v = _ from rb)
      obtain ⟨jts, w2, p2, z2⟩ := I.list h2
      exact .tuple_list p1 p2.isList (room_of hu)
    | _ => simp [D.isData] at hy
  | lst xs =>
    cases n with
    | zero => simp [D.isData] at hx
    | succ n =>
    obtain ⟨l, vs, e1, h1, r1⟩ := rx
    subst e1
    cases (show u = _ from ra)
    obtain ⟨its, w1, p1, z1⟩ := I.list h1
    have n1 : its.toArray.size = xs.length := by rw [← r1.length, w1.length]; simp
    cases y with
    | non => subst ry; cases rb; exact .list_none p1.isList (room_of hu)
    | bl k => subst ry; cases rb; exact .list_bool k p1.isList (room_of hu)
    | int k => subst ry; obtain ⟨t, rfl⟩ := rb; exact .list_int k t p1.isList (room_of hu)
    | str k => subst ry; obtain ⟨t, rfl⟩ := rb; exact .list_str k t p1.isList (room_of hu)
    | tup ys =>
      obtain ⟨l2, us, e2, h2, r2⟩ := ry
      subst e2
      cases (show v = _ from rb)
      obtain ⟨jts, w2, p2, z2⟩ := I.tuple h2
      exact .list_tuple p1.isList p2 (room_of hu)
    | lst ys =>
      obtain ⟨l2, us, e2, h2, r2⟩ := ry
      subst e2
      cases (show v = _ from rb)
      obtain ⟨jts, w2, p2, z2⟩ := I.list h2
      have n2 : jts.toArray.size = ys.length := by rw [← r2.length, w2.length]; simp
      have he : ∀ (j : Nat) (j1 : j < its.toArray.size) (j2 : j < jts.toArray.size), SeqAt.EqAt A.in1 s its.toArray[j] jts.toArray[j] (deqAt xs ys j) := fun j j1 j2 => by
        have q := deqs_at I n xs ys vs us its jts A.in1 hx hy r1 r2 w1 w2 (room_in1 hu) j (by simpa using j1) (by simpa using j2)
        simpa using q
      show SeqAt.RcNeAt A s _ _ (!deqs xs ys)
      by_cases hsz : xs.length = ys.length
      · rw [← deqs_len hsz, ← n1]
        exact .lists p1.isList p2.isList (by omega) (room_of hu) he
      · rw [deqs_other hsz]
        exact .lists_lengths p1.isList p2.isList (by rw [n1, n2]; simpa using hsz) (room_of hu)
    | _ => simp [D.isData] at hy
  | _ => simp [D.isData] at hx

/-- == and != of data -/
def dEqN (n : Nat) (x y : D) (Q : D → Prop) : Prop := x.isData n = true ∧ y.isData n = true ∧ Q (.bl (deq x y))
def dNeN (n : Nat) (x y : D) (Q : D → Prop) : Prop := x.isData n = true ∧ y.isData n = true ∧ Q (.bl (!deq x y))
def rEqN (K : PySem.W.Frag) (n : Nat) : R2 := fun x y H Q => ∃ (H0 : Hp) (d e : D), Same H0 H ∧ Rep K H0 d x ∧ Rep K H0 e y ∧ d.isData n = true ∧ e.isData n = true ∧ Q (.bl (deq d e)) H
def rNeN (K : PySem.W.Frag) (n : Nat) : R2 := fun x y H Q => ∃ (H0 : Hp) (d e : D), Same H0 H ∧ Rep K H0 d x ∧ Rep K H0 e y ∧ d.isData n = true ∧ e.isData n = true ∧ Q (.bl (!deq d e)) H
theorem op_eqN {n : Nat} (hu : X.A.units + n < cLine) : OpR X (compareOp .Eq) (rEqN X.K n) := by
  intro pins s σ H x y v u Q I rx ry h
  obtain ⟨H0, d, e, sm, r1, r2, h1, h2, q⟩ := h
  exact rc_at I h1 h2 (Rep.mono sm _ _ r1) (Rep.mono sm _ _ r2) rx ry hu _ _ _ _ ⟨.bl _, H, I, rfl, q⟩
theorem op_neN {n : Nat} (hu : X.A.units + n < cLine) : OpR X (compareOp .NotEq) (rNeN X.K n) := by
  intro pins s σ H x y v u Q I rx ry h
  obtain ⟨H0, d, e, sm, r1, r2, h1, h2, q⟩ := h
  exact rcne_at I h1 h2 (Rep.mono sm _ _ r1) (Rep.mono sm _ _ r2) rx ry hu _ _ _ _ ⟨.bl _, H, I, rfl, q⟩
end
section
variable {X : Cx} {Ed : DX → Prop} {E : XK} {K : PySem.W.Frag} {pos : Pos} {e a b c : Expr} {te ta tb : TE} {de da db : DE}
theorem s_eqN {n : Nat} : SimR2 K (rEqN K n) (dEqN n) := fun H0 H x y dx dy sm rx ry Qd h Q q => ⟨H0, dx, dy, sm, rx, ry, h.1, h.2.1, q (.bl _) _ H0 H (.refl sm) rfl h.2.2⟩
theorem s_neN {n : Nat} : SimR2 K (rNeN K n) (dNeN n) := fun H0 H x y dx dy sm rx ry Qd h Q q => ⟨H0, dx, dy, sm, rx, ry, h.1, h.2.1, q (.bl _) _ H0 H (.refl sm) rfl h.2.2⟩
abbrev dEq := dEqN 150
abbrev dNe := dNeN 150
theorem room150 {k : Nat} (hr : Room k X.A) : X.A.units + 150 < cLine := by have := hr.un; omega
theorem e_eq {k : Nat} (hr : Room k X.A) (ha : JE X Ed E a ta da) (hb : JE X Ed E b tb db) : JE X Ed E (.Compare a [.Eq] [b] pos) (tOp (rEqN X.K 150) ta tb) (dOp dEq da db) := e_cmp (op_eqN (room150 hr)) s_eqN ha hb (nomark _)
theorem e_ne {k : Nat} (hr : Room k X.A) (ha : JE X Ed E a ta da) (hb : JE X Ed E b tb db) : JE X Ed E (.Compare a [.NotEq] [b] pos) (tOp (rNeN X.K 150) ta tb) (dOp dNe da db) := e_cmp (op_neN (room150 hr)) s_neN ha hb (nomark _)
end
end DL

namespace DL
open PySem PySem.Spec PyProof.Rows L2
section
variable {X : Cx} {Ed : DX → Prop} {E : XK} {K : PySem.W.Frag} {pos : Pos} {e a b c : Expr} {te ta tb tc : TE} {de da db dc : DE} {tt tu : TT} {dt du : DT} {tal : TA} {dal : DA} {es : List Expr}

/-! ### tests -/
def dB (de : DE) (ρ : Rho) (Q : Bool → Prop) : Prop := de ρ fun x => match x with
  | .bl b => Q b
  | _ => False
theorem sim_B (h : SimE K Ed E te de) : SimT K Ed E (tB te) (dB de) := fun B0 B1 A H0 H σ ρ R X Qd hd Q q =>
  h B0 B1 A H0 H σ ρ R X _ hd _ fun x v H1 H2 R1 g1 r1 h1 => by
    split at h1
    · exact ⟨_, r1, q _ H1 H2 R1 g1 h1⟩
    · exact h1.elim
theorem t_val (h : JE X Ed E e te de) (he : ∀ whole, isTrue e X.env whole = (do let v ← whole; standAt e.pos; holding [v] (truthy v)) := by intro _; rfl) : JT X Ed E e (tB te) (dB de) := ⟨pt_val h.pe he, sim_B h.sim⟩
/-- a comparison as a test -/
theorem t_cmp {op : CmpOp} {r : R2} {rd : D → D → (D → Prop) → Prop} (ho : OpR X (compareOp op) r) (sr : SimR2 X.K r rd) (ha : JE X Ed E a ta da) (hb : JE X Ed E b tb db) (hm : behindInMarks op b = false) : JT X Ed E (.Compare a [op] [b] pos) (tB (tOp r ta tb)) (dB (dOp rd da db)) :=
  ⟨pt_cmpR ho ha.pe hb.pe hm, sim_B (sim_op sr ha.sim hb.sim)⟩
/-- a value's truth -/
def truD : D → Option Bool
  | .non => some false
  | .bl b => some b
  | .int i => some (i != 0)
  | .str x => some (x.length != 0)
  | .tup xs => some (!xs.isEmpty)
  | .lst xs => some (!xs.isEmpty)
  | _ => none
def dAnd (t u : DT) (ρ : Rho) (Q : Bool → Prop) : Prop := t ρ fun c => if c = true then u ρ Q else Q false
def dOr (t u : DT) (ρ : Rho) (Q : Bool → Prop) : Prop := t ρ fun c => if c = true then Q true else u ρ Q
def dNot (t : DT) (ρ : Rho) (Q : Bool → Prop) : Prop := t ρ fun c => Q (!c)
theorem sim_and (h1 : SimT K Ed E tt dt) (h2 : SimT K Ed E tu du) : SimT K Ed E (tAnd tt tu) (dAnd dt du) := fun B0 B1 A H0 H σ ρ R X Qd hd Q q =>
  h1 B0 B1 A H0 H σ ρ R X _ hd _ fun c H1 H2 R1 g1 k => by
    cases c with
    | true => exact h2 B0 B1 A H1 H2 σ ρ R1 X Qd k Q fun x H3 H4 R2 g2 k2 => q x H3 H4 R2 (g1.trans g2) k2
    | false => exact q false H1 H2 R1 g1 k
theorem sim_or (h1 : SimT K Ed E tt dt) (h2 : SimT K Ed E tu du) : SimT K Ed E (tOr tt tu) (dOr dt du) := fun B0 B1 A H0 H σ ρ R X Qd hd Q q =>
  h1 B0 B1 A H0 H σ ρ R X _ hd _ fun c H1 H2 R1 g1 k => by
    cases c with
    | false => exact h2 B0 B1 A H1 H2 σ ρ R1 X Qd k Q fun x H3 H4 R2 g2 k2 => q x H3 H4 R2 (g1.trans g2) k2
    | true => exact q true H1 H2 R1 g1 k
theorem sim_not (h1 : SimT K Ed E tt dt) : SimT K Ed E (tNot tt) (dNot dt) := fun B0 B1 A H0 H σ ρ R X Qd hd Q q =>
  h1 B0 B1 A H0 H σ ρ R X _ hd _ fun c H1 H2 R1 g1 k => q (!c) H1 H2 R1 g1 k
theorem w_and1 (ha : JT X Ed E a tt dt) : JW X Ed E (.BoolOp .And [a] pos) tt dt := ⟨pw_and1 ha.pe, ha.sim⟩
theorem w_or1 (ha : JT X Ed E a tt dt) : JW X Ed E (.BoolOp .Or [a] pos) tt dt := ⟨pw_or1 ha.pe, ha.sim⟩
theorem w_and (ha : JT X Ed E a tt dt) (hb : JW X Ed E (.BoolOp .And (b :: es) pos) tu du) : JW X Ed E (.BoolOp .And (a :: b :: es) pos) (tAnd tt tu) (dAnd dt du) := ⟨pw_and ha.pe hb.pe, sim_and ha.sim hb.sim⟩
theorem w_or (ha : JT X Ed E a tt dt) (hb : JW X Ed E (.BoolOp .Or (b :: es) pos) tu du) : JW X Ed E (.BoolOp .Or (a :: b :: es) pos) (tOr tt tu) (dOr dt du) := ⟨pw_or ha.pe hb.pe, sim_or ha.sim hb.sim⟩
theorem t_w (h : JW X Ed E e tt dt) : JT X Ed E e tt dt := ⟨h.pe.pt, h.sim⟩
theorem t_not (ha : JT X Ed E a tt dt) : JT X Ed E (.UnaryOp .Not a pos) (tNot tt) (dNot dt) := ⟨pt_not ha.pe, sim_not ha.sim⟩
/-- .. as values (bools) -/
def dAndV (da db : DE) (ρ : Rho) (Q : D → Prop) : Prop := da ρ fun x => match x with
  | .bl c => if c = true then db ρ Q else Q (.bl false)
  | _ => False
def dOrV (da db : DE) (ρ : Rho) (Q : D → Prop) : Prop := da ρ fun x => match x with
  | .bl c => if c = true then Q (.bl true) else db ρ Q
  | _ => False
def dNotV (da : DE) (ρ : Rho) (Q : D → Prop) : Prop := da ρ fun x => match x with
  | .bl c => Q (.bl (!c))
  | _ => False
theorem sim_andV (h1 : SimE K Ed E ta da) (h2 : SimE K Ed E tb db) : SimE K Ed E (tAndV ta tb) (dAndV da db) := fun B0 B1 A H0 H σ ρ R X Qd hd Q q =>
  h1 B0 B1 A H0 H σ ρ R X _ hd _ fun x v H1 H2 R1 g1 r1 k => by
    split at k
    · rename_i c
      refine ⟨c, r1, ?_⟩
      cases c with
      | true => exact h2 B0 B1 A H1 H2 σ ρ R1 X Qd k Q fun x v H3 H4 R2 g2 r2 k2 => q x v H3 H4 R2 (g1.trans g2) r2 k2
      | false => exact q (.bl false) _ H1 H2 R1 g1 rfl k
    · exact k.elim
theorem sim_orV (h1 : SimE K Ed E ta da) (h2 : SimE K Ed E tb db) : SimE K Ed E (tOrV ta tb) (dOrV da db) := fun B0 B1 A H0 H σ ρ R X Qd hd Q q =>
  h1 B0 B1 A H0 H σ ρ R X _ hd _ fun x v H1 H2 R1 g1 r1 k => by
    split at k
    · rename_i c
      refine ⟨c, r1, ?_⟩
      cases c with
      | false => exact h2 B0 B1 A H1 H2 σ ρ R1 X Qd k Q fun x v H3 H4 R2 g2 r2 k2 => q x v H3 H4 R2 (g1.trans g2) r2 k2
      | true => exact q (.bl true) _ H1 H2 R1 g1 rfl k
    · exact k.elim
theorem sim_notV (h1 : SimE K Ed E ta da) : SimE K Ed E (tNotV ta) (dNotV da) := fun B0 B1 A H0 H σ ρ R X Qd hd Q q =>
  h1 B0 B1 A H0 H σ ρ R X _ hd _ fun x v H1 H2 R1 g1 r1 k => by
    split at k
    · rename_i c
      exact ⟨c, r1, q (.bl (!c)) _ H1 H2 R1 g1 rfl k⟩
    · exact k.elim
theorem e_one {op} (h : JE X Ed E a ta da) : JE X Ed E (.BoolOp op [a] pos) ta da := ⟨pe_one h.pe, h.sim⟩
theorem e_and (ha : JE X Ed E a ta da) (hb : JE X Ed E (.BoolOp .And (b :: es) pos) tb db) : JE X Ed E (.BoolOp .And (a :: b :: es) pos) (tAndV ta tb) (dAndV da db) := ⟨pe_and ha.pe hb.pe, sim_andV ha.sim hb.sim⟩
theorem e_or (ha : JE X Ed E a ta da) (hb : JE X Ed E (.BoolOp .Or (b :: es) pos) tb db) : JE X Ed E (.BoolOp .Or (a :: b :: es) pos) (tOrV ta tb) (dOrV da db) := ⟨pe_or ha.pe hb.pe, sim_orV ha.sim hb.sim⟩
theorem e_not (ha : JE X Ed E a ta da) : JE X Ed E (.UnaryOp .Not a pos) (tNotV ta) (dNotV da) := ⟨pe_not ha.pe, sim_notV ha.sim⟩
/-- a if t else b -/
def dIf (t : DT) (da db : DE) (ρ : Rho) (Q : D → Prop) : Prop := t ρ fun c => if c = true then da ρ Q else db ρ Q
theorem sim_if (h : SimT K Ed E tt dt) (h1 : SimE K Ed E ta da) (h2 : SimE K Ed E tb db) : SimE K Ed E (tIf tt ta tb) (dIf dt da db) := fun B0 B1 A H0 H σ ρ R X Qd hd Q q =>
  h B0 B1 A H0 H σ ρ R X _ hd _ fun c H1 H2 R1 g1 k => by
    cases c with
    | true => exact h1 B0 B1 A H1 H2 σ ρ R1 X Qd k Q fun x v H3 H4 R2 g2 r2 k2 => q x v H3 H4 R2 (g1.trans g2) r2 k2
    | false => exact h2 B0 B1 A H1 H2 σ ρ R1 X Qd k Q fun x v H3 H4 R2 g2 r2 k2 => q x v H3 H4 R2 (g1.trans g2) r2 k2
theorem e_if (hc : JT X Ed E c tt dt) (ha : JE X Ed E a ta da) (hb : JE X Ed E b tb db) : JE X Ed E (.IfExp c a b pos) (tIf tt ta tb) (dIf dt da db) := ⟨pe_ifExp hc.pe ha.pe hb.pe, sim_if hc.sim ha.sim hb.sim⟩

/-! ### argument lists, displays -/
def dNil (_ : Rho) (Q : List D → Prop) : Prop := Q []
def dCons (de : DE) (dr : DA) (ρ : Rho) (Q : List D → Prop) : Prop := de ρ fun x => dr ρ fun xs => Q (x :: xs)
theorem sim_nil : SimA K Ed E tNil dNil := fun B0 B1 A H0 H σ ρ R X Qd hd Q q => q [] [] H0 H R (.refl R.ex) rfl hd
theorem sim_cons (h1 : SimE K Ed E te de) (h2 : SimA K Ed E tal dal) : SimA K Ed E (tCons te tal) (dCons de dal) := fun B0 B1 A H0 H σ ρ R X Qd hd Q q =>
  h1 B0 B1 A H0 H σ ρ R X _ hd _ fun x v H1 H2 R1 g1 r1 k => h2 B0 B1 A H1 H2 σ ρ R1 X _ k _ fun xs vs H3 H4 R2 g2 r2 k2 =>
    q (x :: xs) (v :: vs) H3 H4 R2 (g1.trans g2) ⟨v, vs, rfl, Rep.mono g2.g0 _ _ r1, r2⟩ k2
theorem a_nil : JA X Ed E [] tNil dNil := ⟨pa_nil, sim_nil⟩
theorem a_cons (ha : JE X Ed E e te de) (hr : JA X Ed E es tal dal) (hs : starEach (e :: es) X.env = (false, eval e X.env) :: starEach es X.env := by rfl) : JA X Ed E (e :: es) (tCons te tal) (dCons de dal) := ⟨pa_cons ha.pe hr.pe hs, sim_cons ha.sim hr.sim⟩
def dTup (da : DA) (ρ : Rho) (Q : D → Prop) : Prop := da ρ fun xs => xs.length ≤ 1000 ∧ Q (.tup xs)
def dLst (da : DA) (ρ : Rho) (Q : D → Prop) : Prop := da ρ fun xs => xs.length ≤ 1000 ∧ Q (.lst xs)
theorem line1000 {n : Nat} (h : n ≤ 1000) : n ≤ sizeLine := Nat.le_of_lt (small1000 h)
theorem sim_tup (h : SimA K Ed E tal dal) : SimE K Ed E (tTup tal) (dTup dal) := fun B0 B1 A H0 H σ ρ R X Qd hd Q q =>
  h B0 B1 A H0 H σ ρ R X _ hd _ fun xs vs H1 H2 R1 g1 r1 k => ⟨by rw [r1.length]; exact line1000 k.1, fun p hp => by
    have g := Grow.new (o := .tup vs) R1.ex hp
    exact q (.tup xs) (.ref p) _ _ (R1.grow g) (g1.trans g) ⟨p, vs, rfl, .inl (.inl upd_same), Reps.mono g.g0 _ _ r1⟩ k.2⟩
theorem sim_lst (h : SimA K Ed E tal dal) : SimE K Ed E (tLst tal) (dLst dal) := fun B0 B1 A H0 H σ ρ R X Qd hd Q q =>
  h B0 B1 A H0 H σ ρ R X _ hd _ fun xs vs H1 H2 R1 g1 r1 k => ⟨by rw [r1.length]; exact line1000 k.1, fun p hp => by
    have g := Grow.new (o := .lst vs) R1.ex hp
    exact q (.lst xs) (.ref p) _ _ (R1.grow g) (g1.trans g) ⟨p, vs, rfl, .inl (.inl upd_same), Reps.mono g.g0 _ _ r1⟩ k.2⟩
theorem e_tup {x1} (h : JA X Ed E es tal dal) : JE X Ed E (.Tuple es x1 pos) (tTup tal) (dTup dal) := ⟨pe_tup h.pe, sim_tup h.sim⟩
theorem e_lst (h : JA X Ed E es tal dal) : JE X Ed E (.List es pos) (tLst tal) (dLst dal) := ⟨pe_lst h.pe, sim_lst h.sim⟩

/-! ### items -/
/-- where there is one -/
def onS {α : Type} (o : Option α) (Q : α → Prop) : Prop := match o with
  | some a => Q a
  | none => False
theorem onS_some {α : Type} {a : α} {Q : α → Prop} : onS (some a) Q = Q a := rfl
theorem onS_at {α : Type} {o : Option α} {Q : α → Prop} (h : onS o Q) : ∃ a, o = some a ∧ Q a := by
  cases o with
  | none => exact h.elim
  | some a => exact ⟨a, rfl, h⟩
def dIx (x y : D) (Q : D → Prop) : Prop := match x, y with
  | .tup xs, .int i => onS (atI xs i) Q
  | .lst xs, .int i => onS (atI xs i) Q
  | .lat _ xs, .int i => onS (atI xs i) Q
  | .str z, .int i => z.length ≤ sizeLine ∧ onS (atI z.cps.toList i) fun c => Q (.str ⟨#[c]⟩)
  | _, _ => False
theorem atI_rep {H : Hp} {xs : List D} {vs : List V} {i : Int} {d : D} (r : Reps K H xs vs) (h : atI xs i = some d) : ∃ v, atI vs i = some v ∧ Rep K H d v := by
  unfold atI at h ⊢
  rw [r.length]
  cases e : ixN xs.length i with
  | none => rw [e] at h; cases h
  | some j =>
    rw [e] at h
    exact r.get h
theorem s_ix : SimR2 K (rIx K) dIx := by
  intro H0 H x y dx dy sm rx ry Qd h Q q
  unfold dIx at h
  split at h
  · rename_i xs i
    obtain ⟨d, hd, h⟩ := onS_at h
    obtain ⟨a, vs, rfl, hs, r⟩ := rx
    obtain ⟨v, hv, rv⟩ := atI_rep r hd
    exact .inr (.inl ⟨a, vs, i, v, rfl, ry, sqt_mono sm hs, hv, q d v H0 H (.refl sm) rv h⟩)
  · rename_i xs i
    obtain ⟨d, hd, h⟩ := onS_at h
    obtain ⟨a, vs, rfl, hs, r⟩ := rx
    obtain ⟨v, hv, rv⟩ := atI_rep r hd
    exact .inl ⟨a, vs, i, v, rfl, ry, sm.seq hs, hv, q d v H0 H (.refl sm) rv h⟩
  · rename_i c xs i
    obtain ⟨d, hd, h⟩ := onS_at h
    obtain ⟨rfl, vs, hs, r⟩ := rx
    obtain ⟨v, hv, rv⟩ := atI_rep r hd
    exact .inl ⟨c, vs, i, v, rfl, ry, sm.seq hs, hv, q d v H0 H (.refl sm) rv h⟩
  · rename_i z i
    obtain ⟨hz, h⟩ := h
    obtain ⟨c, hc, h⟩ := onS_at h
    exact .inr (.inr ⟨z, i, c, rx, ry, hz, hc, q (.str ⟨#[c]⟩) _ H0 H (.refl sm) rfl h⟩)
  · exact h.elim
theorem e_ix (ha : JE X Ed E a ta da) (hb : JE X Ed E b tb db) (hs : PlainIx b := by exact fun _ _ => rfl) : JE X Ed E (.Subscript a b pos) (tOp (rIx X.K) ta tb) (dOp dIx da db) := ⟨pe_ix ix_seq ha.pe hb.pe hs, sim_op s_ix ha.sim hb.sim⟩
end
end DL

namespace DL
open PySem PySem.Spec PyProof.Rows L2

section
variable {X : Cx} {Ed : DX → Prop} {E : XK} {K : PySem.W.Frag} {pos : Pos} {e a b c : Expr} {te ta tb tc : TE} {de da db dc : DE} {tt tu : TT} {dt du : DT} {tal : TA} {dal : DA} {es : List Expr} {st : Stmt} {sts : List Stmt} {ts us : TS} {ds dus : DS}

/-! ### statements -/
def dNext (d : DEnds) (ρ : Rho) : Prop := d.nx ρ
def dSeq (t u : DS) (d : DEnds) (ρ : Rho) : Prop := t { d with nx := u d } ρ
def dBrk (d : DEnds) (ρ : Rho) : Prop := d.bk ρ
def dCnt (d : DEnds) (ρ : Rho) : Prop := d.ct ρ
def dDrop (de : DE) (d : DEnds) (ρ : Rho) : Prop := de ρ fun _ => d.nx ρ
def dRet (de : DE) (d : DEnds) (ρ : Rho) : Prop := de ρ fun x => d.rt x ρ
def dRetN (d : DEnds) (ρ : Rho) : Prop := d.rt .non ρ
def dIfS (c : DT) (t u : DS) (d : DEnds) (ρ : Rho) : Prop := c ρ fun b => if b = true then t d ρ else u d ρ
def dNever (_ : DEnds) (_ : Rho) : Prop := False
theorem EndsRel.next {B0 B1 : Hp} {d : DEnds} {D : Ends} {f : Rho → Prop} {g : L2.St → Hp → Prop} (r : EndsRel K B0 B1 d D) (h : ∀ A H0 H σ ρ, RepS K B0 B1 A H0 H σ ρ → f ρ → g σ H) : EndsRel K B0 B1 { d with nx := f } { D with nx := g } := ⟨h, r.rt, r.bk, r.ct⟩
theorem sim_next : SimS K Ed E tNext dNext := fun B0 B1 A H0 H σ ρ R X d D r h => r.nx A H0 H σ ρ R h
theorem sim_seq (h1 : SimS K Ed E ts ds) (h2 : SimS K Ed E us dus) : SimS K Ed E (tSeq ts us) (dSeq ds dus) := fun B0 B1 A H0 H σ ρ R X d D r h =>
  h1 B0 B1 A H0 H σ ρ R X _ _ (r.next fun A' H0' H' σ' ρ' R' h' => h2 B0 B1 A' H0' H' σ' ρ' R' X d D r h') h
theorem b_nil : JB X Ed E [] tNext dNext := ⟨pss_nil, sim_next⟩
theorem b_cons (h1 : JS X Ed E st ts ds) (h2 : JB X Ed E sts us dus) : JB X Ed E (st :: sts) (tSeq ts us) (dSeq ds dus) := ⟨pss_cons h1.pe h2.pe, sim_seq h1.sim h2.sim⟩
theorem b_one (h1 : JS X Ed E st ts ds) : JB X Ed E [st] ts ds := ⟨pss_one h1.pe, h1.sim⟩
theorem st_pass : JS X Ed E (.Pass pos) tNext dNext := ⟨ps_pass, sim_next⟩
theorem st_break : JS X Ed E (.Break pos) tBreak dBrk := ⟨ps_break, fun B0 B1 A H0 H σ ρ R X d D r h => r.bk A H0 H σ ρ R h⟩
theorem st_continue : JS X Ed E (.Continue pos) tCont dCnt := ⟨ps_continue, fun B0 B1 A H0 H σ ρ R X d D r h => r.ct A H0 H σ ρ R h⟩
theorem st_expr (he : JE X Ed E e te de) (hs : swapsWith e none pos.line X.env = pure false := by rfl) : JS X Ed E (.Expr e pos) (tDrop te) (dDrop de) :=
  ⟨ps_expr he.pe hs, fun B0 B1 A H0 H σ ρ R X d D r h => he.sim B0 B1 A H0 H σ ρ R X _ h _ fun x v H1 H2 R1 g1 r1 k => r.nx A H1 H2 σ ρ R1 k⟩
theorem st_ret (he : JE X Ed E e te de) : JS X Ed E (.Return (some e) pos) (tRet te) (dRet de) :=
  ⟨ps_ret he.pe, fun B0 B1 A H0 H σ ρ R X d D r h => he.sim B0 B1 A H0 H σ ρ R X _ h _ fun x v H1 H2 R1 g1 r1 k => r.rt A H1 H2 σ ρ x v R1 r1 k⟩
theorem st_retN : JS X Ed E (.Return none pos) tRetN dRetN := ⟨ps_retN, fun B0 B1 A H0 H σ ρ R X d D r h => r.rt A H0 H σ ρ .non .non R rfl h⟩
theorem st_if {x y : List Stmt} (hc : JT X Ed E c tt dt) (ha : JB X Ed E x ts ds) (hb : JB X Ed E y us dus) : JS X Ed E (.If c x y pos) (tIfS tt ts us) (dIfS dt ds dus) :=
  ⟨ps_if hc.pe ha.pe hb.pe, fun B0 B1 A H0 H σ ρ R X d D r h => hc.sim B0 B1 A H0 H σ ρ R X _ h _ fun b H1 H2 R1 g1 k => by
    cases b with
    | true => exact ha.sim B0 B1 A H1 H2 σ ρ R1 X d D r k
    | false => exact hb.sim B0 B1 A H1 H2 σ ρ R1 X d D r k⟩
theorem st_never : JS X Ed E st tNever dNever := ⟨ps_never, fun _ _ _ _ _ _ _ _ _ _ _ _ h => h.elim⟩
theorem b_never : JB X Ed E sts tNever dNever := ⟨pss_never, fun _ _ _ _ _ _ _ _ _ _ _ _ h => h.elim⟩

/-! ### targets -/
abbrev DG := D → Rho → (Rho → Prop) → Prop
abbrev DGs := List D → Rho → (Rho → Prop) → Prop
def SimG (K : PySem.W.Frag) (g : TG) (dg : DG) : Prop := ∀ B0 B1 A H0 H σ ρ x v, RepS K B0 B1 A H0 H σ ρ → Rep K H0 x v → ∀ Qd : Rho → Prop, dg x ρ Qd → ∀ Q : L2.St → Hp → Prop,
  (∀ A' σ' ρ', RepS K B0 B1 A' H0 H σ' ρ' → (∀ i a, A' i = some a → ∃ j, A j = some a) → Qd ρ' → Q σ' H) → g v σ H Q
def SimGs (K : PySem.W.Frag) (g : TGs) (dg : DGs) : Prop := ∀ B0 B1 A H0 H σ ρ xs vs, RepS K B0 B1 A H0 H σ ρ → Reps K H0 xs vs → ∀ Qd : Rho → Prop, dg xs ρ Qd → ∀ Q : L2.St → Hp → Prop,
  (∀ A' σ' ρ', RepS K B0 B1 A' H0 H σ' ρ' → (∀ i a, A' i = some a → ∃ j, A j = some a) → Qd ρ' → Q σ' H) → g vs σ H Q
structure JG (X : Cx) (tg : Expr) (g : TG) (dg : DG) : Prop where
  pe : PG X tg g
  sim : SimG X.K g dg
structure JGs (X : Cx) (tg : List Expr) (g : TGs) (dg : DGs) : Prop where
  pe : PGs X tg g
  sim : SimGs X.K g dg
def dName (i : Nat) (x : D) (ρ : Rho) (Q : Rho → Prop) : Prop := Q (ρ.set i (some (.d x)))
def dgNil (xs : List D) (ρ : Rho) (Q : Rho → Prop) : Prop := match xs with
  | [] => Q ρ
  | _ => False
def dgCons (t : DG) (u : DGs) (xs : List D) (ρ : Rho) (Q : Rho → Prop) : Prop := match xs with
  | x :: r => t x ρ fun ρ' => u r ρ' Q
  | [] => False
def dgTup (t : DGs) (x : D) (ρ : Rho) (Q : Rho → Prop) : Prop := match x with
  | .tup xs => t xs ρ Q
  | _ => False
theorem sim_name {i : Nat} : SimG K (gName i) (dName i) := fun B0 B1 A H0 H σ ρ x v R r Qd h Q q => q _ _ _ (R.setD i r) (fun j a e => ⟨j, (clr_some e).2⟩) h
theorem g_name {x : Str} (i : Nat) (hN : X.N.Nodup) (hi : X.N[i]? = some x := by rfl) (hx : Loc X.env.scope x := by first | exact Or.inl rfl | exact Or.inr rfl) (hf : X.fn x = true ∨ X.env.scope.names.lookup x = some .local := by first | exact .inl rfl | exact .inr rfl | assumption) : JG X (.Name x pos) (gName i) (dName i) := ⟨pg_name hN hi hx hf, sim_name⟩
theorem gs_nil : JGs X [] gNil dgNil := ⟨pgs_nil, fun B0 B1 A H0 H σ ρ xs vs R r Qd h Q q => by
  unfold dgNil at h
  split at h
  · cases (show vs = _ from r)
    exact ⟨rfl, q A σ ρ R (fun i a e => ⟨i, e⟩) h⟩
  · exact h.elim⟩
theorem gs_cons {g : TG} {dg : DG} {gs : TGs} {dgs : DGs} (h1 : JG X e g dg) (h2 : JGs X es gs dgs) (hs : (assignEach (e :: es) X.env).map (·.2) = assign e X.env :: (assignEach es X.env).map (·.2) := by rfl) : JGs X (e :: es) (gCons g gs) (dgCons dg dgs) :=
  ⟨pgs_cons h1.pe h2.pe hs, fun B0 B1 A H0 H σ ρ xs vs R r Qd h Q q => by
    unfold dgCons at h
    split at h
    · obtain ⟨v, vr, rfl, r1, r2⟩ := r
      exact ⟨v, vr, rfl, h1.sim B0 B1 A H0 H σ ρ _ v R r1 _ h _ fun A' σ' ρ' R' o' h' => h2.sim B0 B1 A' H0 H σ' ρ' _ vr R' r2 _ h' _ fun A2 σ2 ρ2 R2 o2 k2 =>
        q A2 σ2 ρ2 R2 (fun i a e => let ⟨j, z⟩ := o2 i a e; o' j a z) k2⟩
    · exact h.elim⟩
theorem g_tup {gs : TGs} {dgs : DGs} {k : Nat} {n : Nat} (hc : X.calm = true) (h : JGs X es gs dgs) (hd : ∀ xs ρ Q, dgs xs ρ Q → xs.length = n)
    (hn : (assignEach es X.env).length = n := by rfl) (hst : (assignEach es X.env).findIdx? (·.1) = none := by rfl) : JG X (.Tuple es k pos) (gTup X.K n gs) (dgTup dgs) := ⟨pg_tup hc h.pe hn hst, fun B0 B1 A H0 H σ ρ x v R r Qd hq Q q => by
  unfold dgTup at hq
  split at hq
  · obtain ⟨l, vs, rfl, hs, r1⟩ := r
    exact ⟨l, vs, rfl, sqt_mono R.ex hs, by rw [r1.length]; exact hd _ _ _ hq, h.sim B0 B1 A H0 H σ ρ _ vs R r1 Qd hq Q q⟩
  · exact hq.elim⟩
theorem len_nil : ∀ xs ρ Q, dgNil xs ρ Q → xs.length = 0 := fun xs ρ Q h => by
  cases xs with
  | nil => rfl
  | cons x r => exact (show False from h).elim
/-- names from the left -/
def dNames : List Nat → DGs
  | [] => dgNil
  | i :: r => dgCons (dName i) (dNames r)
theorem len_names : ∀ (l : List Nat) xs ρ Q, dNames l xs ρ Q → xs.length = l.length
  | [], xs, ρ, Q, h => len_nil xs ρ Q h
  | i :: r, [], ρ, Q, h => (show False from h).elim
  | i :: r, x :: xs, ρ, Q, h => congrArg (· + 1) (len_names r xs _ Q (show dNames r xs (ρ.set i (some (.d x))) Q from h))

def dAsg (de : DE) (g : DG) (d : DEnds) (ρ : Rho) : Prop := de ρ fun x => g x ρ d.nx
theorem sim_asg {g : TG} {dg : DG} (h : SimE K Ed E te de) (hg : SimG K g dg) : SimS K Ed E (tAsg te g) (dAsg de dg) := fun B0 B1 A H0 H σ ρ R X d D r hd =>
  h B0 B1 A H0 H σ ρ R X _ hd _ fun x v H1 H2 R1 g1 r1 k => hg B0 B1 A H1 H2 σ ρ x v R1 r1 _ k _ fun A' σ' ρ' R' _ k' => r.nx A' H1 H2 σ' ρ' R' k'
theorem st_asg {tg : Expr} {g : TG} {dg : DG} (he : JE X Ed E e te de) (hg : JG X tg g dg) (hs : swapsWithSole [tg] e pos.line X.env = pure false := by rfl) (hw : swappedStores [tg] e X.env = pure none := by rfl)
    (h1 : (assignEach [tg] X.env).map (·.2) = [assign tg X.env] := by rfl) : JS X Ed E (.Assign [tg] e pos) (tAsg te g) (dAsg de dg) := ⟨ps_asg he.pe hg.pe hs hw h1, sim_asg he.sim hg.sim⟩
theorem st_set {x : Str} {p2 : Pos} (i : Nat) (hN : X.N.Nodup) (he : JE X Ed E e te de) (hi : X.N[i]? = some x := by rfl) (hx : Loc X.env.scope x := by first | exact Or.inl rfl | exact Or.inr rfl) (hs : swapsWith e (some (.Name x p2)) pos.line X.env = pure false := by rfl)
    (hf : X.fn x = true ∨ X.env.scope.names.lookup x = some .local := by first | exact .inl rfl | exact .inr rfl | assumption) : JS X Ed E (.Assign [.Name x p2] e pos) (tAsg te (gName i)) (dAsg de (dName i)) := ⟨ps_set hN hi hx he.pe hs hf, sim_asg he.sim sim_name⟩
/-- a, b = x, y -/
def dPar (i j : Nat) (da : DA) (d : DEnds) (ρ : Rho) : Prop := da ρ fun xs => match xs with
  | [x, y] => d.nx ((ρ.set i (some (.d x))).set j (some (.d y)))
  | _ => False
theorem st_par {i j : Nat} {x y : Str} {px py pt : Pos} {kt k2 pt2} (hc : X.calm = true) (hN : X.N.Nodup) (hi : X.N[i]? = some x) (hj : X.N[j]? = some y) (hij : i ≠ j)
    (hx : X.env.scope.names.lookup x = some .local) (hy : X.env.scope.names.lookup y = some .local) (ha : JA X Ed E [a, b] tal dal)
    (hw : swappedStores [.Tuple [.Name x px, .Name y py] kt pt] (.Tuple [a, b] k2 pt2) X.env = pure (some [x, y]))
    (hs : swapsWithSole [.Tuple [.Name x px, .Name y py] kt pt] (.Tuple [a, b] k2 pt2) pos.line X.env = pure false := by rfl) :
    JS X Ed E (.Assign [.Tuple [.Name x px, .Name y py] kt pt] (.Tuple [a, b] k2 pt2) pos) (tPar i j tal) (dPar i j dal) := ⟨ps_par hc hN hi hj hij hx hy ha.pe hw hs, fun B0 B1 A H0 H σ ρ R X d D r hd =>
  ha.sim B0 B1 A H0 H σ ρ R X _ hd _ fun xs vs H1 H2 R1 g1 r1 k => by
    split at k
    · obtain ⟨v, vr, rfl, q1, w, wr, rfl, q2, e3⟩ := r1
      cases (show wr = _ from e3)
      exact ⟨v, w, rfl, r.nx _ _ _ _ _ ((R1.setD i q1).setD j q2) k⟩
    · exact k.elim⟩
/-- x op= e -/
def dAug (i : Nat) (r : D → D → (D → Prop) → Prop) (de : DE) (d : DEnds) (ρ : Rho) : Prop := match lk i ρ with
  | some (.d x) => de ρ fun y => r x y fun z => d.nx (ρ.set i (some (.d z)))
  | _ => False
theorem st_aug {x : Str} {p2 : Pos} {op : Operator} {ti : TIp} {rd : D → D → (D → Prop) → Prop} (i : Nat) (hN : X.N.Nodup) (ho : PIp X op ti) (sr : SimR2 X.K ti rd) (he : JE X Ed E e te de) (hi : X.N[i]? = some x := by rfl) (hx : Loc X.env.scope x := by first | exact Or.inl rfl | exact Or.inr rfl)
    (hf : X.fn x = true ∨ X.env.scope.names.lookup x = some .local := by first | exact .inl rfl | exact .inr rfl | assumption) : JS X Ed E (.AugAssign (.Name x p2) op e pos) (tAug i te ti) (dAug i rd de) := ⟨ps_aug hN hi hx he.pe ho hf, fun B0 B1 A H0 H σ ρ R X d D r hd => by
  unfold dAug at hd
  split at hd
  · rename_i x e
    obtain ⟨v, e1, _, u, e2, r0⟩ := R.slot i _ (lk_some e)
    subst e2
    exact ⟨u, e1, he.sim B0 B1 A H0 H σ ρ R X _ hd _ fun y w H1 H2 R1 g1 r1 k => sr H1 H2 u w x y R1.ex (Rep.mono g1.g0 _ _ r0) r1 _ k _ fun z v H3 H4 g3 r3 k3 => r.nx _ _ _ _ _ ((R1.grow g3).setD i r3) k3⟩
  · exact hd.elim⟩

/-! ### what is walked -/
abbrev DI := Rho → (List D → Prop) → Prop
/-- J yields the data xs, one after another, as long as what stood at its start stands -/
def Walks (K : PySem.W.Frag) (J : It) (Hs : Hp) (xs : List D) : Prop :=
  ∀ (i : Nat) (H0 H : Hp), Same H0 H → Same Hs H0 → (∀ x, xs[i]? = some x → J.go i H ∧ ∀ v H', J.yld i H v H' → ∃ H0', Grow H0 H H0' H' ∧ Rep K H0' x v) ∧ (xs[i]? = none → J.stop i H)
def SimI (K : PySem.W.Frag) (Ed : DX → Prop) (E : XK) (ti : TI) (di : DI) : Prop := ∀ B0 B1 A H0 H σ ρ, RepS K B0 B1 A H0 H σ ρ → ExRel K B0 B1 Ed E → ∀ Ld : List D → Prop, di ρ Ld → ∀ R : It → Hp → Prop,
  (∀ J xs H0' H', RepS K B0 B1 A H0' H' σ ρ → Grow H0 H H0' H' → Walks K J H0' xs → Ld xs → R J H') → ti σ H R
structure JI (X : Cx) (Ed : DX → Prop) (E : XK) (tg iter : Expr) (ti : TI) (di : DI) : Prop where
  pe : PI X tg iter ti
  sim : SimI X.K Ed E ti di
/-- a list or a tuple -/
def dSeqI (de : DE) (ρ : Rho) (L : List D → Prop) : Prop := de ρ fun x => match x with
  | .lst xs => L xs
  | .tup xs => L xs
  | _ => False
def dLstI (de : DE) (ρ : Rho) (L : List D → Prop) : Prop := de ρ fun x => match x with
  | .lst xs => L xs
  | _ => False
def dTupI (de : DE) (ρ : Rho) (L : List D → Prop) : Prop := de ρ fun x => match x with
  | .tup xs => L xs
  | _ => False
theorem walks_lst {Hs : Hp} {l : Addr} {vs : List V} {xs : List D} (h : SqL K Hs l vs) (r : Reps K Hs xs vs) (hu : ∀ H us, Same Hs H → SqL K H l us → us = vs) : Walks K (Itl K l) Hs xs := fun i H0 H sm s0 => by
  have hs := sm.seq (s0.seq h)
  refine ⟨fun x hx => ?_, fun hx => ⟨vs, hs, ?_⟩⟩
  · obtain ⟨v, hv, rv⟩ := r.get hx
    refine ⟨⟨vs, v, hs, hv⟩, fun u H' y => ?_⟩
    obtain ⟨rfl, y⟩ := y
    have e := y vs hs
    rw [hv] at e
    cases e
    exact ⟨H0, .refl sm, Rep.mono s0 _ _ rv⟩
  · rw [r.length]
    exact List.getElem?_eq_none_iff.mp hx
theorem walks_lst' {Hs : Hp} {l : Addr} {vs : List V} {xs : List D} (h : SqL K Hs l vs) (r : Reps K Hs xs vs) : Walks K (Itl K l) Hs xs := fun i H0 H sm s0 => by
  have hs := sm.seq (s0.seq h)
  refine ⟨fun x hx => ?_, fun hx => ⟨vs, hs, ?_⟩⟩
  · obtain ⟨v, hv, rv⟩ := r.get hx
    refine ⟨⟨vs, v, hs, hv⟩, fun u H' y => ?_⟩
    obtain ⟨rfl, y⟩ := y
    have e := y vs hs
    rw [hv] at e
    cases e
    exact ⟨H0, .refl sm, Rep.mono s0 _ _ rv⟩
  · rw [r.length]
    exact List.getElem?_eq_none_iff.mp hx
theorem walks_tup {Hs : Hp} {l : Addr} {vs : List V} {xs : List D} (h : SqT K Hs l vs) (r : Reps K Hs xs vs) : Walks K (Itt K l) Hs xs := fun i H0 H sm s0 => by
  have hs := sqt_mono sm (sqt_mono s0 h)
  refine ⟨fun x hx => ?_, fun hx => ⟨vs, hs, ?_⟩⟩
  · obtain ⟨v, hv, rv⟩ := r.get hx
    refine ⟨⟨vs, v, hs, hv⟩, fun u H' y => ?_⟩
    obtain ⟨rfl, y⟩ := y
    have e := y vs hs
    rw [hv] at e
    cases e
    exact ⟨H0, .refl sm, Rep.mono s0 _ _ rv⟩
  · rw [r.length]
    exact List.getElem?_eq_none_iff.mp hx
def intsD (lo : Int) (n : Nat) : List D := (List.range n).map fun (i : Nat) => D.int (lo + (i : Int))
theorem walks_rng {Hs : Hp} {lo : Int} {n : Nat} : Walks K (Itr lo n) Hs (intsD lo n) := fun i H0 H sm s0 => by
  refine ⟨fun x hx => ?_, fun hx => ?_⟩
  · obtain ⟨hi, e⟩ := List.getElem?_eq_some_iff.mp hx
    have hi : i < n := by simpa [intsD] using hi
    refine ⟨hi, fun u H' y => ?_⟩
    obtain ⟨rfl, rfl⟩ := y
    refine ⟨H0, .refl sm, ?_⟩
    rw [← e]
    simp [intsD, Rep]
  · have e := List.getElem?_eq_none_iff.mp hx
    show n ≤ i
    simpa [intsD] using e
theorem i_lst {tg : Expr} (h : JE X Ed E e te de) : JI X Ed E tg e (iList X.K te) (dLstI de) := ⟨pi_list h.pe, fun B0 B1 A H0 H σ ρ R X Ld hd Q q => h.sim B0 B1 A H0 H σ ρ R X _ hd _ fun x v H1 H2 R1 g1 r1 k => by
  split at k
  · obtain ⟨l, vs, rfl, hs, r⟩ := r1
    exact ⟨l, rfl, ⟨vs, R1.ex.seq hs⟩, q _ _ H1 H2 R1 g1 (walks_lst' hs r) k⟩
  · exact k.elim⟩
theorem i_tup {tg : Expr} (h : JE X Ed E e te de) : JI X Ed E tg e (iTup X.K te) (dTupI de) := ⟨pi_tup h.pe, fun B0 B1 A H0 H σ ρ R X Ld hd Q q => h.sim B0 B1 A H0 H σ ρ R X _ hd _ fun x v H1 H2 R1 g1 r1 k => by
  split at k
  · obtain ⟨l, vs, rfl, hs, r⟩ := r1
    exact ⟨l, rfl, ⟨vs, sqt_mono R1.ex hs⟩, q _ _ H1 H2 R1 g1 (walks_tup hs r) k⟩
  · exact k.elim⟩
/-- a list or a tuple, whichever it is -/
def iSeq (K : PySem.W.Frag) (tl : TE) : TI := fun σ H R => tl σ H fun x H1 => (∃ a, x = .ref a ∧ (∃ xs, SqL K H1 a xs) ∧ R (Itl K a) H1) ∨ (∃ a, x = .ref a ∧ (∃ xs, SqT K H1 a xs) ∧ R (Itt K a) H1)
theorem pi_seq {tg l : Expr} {tl : TE} (hl : PE X l tl) : PI X tg l (iSeq X.K tl) := by
  refine ⟨fun pins s σ H R I h => ?_⟩
  refine thn (hl.run pins s σ H _ I h) fun v s1 ⟨x, H1, I1, r1, q1⟩ => ?_
  rcases q1 with ⟨a, e, ⟨xs, hq⟩, q⟩ | ⟨a, e, ⟨xs, hq⟩, q⟩
  · subst e
    cases r1
    obtain ⟨its, rv, p, hz⟩ := I1.list hq
    refine wpAny_pyIter_list p.isList ⟨s1.heap.objs.size, [s1.heap.objs.size], _, _, H1, rfl, I1.kept (t' := s1.toks) fun b o e => Heap.get?_push_of_some _ e, turn_list a _, ⟨_, Heap.get?_push_size _ rfl, rfl, rfl⟩, fun b hb => ?_, q⟩
    obtain rfl : b = s1.heap.objs.size := by simpa using hb
    exact I1.fpOk (Nat.le_refl _) (I1.hok.fresh (Nat.le_refl _))
  · subst e
    cases r1
    obtain ⟨its, rv, p, hz⟩ := I1.tuple hq
    refine wpAny_pyIter_tuple (show s1.heap.IsTuple a its.toArray from p) ⟨s1.heap.objs.size, [s1.heap.objs.size], _, _, H1, rfl, I1.kept (t' := s1.toks) fun b o e => Heap.get?_push_of_some _ e, turn_tuple a _, ⟨_, Heap.get?_push_size _ rfl, rfl, rfl⟩, fun b hb => ?_, q⟩
    obtain rfl : b = s1.heap.objs.size := by simpa using hb
    exact I1.fpOk (Nat.le_refl _) (I1.hok.fresh (Nat.le_refl _))
theorem i_seq {tg : Expr} (h : JE X Ed E e te de) : JI X Ed E tg e (iSeq X.K te) (dSeqI de) := ⟨pi_seq h.pe, fun B0 B1 A H0 H σ ρ R X Ld hd Q q => h.sim B0 B1 A H0 H σ ρ R X _ hd _ fun x v H1 H2 R1 g1 r1 k => by
  split at k
  · obtain ⟨l, vs, rfl, hs, r⟩ := r1
    exact .inl ⟨l, rfl, ⟨vs, R1.ex.seq hs⟩, q _ _ H1 H2 R1 g1 (walks_lst' hs r) k⟩
  · obtain ⟨l, vs, rfl, hs, r⟩ := r1
    exact .inr ⟨l, rfl, ⟨vs, sqt_mono R1.ex hs⟩, q _ _ H1 H2 R1 g1 (walks_tup hs r) k⟩
  · exact k.elim⟩
def dRng1 (da : DA) (ρ : Rho) (L : List D → Prop) : Prop := da ρ fun xs => match xs with
  | [.int n] => (-(2 ^ 62) ≤ n ∧ n < 2 ^ 62) ∧ L (intsD 0 n.toNat)
  | _ => False
def dRng2 (da : DA) (ρ : Rho) (L : List D → Prop) : Prop := da ρ fun xs => match xs with
  | [.int i, .int j] => (-(2 ^ 62) ≤ i ∧ i < 2 ^ 62 ∧ -(2 ^ 62) ≤ j ∧ j < 2 ^ 62) ∧ L (intsD i (j - i).toNat)
  | _ => False
theorem i_rng1 {tg : Expr} {p : Pos} (hm : X.mg "range" = none) (ha : JA X Ed E [a] tal dal) (hg : Gl X "range" := by rfl) (hs : starEach [a] X.env = [(false, eval a X.env)] := by rfl) : JI X Ed E tg (.Call (.Name "range" p) [a] [] pos) (iRng1 tal) (dRng1 dal) :=
  ⟨pi_range1 hg hm ha.pe hs, fun B0 B1 A H0 H σ ρ R X Ld hd Q q => ha.sim B0 B1 A H0 H σ ρ R X _ hd _ fun xs vs H1 H2 R1 g1 r1 k => by
    split at k
    · rename_i n
      obtain ⟨v, vr, rfl, q1, e3⟩ := r1
      cases (show vr = _ from e3)
      cases (show v = _ from q1)
      exact ⟨n, rfl, k.1.1, k.1.2, q _ _ H1 H2 R1 g1 walks_rng k.2⟩
    · exact k.elim⟩
theorem i_rng2 {tg : Expr} {p : Pos} (hm : X.mg "range" = none) (ha : JA X Ed E [a, b] tal dal) (hg : Gl X "range" := by rfl) (hs : starEach [a, b] X.env = [(false, eval a X.env), (false, eval b X.env)] := by rfl) (hs2 : starEach [b] X.env = [(false, eval b X.env)] := by rfl) :
    JI X Ed E tg (.Call (.Name "range" p) [a, b] [] pos) (iRng2 tal) (dRng2 dal) :=
  ⟨pi_range2 hg hm ha.pe hs hs2, fun B0 B1 A H0 H σ ρ R X Ld hd Q q => ha.sim B0 B1 A H0 H σ ρ R X _ hd _ fun xs vs H1 H2 R1 g1 r1 k => by
    split at k
    · rename_i i j
      obtain ⟨v, vr, rfl, q1, w, wr, rfl, q2, e3⟩ := r1
      cases (show wr = _ from e3)
      cases (show v = _ from q1)
      cases (show w = _ from q2)
      exact ⟨i, j, rfl, k.1, q _ _ H1 H2 R1 g1 walks_rng k.2⟩
    · exact k.elim⟩

/-! ### for -/
def loopD (g : DG) (tb : DS) (d : DEnds) : List D → Rho → Prop
  | [], ρ => d.nx ρ
  | x :: r, ρ => g x ρ fun ρ' => tb { d with nx := loopD g tb d r, ct := loopD g tb d r, bk := d.nx } ρ'
def dFor (di : DI) (g : DG) (tb : DS) (d : DEnds) (ρ : Rho) : Prop := di ρ fun xs => loopD g tb d xs ρ
theorem drop_at {α : Type} {xs : List α} {i : Nat} : (∃ x, xs[i]? = some x ∧ xs.drop i = x :: xs.drop (i + 1)) ∨ (xs[i]? = none ∧ xs.drop i = []) := by
  by_cases h : i < xs.length
  · exact .inl ⟨xs[i], List.getElem?_eq_getElem h, List.drop_eq_getElem_cons h⟩
  · exact .inr ⟨List.getElem?_eq_none (by omega), List.drop_eq_nil_of_le (by omega)⟩
theorem sim_for {ti : TI} {di : DI} {g : TG} {dg : DG} {tb : TS} {dtb : DS} (hi : SimI K Ed E ti di) (hg : SimG K g dg) (hb : SimS K Ed E tb dtb) : SimS K Ed E (tFor ti g tb) (dFor di dg dtb) := fun B0 B1 A H0 H σ ρ R X d D r hd =>
  hi B0 B1 A H0 H σ ρ R X _ hd _ fun J xs Hs0 Hs Rs gs wk hl => by
    obtain ⟨B1', Rb, smB, nB, oB, bk⟩ := Rs.rebase
    have hbn : ∀ p, B1' p = none → B1 p = none := fun p hp => by
      by_cases ho : ∃ i, A i = some p
      · obtain ⟨i, hi⟩ := ho
        exact (Rs.own i p hi).2.1
      · by_cases hH : Hs p = none
        · exact Rs.gr.g1.free hH
        · rw [oB p hH (fun i z => ho ⟨i, z⟩)] at hp
          exact absurd hp hH
    have X' : ExRel K Hs0 B1' Ed E := X.grow bk
    -- the word: the rest of the walk
    refine ⟨fun i m σ' H' => m = xs.length - i ∧ ∃ A' H0' ρ', RepS K Hs0 B1' A' H0' H' σ' ρ' ∧ loopD dg dtb d (xs.drop i) ρ', ⟨xs.length, by simp, A, Hs0, ρ, Rb, by simpa using hl⟩, ?_⟩
    rintro i m σ' H' ⟨rfl, A', H0', ρ', R', hq⟩
    obtain ⟨hgo, hst⟩ := wk i H0' H' R'.ex R'.gr.g0
    rcases drop_at (xs := xs) (i := i) with ⟨x, hx, hdr⟩ | ⟨hx, hdr⟩
    · rw [hdr] at hq
      obtain ⟨go, yl⟩ := hgo x hx
      have hlt : i < xs.length := (List.getElem?_eq_some_iff.mp hx).1
      refine .inr ⟨go, fun σ2 H2 => ∃ A2 H02 ρ2, RepS K Hs0 B1' A2 H02 H2 σ2 ρ2 ∧ loopD dg dtb d (xs.drop (i + 1)) ρ2, fun σ2 H2 n2 => ⟨xs.length - (i + 1), by omega, rfl, n2⟩, fun v Hn y => ?_⟩
      obtain ⟨H0n, gn, rn⟩ := yl v Hn y
      refine hg Hs0 B1' A' H0n Hn σ' ρ' x v (R'.grow gn) rn _ hq _ fun A2 σ2 ρ2 R2 _ k2 => ?_
      refine hb Hs0 B1' A2 H0n Hn σ2 ρ2 R2 X' { d with nx := loopD dg dtb d (xs.drop (i + 1)), ct := loopD dg dtb d (xs.drop (i + 1)), bk := d.nx } _ ⟨fun A3 H03 H3 σ3 ρ3 R3 k3 => ⟨A3, H03, ρ3, R3, k3⟩, fun A3 H03 H3 σ3 ρ3 z w R3 rz k3 => r.rt A3 H03 H3 σ3 ρ3 z w (R3.unbase bk hbn) rz k3, fun A3 H03 H3 σ3 ρ3 R3 k3 => r.nx A3 H03 H3 σ3 ρ3 (R3.unbase bk hbn) k3, fun A3 H03 H3 σ3 ρ3 R3 k3 => ⟨A3, H03, ρ3, R3, k3⟩⟩ k2
    · rw [hdr] at hq
      exact .inl ⟨hst hx, r.nx A' H0' H' σ' ρ' (R'.unbase bk hbn) hq⟩
theorem st_for {tg iter : Expr} {ti : TI} {di : DI} {g : TG} {dg : DG} {tb : TS} {dtb : DS} {body : List Stmt} (hp : PassesOwn (model X.prog X.w) X.A X.env X.xe) (hc : X.calm = true) (hi : JI X Ed E tg iter ti di) (hg : JG X tg g dg) (hb : JB X Ed E body tb dtb)
    (hs : ∀ x, foldedSetIterable iter X.env x = pure x := by intro _; rfl) : JS X Ed E (.For tg iter body [] pos) (tFor ti g tb) (dFor di dg dtb) := ⟨ps_for hp hc hi.pe hg.pe hb.pe hs, sim_for hi.sim hg.sim hb.sim⟩
/-- a loop by its invariant -/
theorem loopD_inv {g : DG} {tb : DS} {d : DEnds} (Inv : List D → Rho → Prop) : ∀ (xs : List D) (ρ : Rho), Inv xs ρ → (∀ x r ρ, Inv (x :: r) ρ → (∀ N : Rho → Prop, (∀ ρ', Inv r ρ' → N ρ') → g x ρ fun ρ' => tb { d with nx := N, ct := N, bk := d.nx } ρ')) → (∀ ρ, Inv [] ρ → d.nx ρ) → loopD g tb d xs ρ
  | [], ρ, h, _, hd => hd ρ h
  | x :: r, ρ, h, hs, hd => hs x r ρ h _ fun ρ' h' => loopD_inv Inv r ρ' h' hs hd
end
end DL

namespace DL
open PySem PySem.Spec PyProof.Rows L2

/-! ### promises over data -/
abbrev Wp := List D → (D → Prop) → (DX → Prop) → Prop
def SpW (K : PySem.W.Frag) (wp : Wp) : Sp := fun vs H Q E => ∃ (H0 : Hp) (ds : List D) (Qd : D → Prop) (Ed : DX → Prop), Same H0 H ∧ Reps K H0 ds vs ∧ wp ds Qd Ed ∧
  (∀ d v H0' H', Grow H0 H H0' H' → Rep K H0' d v → Qd d → Q v H') ∧ ExRel K H0 H Ed E
def startD : Nat → List D → Rho
  | 0, _ => []
  | n + 1, d :: ds => some (.d d) :: startD n ds
  | n + 1, [] => none :: startD n []
theorem startD_len : ∀ (n : Nat) (ds : List D), (startD n ds).length = n
  | 0, _ => rfl
  | n + 1, d :: ds => congrArg (· + 1) (startD_len n ds)
  | n + 1, [] => congrArg (· + 1) (startD_len n [])
theorem startD_at : ∀ {n : Nat} {ds : List D} {i : Nat} {w : Option SV}, (startD n ds)[i]? = some w → w = none ∨ ∃ d, ds[i]? = some d ∧ w = some (.d d)
  | 0, _, i, w, h => by simp [startD] at h
  | n + 1, d :: ds, 0, w, h => by
    have h : some (some (SV.d d)) = some w := h
    cases h
    exact .inr ⟨d, rfl, rfl⟩
  | n + 1, d :: ds, i + 1, w, h => by
    rcases startD_at (n := n) (ds := ds) (i := i) (w := w) h with e | ⟨x, e1, e2⟩
    · exact .inl e
    · exact .inr ⟨x, by simpa using e1, e2⟩
  | n + 1, [], 0, w, h => by
    have h : some none = some w := h
    cases h
    exact .inl rfl
  | n + 1, [], i + 1, w, h => by
    rcases startD_at (n := n) (ds := []) (i := i) (w := w) h with e | ⟨x, e1, e2⟩
    · exact .inl e
    · simp at e1
section
variable {K : PySem.W.Frag} {B0 B1 H0 H : Hp}
theorem start_at {N : List Str} {vs : List V} {i : Nat} {v : V} (h : vs[i]? = some v) : (L2.start N vs)[i]? = some (some v) := by
  unfold L2.start
  have hi := (List.getElem?_eq_some_iff.mp h).1
  rw [List.getElem?_append_left (by simpa using hi), List.getElem?_map, h]
  rfl
theorem start_len {N : List Str} {vs : List V} (h : vs.length ≤ N.length) : (L2.start N vs).length = N.length := by
  unfold L2.start
  rw [List.length_append, List.length_map, List.length_replicate]
  omega
theorem start_has {N : List Str} {vs : List V} {i : Nat} (h : vs.length ≤ N.length) (hi : i < N.length) : ∃ v, (L2.start N vs)[i]? = some v := ⟨_, List.getElem?_eq_getElem (by rw [start_len h]; exact hi)⟩
theorem startS {N : List Str} {ds : List D} {vs : List V} (sm : Same H0 H) (r : Reps K H0 ds vs) (hl : ds.length ≤ N.length) : RepS K H0 H (fun _ => none) H0 H (L2.start N vs) (startD N.length ds) := by
  have hv : vs.length ≤ N.length := by rw [r.length]; exact hl
  refine ⟨sm, .refl sm, by rw [start_len hv, startD_len], fun i w e => ?_, (fun _ _ _ h => nomatch h), (fun _ _ h => nomatch h)⟩
  rcases startD_at e with rfl | ⟨d, e1, rfl⟩
  · have hi : i < N.length := by
      have := (List.getElem?_eq_some_iff.mp e).1
      rwa [startD_len] at this
    obtain ⟨v, hv⟩ := start_has hv hi
    exact ⟨v, hv, rfl⟩
  · obtain ⟨v, hv, rv⟩ := r.get e1
    exact ⟨some v, start_at hv, rfl, v, rfl, rv⟩
end

section
variable {P : Program} {w : World} {K : PySem.W.Frag} {mg : Str → Option Value} {base : Heap}
/-- a def (or method) of the text as it stands behind the top, whatever its defaults -/
structure FunX (K : PySem.W.Frag) (x qual : Str) (st : Stmt) (f : Addr) (fd : FuncData) : Prop where
  ex : ∃ (oc : Value) (od : Option Addr) (dV kV doc pm : Value) (an : Option Addr) (cdv ct : Value) (osl : Array (Option Value)),
    fd = PySem.W.fnOf x qual (defArgs st) (defBody st) (defScope st) dV kV doc pm an cdv ct ∧ K.lookup f = some ⟨oc, od, .func fd, osl⟩ ∧ PySem.W.codeIn K cdv qual = true
  kp : PySem.W.keepIn K (.ref f) = true
theorem FunX.okX {x qual : Str} {st : Stmt} {f : Addr} {fd : FuncData} {N ps : List Str} {k : Nat} {sp : Sp} (F : FunX K x qual st f fd) (S : FnScope N ps (defScope st)) (len : ∀ vs H Q E, sp vs H Q E → vs.length = ps.length)
    (hbody : ∀ (cdv : Value) (A : Around) (outer : List Env) (s : Shared) (H : Hp) (vs : List V) (Q : VK) (E : XK), Room k (A.deeper (envOfC qual (defScope st) s.heap.objs.size f cdv)) → sp vs H Q E →
      ∃ t, PSs (cxOf (L2.CX P w) P w K mg base N qual (defScope st) f cdv A outer s H E) (defBody st) t ∧ t { nx := fun _ H' => Q .non H', rt := Q } (L2.start N vs) H) : FnOk P w K mg base (L2.CX P w) (k + 1) f fd ps sp := by
  obtain ⟨oc, od, dV, kV, doc, pm, an, cdv, ct, osl, rfl, lk, hcd⟩ := F.ex
  exact fn_of lk hcd S len fun A outer s H vs Q E hr hsp => hbody cdv A outer s H vs Q E hr hsp
theorem funX_mk {x qual : Str} {st : Stmt} {f : Addr} {oc dV : Value} {od an : Option Addr} {osl : Array (Option Value)} {kV doc pm cdv ct : Value} (l : K.lookup f = some ⟨oc, od, .func (PySem.W.fnOf x qual (defArgs st) (defBody st) (defScope st) dV kV doc pm an cdv ct), osl⟩)
    (c : PySem.W.codeIn K cdv qual = true) (k : PySem.W.keepIn K (.ref f) = true) : FunX K x qual st f (PySem.W.fnOf x qual (defArgs st) (defBody st) (defScope st) dV kV doc pm an cdv ct) := ⟨⟨oc, od, dV, kV, doc, pm, an, cdv, ct, osl, rfl, l, c⟩, k⟩
/-- how its arguments bind where there are no defaults -/
theorem bindsX {x qual : Str} {st : Stmt} {kV doc pm : Value} {an : Option Addr} {cdv ct : Value} {ps : List Str}
    (h : ∀ us : List Value, us.length = ps.length → bindArgs (PySem.W.fnOf x qual (defArgs st) (defBody st) (defScope st) .none kV doc pm an cdv ct) ⟨us, []⟩ = pure (ps.zip us)) : Binds K (PySem.W.fnOf x qual (defArgs st) (defBody st) (defScope st) .none kV doc pm an cdv ct) ps [] := .all h
/-- .. n values given, the rest from the defaults behind the first j -/
theorem bindsXD {x qual : Str} {st : Stmt} {kV doc pm : Value} {an : Option Addr} {cdv ct : Value} {ps : List Str} {T : Addr} {o : Obj} {its : List Value} {m : Nat} (n j : Nat) (lT : K.lookup T = some o) (oT : o.data = .seq its.toArray m) (hn : n + (its.length - j) = ps.length)
    (h : ∀ us : List Value, us.length = n → ∃ k, bindArgs (PySem.W.fnOf x qual (defArgs st) (defBody st) (defScope st) (.ref T) kV doc pm an cdv ct) ⟨us, []⟩ = seqItems? (.ref T) >>= k ∧ k (some its.toArray) = pure (ps.zip (us ++ its.drop j))) :
    Binds K (PySem.W.fnOf x qual (defArgs st) (defBody st) (defScope st) (.ref T) kV doc pm an cdv ct) ps (its.drop j) := fun s us X hlen => by
  have l2 : us.length = n := by
    rw [List.length_append, List.length_drop] at hlen
    omega
  obtain ⟨k, e1, e2⟩ := h us l2
  refine BindsTo.of_looks fun M => ?_
  rw [e1]
  exact looks_items X lT oT (.of_pure e2)
/-- the place of a def's body -/
abbrev bx (P : Program) (w : World) (K : PySem.W.Frag) (mg : Str → Option Value) (base : Heap) (N : List Str) (qual : Str) (st : Stmt) (f : Addr) (cdv : Value) (A : Around) (outer : List Env) (s : Shared) (H : Hp) (E : XK) : Cx :=
  cxOf (L2.CX P w) P w K mg base N qual (defScope st) f cdv A outer s H E
theorem passE {N : List Str} {qual : Str} {st : Stmt} {f : Addr} {cdv : Value} {A : Around} {outer : List Env} {s : Shared} {H : Hp} {E : XK} : Passes (L2.CX P w) (bx P w K mg base N qual st f cdv A outer s H E) E :=
  passes_call (X := bx P w K mg base N qual st f cdv A outer s H E) (W := fun c d _ H => E c d H) (takes_of rfl rfl rfl rfl) fun _ _ _ _ h => h
theorem fn_ok {x qual : Str} {st : Stmt} {f : Addr} {fd : FuncData} {N ps : List Str} {k : Nat} {wp : Wp} (n : Nat) (hn : N.length = n) (F : FunX K x qual st f fd) (S : FnScope N ps (defScope st)) (len : ∀ ds Q Ed, wp ds Q Ed → ds.length = ps.length)
    (body : ∀ (cdv : Value) (A : Around) (outer : List Env) (s : Shared) (H : Hp) (E : XK), Room k (A.deeper (envOfC qual (defScope st) s.heap.objs.size f cdv)) → ∀ (ds : List D) (Qd : D → Prop) (Ed : DX → Prop), wp ds Qd Ed →
      ∃ ts bs, JB (bx P w K mg base N qual st f cdv A outer s H E) Ed E (defBody st) ts bs ∧ bs { nx := fun _ => Qd .non, rt := fun x _ => Qd x } (startD n ds)) : FnOk P w K mg base (L2.CX P w) (k + 1) f fd ps (SpW K wp) := by
  have hpl : ps.length ≤ N.length := by
    have e := congrArg List.length S.pre
    rw [List.length_take] at e
    omega
  subst hn
  refine F.okX S (fun vs H Q E h => ?_) (fun cdv A outer s H vs Q E hr h => ?_)
  · obtain ⟨H0, ds, Qd, Ed, sm, r, hw, _⟩ := h
    rw [r.length]
    exact len ds Qd Ed hw
  · obtain ⟨H0, ds, Qd, Ed, sm, r, hw, q, x⟩ := h
    obtain ⟨ts, bs, jb, hb⟩ := body cdv A outer s H E hr ds Qd Ed hw
    refine ⟨ts, jb.pe, jb.sim H0 H _ H0 H _ _ (startS sm r (by rw [len ds Qd Ed hw]; exact hpl)) x { nx := fun _ => Qd .non, rt := fun x _ => Qd x } _ ⟨fun A H0' H' σ ρ R h => q .non .non H0' H' R.gr rfl h, fun A H0' H' σ ρ d v R rv h => q d v H0' H' R.gr rv h, fun _ _ _ _ _ _ h => h.elim, fun _ _ _ _ _ _ h => h.elim⟩ hb⟩

/-- a def of the module by its name; dvs, dd: what fills the parameters that are not given -/
structure Callee (P : Program) (w : World) (K : PySem.W.Frag) (mg : Str → Option Value) (base : Heap) (x : Str) (k : Nat) (wp : Wp) (dvs : List V) (dd : List D) : Prop where
  ex : ∃ (f : Addr) (fd : FuncData) (ps : List Str) (ds : List Value), mg x = some (.ref f) ∧ PySem.W.keepIn K (.ref f) = true ∧ FnOk P w K mg base (L2.CX P w) k f fd ps (SpW K wp) ∧ Binds K fd ps ds ∧ Vals dvs ds ∧ ∀ H, Reps K H dd dvs
theorem Callee.mono {x : Str} {j k : Nat} {wp : Wp} {dvs : List V} {dd : List D} (c : Callee P w K mg base x j wp dvs dd) (h : j ≤ k) : Callee P w K mg base x k wp dvs dd := by
  obtain ⟨f, fd, ps, ds, h1, h2, F, h3⟩ := c.ex
  exact ⟨f, fd, ps, ds, h1, h2, F.mono h, h3⟩
end

section
variable {X : Cx} {Ed : DX → Prop} {E : XK} {K : PySem.W.Frag} {pos p : Pos} {e a b c o : Expr} {te ta tb tc : TE} {de da db dc : DE} {tal : TA} {dal : DA} {es : List Expr} {wp : Wp} {k : Nat} {x : Str}
def dCall (wp : Wp) (Ed : DX → Prop) (da : DA) (ρ : Rho) (Q : D → Prop) : Prop := da ρ fun ds => wp ds Q Ed
def dCallD (wp : Wp) (dd : List D) (Ed : DX → Prop) (da : DA) (ρ : Rho) (Q : D → Prop) : Prop := da ρ fun ds => wp (ds ++ dd) Q Ed
theorem sp_of {B0 B1 H0 H : Hp} {A : Nat → Option Addr} {σ : L2.St} {ρ : Rho} {ds : List D} {vs : List V} {Qd : D → Prop} {Q : VK} (R : RepS K B0 B1 A H0 H σ ρ) (x : ExRel K B0 B1 Ed E) (r : Reps K H0 ds vs) (h : wp ds Qd Ed)
    (q : ∀ x v H0' H', RepS K B0 B1 A H0' H' σ ρ → Grow H0 H H0' H' → Rep K H0' x v → Qd x → Q v H') : SpW K wp vs H Q E :=
  ⟨H0, ds, Qd, Ed, R.ex, r, h, fun d v H0' H' g rv hd => q d v H0' H' (R.grow g) g rv hd, x.grow fun _ _ g => R.gr.trans g⟩
theorem sim_callD {dvs : List V} {dd : List D} (hd : ∀ H, Reps K H dd dvs) (ha : SimA K Ed E tal dal) : SimE K Ed E (tCall (SpW K wp) dvs E tal) (dCallD wp dd Ed dal) := fun B0 B1 A H0 H σ ρ R X Qd h Q q =>
  ha B0 B1 A H0 H σ ρ R X _ h _ fun ds vs H1 H2 R1 g1 r1 k => sp_of R1 X (r1.append (hd _)) k fun x v H3 H4 R2 g2 r2 k2 => q x v H3 H4 R2 (g1.trans g2) r2 k2
theorem sim_call (ha : SimA K Ed E tal dal) : SimE K Ed E (tCall (SpW K wp) [] E tal) (dCall wp Ed dal) := fun B0 B1 A H0 H σ ρ R X Qd h Q q =>
  ha B0 B1 A H0 H σ ρ R X _ h _ fun ds vs H1 H2 R1 g1 r1 k => by
    rw [List.append_nil]
    exact sp_of R1 X r1 k fun x v H3 H4 R2 g2 r2 k2 => q x v H3 H4 R2 (g1.trans g2) r2 k2
theorem e_callD {dvs : List V} {dd : List D} (F : Callee X.prog X.w X.K X.mg X.base x k wp dvs dd) (hr : Room k X.A) (hx : Passes (L2.CX X.prog X.w) X E) (ha : JA X Ed E (e :: es) tal dal) (hg : Gl X x := by rfl) (hdb : (x == ("__debug__" : Str)) = false := by decide)
    (he : starEach (e :: es) X.env = (false, eval e X.env) :: starEach es X.env := by rfl) (hpl : (backTo pos (starEach es X.env)).any (·.1) = false := by rfl) : JE X Ed E (.Call (.Name x p) (e :: es) [] pos) (tCall (SpW X.K wp) dvs E tal) (dCallD wp dd Ed dal) := by
  obtain ⟨f, fd, ps, ds, h1, h2, h3, h4, h5, h6⟩ := F.ex
  exact ⟨pe_call h3 hr hg h1 h2 h4 h5 hx ha.pe hdb he hpl, sim_callD h6 ha.sim⟩
theorem e_call (F : Callee X.prog X.w X.K X.mg X.base x k wp [] []) (hr : Room k X.A) (hx : Passes (L2.CX X.prog X.w) X E) (ha : JA X Ed E (e :: es) tal dal) (hg : Gl X x := by rfl) (hdb : (x == ("__debug__" : Str)) = false := by decide)
    (he : starEach (e :: es) X.env = (false, eval e X.env) :: starEach es X.env := by rfl) (hpl : (backTo pos (starEach es X.env)).any (·.1) = false := by rfl) : JE X Ed E (.Call (.Name x p) (e :: es) [] pos) (tCall (SpW X.K wp) [] E tal) (dCall wp Ed dal) := by
  obtain ⟨f, fd, ps, ds, h1, h2, h3, h4, h5, h6⟩ := F.ex
  exact ⟨pe_call h3 hr hg h1 h2 h4 h5 hx ha.pe hdb he hpl, sim_call ha.sim⟩
theorem e_call0 {dvs : List V} {dd : List D} (F : Callee X.prog X.w X.K X.mg X.base x k wp dvs dd) (hr : Room k X.A) (hx : Passes (L2.CX X.prog X.w) X E) (hg : Gl X x := by rfl) (hdb : (x == ("__debug__" : Str)) = false := by decide) :
    JE X Ed E (.Call (.Name x p) [] [] pos) (tCall (SpW X.K wp) dvs E tNil) (dCallD wp dd Ed dNil) := by
  obtain ⟨f, fd, ps, ds, h1, h2, h3, h4, h5, h6⟩ := F.ex
  exact ⟨pe_call0 h3 hr hg h1 h2 h4 h5 hx hdb, sim_callD h6 sim_nil⟩

/-! ### built-ins by name -/
def dCB (rd : List D → (D → Prop) → Prop) (da : DA) (ρ : Rho) (Q : D → Prop) : Prop := da ρ fun ds => rd ds Q
theorem sim_CB {r : List V → Hp → VK → Prop} {rd : List D → (D → Prop) → Prop} (sr : SimRC K r rd) (ha : SimA K Ed E tal dal) : SimE K Ed E (tCB r tal) (dCB rd dal) := fun B0 B1 A H0 H σ ρ R X Qd h Q q =>
  ha B0 B1 A H0 H σ ρ R X _ h _ fun ds vs H1 H2 R1 g1 r1 k => sr H1 H2 vs ds R1.ex r1 Qd k Q fun z v H3 H4 g3 r3 k3 => q z v H3 H4 (R1.grow g3) (g1.trans g3) r3 k3
theorem e_callB {id : String} {r : List V → Hp → VK → Prop} {rd : List D → (D → Prop) → Prop} (hc : CallR X (.builtin id) r) (sr : SimRC X.K r rd) (hm : X.mg x = none) (ha : JA X Ed E (e :: es) tal dal) (hv : bootBuiltins x = some (.builtin id) := by decide +kernel) (hg : Gl X x := by rfl) (hn : x ≠ "__name__" := by decide) (hdb : (x == ("__debug__" : Str)) = false := by decide)
    (he : starEach (e :: es) X.env = (false, eval e X.env) :: starEach es X.env := by rfl) (hpl : (backTo pos (starEach es X.env)).any (·.1) = false := by rfl) : JE X Ed E (.Call (.Name x p) (e :: es) [] pos) (tCB r tal) (dCB rd dal) :=
  ⟨pe_callB hc hg hm hv ha.pe hn hdb he hpl, sim_CB sr ha.sim⟩
theorem e_callTy {T : String} {r : List V → Hp → VK → Prop} {rd : List D → (D → Prop) → Prop} (hc : CallR X (.type T) r) (sr : SimRC X.K r rd) (hm : X.mg x = none) (ha : JA X Ed E (e :: es) tal dal) (hv : bootBuiltins x = some (.type T) := by decide +kernel) (hg : Gl X x := by rfl) (hn : x ≠ "__name__" := by decide) (hdb : (x == ("__debug__" : Str)) = false := by decide)
    (he : starEach (e :: es) X.env = (false, eval e X.env) :: starEach es X.env := by rfl) (hpl : (backTo pos (starEach es X.env)).any (·.1) = false := by rfl) : JE X Ed E (.Call (.Name x p) (e :: es) [] pos) (tCB r tal) (dCB rd dal) :=
  ⟨pe_callTy hc hg hm hv ha.pe hn hdb he hpl, sim_CB sr ha.sim⟩

/-! ### own classes: fields, methods, properties -/
def fget (f : Str) : List (Str × D) → Option D
  | [] => none
  | (g, d) :: r => if f = g then some d else fget f r
theorem fget_lookup (f : Str) : ∀ fs : List (Str × D), fget f fs = fs.lookup f
  | [] => rfl
  | (g, d) :: r => by
    unfold fget
    by_cases h : f = g
    · subst h
      rw [if_pos rfl, List.lookup_cons_self]
    · have hb : (f == g) = false := by simpa using h
      rw [if_neg h, fget_lookup f r]
      simp only [List.lookup, hb]
def fput (f : Str) (v : D) : List (Str × D) → List (Str × D)
  | [] => [(f, v)]
  | (g, x) :: r => if g = f then (g, v) :: r else (g, x) :: fput f v r
theorem fput_rep {H : Hp} {f : Str} {d : D} {v : V} (rv : Rep K H d v) : ∀ {fs : List (Str × D)} {vs : List (Str × V)}, Repf K H fs vs → Repf K H (fput f d fs) (putF f v vs)
  | [], vs, h => by
    cases (show vs = _ from h)
    exact ⟨v, [], rfl, rv, rfl⟩
  | (g, x) :: r, vs, ⟨u, ur, e, h1, h2⟩ => by
    subst e
    unfold fput putF
    by_cases hg : g = f
    · rw [if_pos hg, if_pos hg]
      exact ⟨v, ur, rfl, rv, h2⟩
    · rw [if_neg hg, if_neg hg]
      exact ⟨u, _, rfl, h1, fput_rep rv h2⟩
def dFld (C : Addr) (f : Str) (da : DE) (ρ : Rho) (Q : D → Prop) : Prop := da ρ fun o => match o with
  | .ins C' fs => C' = C ∧ onS (fget f fs) Q
  | _ => False
theorem sim_fld {C : Addr} {f : Str} (c : Cls K C) (n : NoAttr K C f) (ha : SimE K Ed E ta da) : SimE K Ed E (tFld K ta f) (dFld C f da) := fun B0 B1 A H0 H σ ρ R X Qd h Q q =>
  ha B0 B1 A H0 H σ ρ R X _ h _ fun o v H1 H2 R1 g1 r1 k => by
    split at k
    · obtain ⟨rfl, k⟩ := k
      obtain ⟨d, hd, k⟩ := onS_at k
      obtain ⟨l, dx, fvs, rfl, hl, rf⟩ := r1
      rw [fget_lookup] at hd
      obtain ⟨u, hu, ru⟩ := rf.get hd
      exact ⟨l, _, dx, fvs, u, rfl, R1.ex _ _ hl, c, n, hu, q d u H1 H2 R1 g1 ru k⟩
    · exact k.elim
theorem e_fld {C : Addr} {f : Str} (c : Cls X.K C) (n : NoAttr X.K C f) (ha : JE X Ed E e ta da) (hb : attributeBase e f X.env (eval e X.env) = eval e X.env := by rfl) : JE X Ed E (.Attribute e f pos) (tFld X.K ta f) (dFld C f da) := ⟨pe_fld ha.pe hb, sim_fld c n ha.sim⟩
/-- .. of a thing of one's own -/
def dFldO (i : Nat) (C : Addr) (f : Str) (ρ : Rho) (Q : D → Prop) : Prop := match lk i ρ with
  | some (.ins _ C' fs) => C' = C ∧ onS (fget f fs) Q
  | _ => False
theorem e_fldO {C : Addr} {f y : Str} {p2 : Pos} (i : Nat) (c : Cls X.K C) (n : NoAttr X.K C f) (hN : X.N[i]? = some y := by rfl) (hv : Vis X.env.scope y := by first | exact Or.inl rfl | exact Or.inr (Or.inl rfl) | exact Or.inr (Or.inr rfl)) (hd : (y == ("__debug__" : Str)) = false := by decide)
    (hcd : (y == ("__classdict__" : Str)) = false := by decide) (hb : attributeBase (.Name y p2) f X.env (eval (.Name y p2) X.env) = eval (.Name y p2) X.env := by rfl) : JE X Ed E (.Attribute (.Name y p2) f pos) (tFld X.K (tVar i) f) (dFldO i C f) :=
  ⟨pe_fld (pe_var hN hv hd hcd) hb, fun B0 B1 A H0 H σ ρ R X Qd h Q q => by
    unfold dFldO at h
    split at h
    · rename_i x C' fs e
      obtain ⟨rfl, h⟩ := h
      obtain ⟨d, hd, h⟩ := onS_at h
      obtain ⟨l, ho, e1, e2, n0, nb, hh, rr⟩ := R.ownAt (lk_some e) (fun _ z => nomatch z)
      obtain ⟨_, dx, fvs, rfl, rf⟩ := rr
      rw [fget_lookup] at hd
      obtain ⟨u, hu, ru⟩ := rf.get hd
      exact ⟨.ref l, e1, l, _, dx, fvs, u, rfl, hh, c, n, hu, q d u H0 H R (.refl R.ex) ru h⟩
    · exact h.elim⟩
/-- self.f = e, self one's own -/
def dPutO (i : Nat) (C : Addr) (f : Str) (de : DE) (d : DEnds) (ρ : Rho) : Prop := de ρ fun y => match lk i ρ with
  | some (.ins x C' fs) => C' = C ∧ fs.length < 1000 ∧ d.nx (ρ.set i (some (.ins x C (fput f y fs))))
  | _ => False
theorem repf_len {H : Hp} : ∀ {fs : List (Str × D)} {vs : List (Str × V)}, Repf K H fs vs → vs.length = fs.length
  | [], vs, h => by cases (show vs = _ from h); rfl
  | (g, x) :: r, vs, ⟨u, ur, e, _, h2⟩ => by subst e; exact congrArg (· + 1) (repf_len h2)
theorem st_putO {C : Addr} {f y : Str} {p2 p3 : Pos} (i : Nat) (c : Cls X.K C) (n : NoAttr X.K C f) (he : JE X Ed E e te de) (hN : X.N[i]? = some y := by rfl) (hv : Vis X.env.scope y := by first | exact Or.inl rfl | exact Or.inr (Or.inl rfl) | exact Or.inr (Or.inr rfl)) (hd : (y == ("__debug__" : Str)) = false := by decide)
    (hcd : (y == ("__classdict__" : Str)) = false := by decide) (hs : swapsWith e (some (.Attribute (.Name y p2) f p3)) pos.line X.env = pure false := by rfl) : JS X Ed E (.Assign [.Attribute (.Name y p2) f p3] e pos) (sFld X.K (tVar i) te f) (dPutO i C f de) :=
  ⟨ps_fld (pe_var hN hv hd hcd) he.pe hs, fun B0 B1 A H0 H σ ρ R X d D r h => he.sim B0 B1 A H0 H σ ρ R X _ h _ fun y v H1 H2 R1 g1 r1 k => by
    split at k
    · rename_i x C' fs e
      obtain ⟨rfl, hl, k⟩ := k
      obtain ⟨l, ho, e1, e2, n0, nb, hh, rr⟩ := R1.ownAt (lk_some e) (fun _ z => nomatch z)
      obtain ⟨rfl, dx, fvs, rfl, rf⟩ := rr
      have hi : i < ρ.length := (List.getElem?_eq_some_iff.mp (lk_some e)).1
      refine ⟨.ref x, e1, x, _, dx, fvs, rfl, hh, c, n, by rw [repf_len rf]; exact hl, r.nx _ H1 _ σ _ (R1.updOwn (w := .ins x C' (fput f y fs)) hi e1 e2 ⟨rfl, dx, _, rfl, fput_rep r1 rf⟩) k⟩
    · exact k.elim⟩
/-- o.m(e, ..) -/
structure Metd (P : Program) (w : World) (K : PySem.W.Frag) (mg : Str → Option Value) (base : Heap) (C : Addr) (m : Str) (k : Nat) (wp : Wp) (dvs : List V) (dd : List D) : Prop where
  cls : Cls K C
  ex : ∃ (f : Addr) (fd : FuncData) (ps : List Str) (ds : List Value), Meth K C m f ∧ FnOk P w K mg base (L2.CX P w) k f fd ps (SpW K wp) ∧ Binds K fd ps ds ∧ Vals dvs ds ∧ ∀ H, Reps K H dd dvs
def dMeth (C : Addr) (m : Str) (wp : Wp) (dd : List D) (Ed : DX → Prop) (da : DE) (dal : DA) (ρ : Rho) (Q : D → Prop) : Prop := da ρ fun o => match o with
  | .ins C' fs => C' = C ∧ fget m fs = none ∧ dal ρ fun ds => wp (.ins C' fs :: (ds ++ dd)) Q Ed
  | _ => False
theorem sim_meth {C : Addr} {m : Str} {dvs : List V} {dd : List D} (hd : ∀ H, Reps K H dd dvs) (hs : SimE K Ed E ta da) (ha : SimA K Ed E tal dal) : SimE K Ed E (tMeth C m (SpW K wp) dvs E ta tal) (dMeth C m wp dd Ed da dal) := fun B0 B1 A H0 H σ ρ R X Qd h Q q =>
  hs B0 B1 A H0 H σ ρ R X _ h _ fun o v H1 H2 R1 g1 r1 k => by
    split at k
    · obtain ⟨rfl, hn, k⟩ := k
      obtain ⟨l, dx, fvs, rfl, hl, rf⟩ := r1
      rw [fget_lookup] at hn
      refine ⟨l, dx, fvs, rfl, R1.ex _ _ hl, rf.none_of hn, ha B0 B1 A H1 H2 σ ρ R1 X _ k _ fun ds vs H3 H4 R2 g2 r2 k2 => ?_⟩
      refine sp_of (ds := .ins _ _ :: (ds ++ dd)) R2 X ⟨.ref l, _, rfl, ⟨l, dx, fvs, rfl, g2.g0 _ _ hl, Repf.mono g2.g0 _ _ rf⟩, r2.append (hd _)⟩ k2 fun x v H5 H6 R3 g3 r3 k3 => q x v H5 H6 R3 ((g1.trans g2).trans g3) r3 k3
    · exact k.elim
theorem e_meth {C : Addr} {m : Str} {dvs : List V} {dd : List D} {apos : Pos} {pl : Sem Bool} (M : Metd X.prog X.w X.K X.mg X.base C m k wp dvs dd) (hr : Room k X.A) (hx : Passes (L2.CX X.prog X.w) X E) (ho : JE X Ed E o ta da) (ha : JA X Ed E (e :: es) tal dal)
    (hst : starEach (e :: es) X.env = (false, eval e X.env) :: starEach es X.env := by rfl) (hpl : (backTo pos (starEach es X.env)).any (·.1) = false := by rfl)
    (ht : eval (.Call (.Attribute o m apos) (e :: es) [] pos) X.env = (do
      let ov ← eval o X.env
      standAt apos.atName
      let (f, first) ← holding [ov] (getMethod ov m pl)
      callWith pos f first (backTo pos (starEach (e :: es) X.env)) (backToKw pos (keywordEach [] X.env))) := by rfl) : JE X Ed E (.Call (.Attribute o m apos) (e :: es) [] pos) (tMeth C m (SpW X.K wp) dvs E ta tal) (dMeth C m wp dd Ed da dal) := by
  obtain ⟨f, fd, ps, ds, h1, h2, h3, h4, h5⟩ := M.ex
  exact ⟨pe_meth ho.pe M.cls h1 h2 hr h3 h4 hx ha.pe hst hpl ht, sim_meth h5 ho.sim ha.sim⟩
theorem e_meth0 {C : Addr} {m : Str} {dvs : List V} {dd : List D} {apos : Pos} {pl : Sem Bool} (M : Metd X.prog X.w X.K X.mg X.base C m k wp dvs dd) (hr : Room k X.A) (hx : Passes (L2.CX X.prog X.w) X E) (ho : JE X Ed E o ta da)
    (ht : eval (.Call (.Attribute o m apos) [] [] pos) X.env = (do
      let ov ← eval o X.env
      standAt apos.atName
      let (f, first) ← holding [ov] (getMethod ov m pl)
      callWith pos f first (backTo pos (starEach [] X.env)) (backToKw pos (keywordEach [] X.env))) := by rfl) : JE X Ed E (.Call (.Attribute o m apos) [] [] pos) (tMeth C m (SpW X.K wp) dvs E ta tNil) (dMeth C m wp dd Ed da dNil) := by
  obtain ⟨f, fd, ps, ds, h1, h2, h3, h4, h5⟩ := M.ex
  exact ⟨pe_meth0 ho.pe M.cls h1 h2 hr h3 h4 hx ht, sim_meth h5 ho.sim sim_nil⟩

/-! ### C(e, ..) -/
abbrev WpI := List D → (List (Str × D) → Prop) → (DX → Prop) → Prop
def wo (H : Hp) (x : Addr) : Hp := fun p => if p = x then none else H p
theorem wo_same {H : Hp} {x : Addr} : wo H x x = none := if_pos rfl
theorem wo_ne {H : Hp} {x p : Addr} (h : p ≠ x) : wo H x p = H p := if_neg h
theorem wo_sub {H : Hp} {x : Addr} : Same (wo H x) H := fun b o e => by
  by_cases hb : b = x
  · subst hb
    rw [wo_same] at e
    cases e
  · rw [wo_ne hb] at e
    exact e
def SpI (K : PySem.W.Frag) (C : Addr) (wp : WpI) : Sp := fun vs H Q E => ∃ (x dx : Addr) (ws : List V) (H0 : Hp) (ds : List D) (Qf : List (Str × D) → Prop) (Ed : DX → Prop), vs = .ref x :: ws ∧ H x = some (.ins C dx []) ∧ H0 x = none ∧ Same H0 H ∧ Reps K H0 ds ws ∧ wp ds Qf Ed ∧
  (∀ fs dx' fvs H0' H', Grow H0 (wo H x) H0' H' → H0' x = none → H' x = some (.ins C dx' fvs) → Repf K H0' fs fvs → Qf fs → Q .non H') ∧ ExRel K H0 (wo H x) Ed E
structure Maker (P : Program) (w : World) (K : PySem.W.Frag) (mg : Str → Option Value) (base : Heap) (x : Str) (C : Addr) (k : Nat) (wp : WpI) (dvs : List V) (dd : List D) : Prop where
  ex : ∃ (f : Addr) (fd : FuncData) (ps : List Str) (ds : List Value), mg x = some (.ref C) ∧ Mk K C f ∧ FnOk P w K mg base (L2.CX P w) k f fd ps (SpI K C wp) ∧ Binds K fd ps ds ∧ Vals dvs ds ∧ ∀ H, Reps K H dd dvs
def dMake (C : Addr) (wp : WpI) (dd : List D) (Ed : DX → Prop) (da : DA) (ρ : Rho) (Q : D → Prop) : Prop := da ρ fun ds => wp (ds ++ dd) (fun fs => Q (.ins C fs)) Ed
theorem sim_make {C : Addr} {wp : WpI} {dvs : List V} {dd : List D} (hd : ∀ H, Reps K H dd dvs) (ha : SimA K Ed E tal dal) : SimE K Ed E (tMake C (SpI K C wp) dvs E tal) (dMake C wp dd Ed dal) := fun B0 B1 A H0 H σ ρ R X Qd h Q q =>
  ha B0 B1 A H0 H σ ρ R X _ h _ fun ds vs H1 H2 R1 g1 r1 k => fun x dx nx ndx nex => by
    have n0 : H1 x = none := R1.ex.free nx
    have sub : Same H2 (wo (upd (upd H2 dx (.own x)) x (.ins C dx [])) x) := fun b o e => by
      have bx : b ≠ x := ne_of_none e nx
      rw [wo_ne bx, upd_ne bx, upd_ne (ne_of_none e ndx)]
      exact e
    have sm2 : Same H1 (upd (upd H2 dx (.own x)) x (.ins C dx [])) := (R1.ex.trans sub).trans wo_sub
    refine ⟨x, dx, vs ++ dvs, H1, ds ++ dd, _, Ed, rfl, upd_same, n0, sm2, r1.append (hd _), k, fun fs dx' fvs H0' H' g n' hx' rf hq => ⟨rfl, ?_⟩, X.grow fun H0' H' g => ?_⟩
    · have gx : Grow H1 H2 (upd H0' x (.ins C dx' fvs)) H' := ⟨g.g0.trans (same_upd n'), sub.trans g.g1, fun b o e => by
          by_cases hb : b = x
          · subst hb
            rw [upd_same] at e
            cases e
            exact hx'
          · rw [upd_ne hb] at e
            exact g.g2 b o e, fun p hp => by
          have px : p ≠ x := fun z => hp (by rw [z]; exact nx)
          rw [upd_ne px]
          exact g.nw p (ne_none_of sub hp)⟩
      exact q (.ins C fs) (.ref x) _ H' (R1.grow gx) (g1.trans gx) ⟨x, dx', fvs, rfl, upd_same, Repf.mono (same_upd n') _ _ rf⟩ hq
    · exact R1.gr.trans ⟨g.g0, sub.trans g.g1, g.g2, fun p hp => g.nw p (ne_none_of sub hp)⟩
theorem e_make {C : Addr} {wp : WpI} {dvs : List V} {dd : List D} (M : Maker X.prog X.w X.K X.mg X.base x C k wp dvs dd) (hr : Room (k + 1) X.A) (hx : Passes (L2.CX X.prog X.w) X E) (ha : JA X Ed E (e :: es) tal dal) (hg : Gl X x := by rfl) (hdb : (x == ("__debug__" : Str)) = false := by decide)
    (he : starEach (e :: es) X.env = (false, eval e X.env) :: starEach es X.env := by rfl) (hpl : (backTo pos (starEach es X.env)).any (·.1) = false := by rfl) : JE X Ed E (.Call (.Name x p) (e :: es) [] pos) (tMake C (SpI X.K C wp) dvs E tal) (dMake C wp dd Ed dal) := by
  obtain ⟨f, fd, ps, ds, h1, h2, h3, h4, h5, h6⟩ := M.ex
  exact ⟨pe_make h2 h3 hr hg h1 h4 h5 hx ha.pe hdb he hpl, sim_make h6 ha.sim⟩
theorem e_make0 {C : Addr} {wp : WpI} {dvs : List V} {dd : List D} (M : Maker X.prog X.w X.K X.mg X.base x C k wp dvs dd) (hr : Room (k + 1) X.A) (hx : Passes (L2.CX X.prog X.w) X E) (hg : Gl X x := by rfl) (hdb : (x == ("__debug__" : Str)) = false := by decide) :
    JE X Ed E (.Call (.Name x p) [] [] pos) (tMake C (SpI X.K C wp) dvs E tNil) (dMake C wp dd Ed dNil) := by
  obtain ⟨f, fd, ps, ds, h1, h2, h3, h4, h5, h6⟩ := M.ex
  exact ⟨pe_make0 h2 h3 hr hg h1 h4 h5 hx hdb, sim_make h6 sim_nil⟩
end
section
variable {P : Program} {w : World} {K : PySem.W.Frag} {mg : Str → Option Value} {base : Heap}
theorem init_ok {x qual : Str} {st : Stmt} {f C : Addr} {fd : FuncData} {N ps : List Str} {k : Nat} {wp : WpI} (n : Nat) (hn : N.length - 1 = n) (F : FunX K x qual st f fd) (S : FnScope N ps (defScope st)) (len : ∀ ds Q Ed, wp ds Q Ed → ds.length + 1 = ps.length)
    (body : ∀ (cdv : Value) (A : Around) (outer : List Env) (s : Shared) (H : Hp) (E : XK), Room k (A.deeper (envOfC qual (defScope st) s.heap.objs.size f cdv)) → ∀ (x : Addr) (ds : List D) (Qf : List (Str × D) → Prop) (Ed : DX → Prop), wp ds Qf Ed →
      ∃ ts bs, JB (bx P w K mg base N qual st f cdv A outer s H E) Ed E (defBody st) ts bs ∧ bs { nx := fun ρ => (match lk 0 ρ with | some (.ins x' C' fs) => x' = x ∧ C' = C ∧ Qf fs | _ => False), rt := fun _ _ => False } (some (.ins x C []) :: startD n ds)) :
    FnOk P w K mg base (L2.CX P w) (k + 1) f fd ps (SpI K C wp) := by
  have hpl : ps.length ≤ N.length := by
    have e := congrArg List.length S.pre
    rw [List.length_take] at e
    omega
  subst hn
  refine F.okX S (fun vs H Q E h => ?_) (fun cdv A outer s H vs Q E hr h => ?_)
  · obtain ⟨x, dx, ws, H0, ds, Qf, Ed, rfl, _, _, sm, r, hw, _⟩ := h
    show ws.length + 1 = _
    rw [r.length]
    exact len ds Qf Ed hw
  · obtain ⟨x, dx, ws, H0, ds, Qf, Ed, rfl, hx, n0, sm, r, hw, q, xr⟩ := h
    obtain ⟨ts, bs, jb, hb⟩ := body cdv A outer s H E hr x ds Qf Ed hw
    have hl := len ds Qf Ed hw
    have hN : 0 < N.length := by omega
    have smw : Same H0 (wo H x) := fun b o e => by
      rw [wo_ne (fun z => by rw [z, n0] at e; cases e)]
      exact sm b o e
    have hv : (V.ref x :: ws).length ≤ N.length := by
      show ws.length + 1 ≤ _
      rw [r.length]
      omega
    have R : RepS K H0 (wo H x) (fun i => if i = 0 then some x else none) H0 H (L2.start N (.ref x :: ws)) (some (.ins x C []) :: startD (N.length - 1) ds) := by
      refine ⟨sm, ⟨.refl _, wo_sub, sm, fun _ _ => rfl⟩, by rw [start_len hv]; show N.length = (startD (N.length - 1) ds).length + 1; rw [startD_len]; omega, fun i w e => ?_, fun i j a h1 h2 => ?_, fun i a h => ?_⟩
      · cases i with
        | zero =>
          have e : some (some (SV.ins x C [])) = some w := e
          cases e
          exact ⟨_, start_at rfl, x, _, rfl, rfl, n0, wo_same, hx, rfl, dx, [], rfl, rfl⟩
        | succ i =>
          have e : (startD (N.length - 1) ds)[i]? = some w := by simpa using e
          rcases startD_at e with rfl | ⟨d, e1, rfl⟩
          · have hi : i + 1 < N.length := by
              have := (List.getElem?_eq_some_iff.mp e).1
              rw [startD_len] at this
              omega
            obtain ⟨v, hv⟩ := start_has hv hi
            exact ⟨v, hv, rfl⟩
          · obtain ⟨v, hv', rv⟩ := r.get e1
            exact ⟨some v, start_at (by simpa using hv'), rfl, v, rfl, rv⟩
      · by_cases hi : i = 0
        · by_cases hj : j = 0
          · rw [hi, hj]
          · rw [if_neg hj] at h2
            cases h2
        · rw [if_neg hi] at h1
          cases h1
      · by_cases hi : i = 0
        · rw [if_pos hi] at h
          cases h
          exact ⟨n0, wo_same, by rw [hx]; exact fun z => nomatch z⟩
        · rw [if_neg hi] at h
          cases h
    refine ⟨ts, jb.pe, jb.sim H0 (wo H x) _ H0 H _ _ R xr { nx := fun ρ => (match lk 0 ρ with | some (.ins x' C' fs) => x' = x ∧ C' = C ∧ Qf fs | _ => False), rt := fun _ _ => False } _ ⟨fun A H0' H' σ ρ R' h => ?_, fun _ _ _ _ _ _ _ _ _ h => h.elim, fun _ _ _ _ _ _ h => h.elim, fun _ _ _ _ _ _ h => h.elim⟩ hb⟩
    dsimp only at h
    split at h
    · rename_i x' C' fs e
      obtain ⟨rfl, rfl, h⟩ := h
      obtain ⟨a, o, e1, e2, m0, mb, hh, rr⟩ := R'.ownAt (lk_some e) (fun _ z => nomatch z)
      obtain ⟨rfl, dx', fvs, rfl, rf⟩ := rr
      exact q fs dx' fvs H0' H' R'.gr m0 hh rf h
    · exact h.elim
end
end DL

namespace DL
open PySem PySem.Spec PyProof.Rows L2
section
variable {X : Cx} {Ed : DX → Prop} {E : XK} {K : PySem.W.Frag} {pos p : Pos} {e a b c o e2 : Expr} {te ta tb tc : TE} {de da db dc : DE} {tal : TA} {dal : DA} {es : List Expr} {k : Nat} {x : Str} {tt : TT} {dt : DT}

theorem one_of {H : Hp} {d : D} {vs : List V} (h : Reps K H [d] vs) : ∃ v, vs = [v] ∧ Rep K H d v := by
  obtain ⟨v, r, e, h1, h2⟩ := h
  cases (show r = _ from h2)
  exact ⟨v, e, h1⟩
theorem two_of {H : Hp} {d d2 : D} {vs : List V} (h : Reps K H [d, d2] vs) : ∃ v u, vs = [v, u] ∧ Rep K H d v ∧ Rep K H d2 u := by
  obtain ⟨v, r, e, h1, h2⟩ := h
  obtain ⟨u, e2, h3⟩ := one_of h2
  subst e2
  exact ⟨v, u, e, h1, h3⟩

/-! ### isinstance -/
def tyD : D → Option String
  | .non => some "NoneType"
  | .bl _ => some "bool"
  | .int _ => some "int"
  | .str _ => some "str"
  | .tup _ => some "tuple"
  | .lst _ => some "list"
  | _ => none
theorem ty_of {H0 H : Hp} {d : D} {v : V} {n : String} (sm : Same H0 H) (r : Rep K H0 d v) (h : tyD d = some n) : TyX K H v (.type n) := by
  cases d with
  | non => cases h; subst r; exact .base .non
  | bl b => cases h; subst r; exact .base (.bl b)
  | int b => cases h; subst r; exact .base (.int b)
  | str b => cases h; subst r; exact .base (.str b)
  | tup xs =>
    cases h
    obtain ⟨l, vs, rfl, hs, _⟩ := r
    rcases sqt_mono sm hs with (h | ⟨o, h⟩) | ⟨o, its, n, h1, h2, _⟩
    · exact .base (.tup h)
    · exact .fTuple h
    · exact .kTuple h1 h2
  | lst xs =>
    cases h
    obtain ⟨l, vs, rfl, hs, _⟩ := r
    rcases sm.seq hs with (h | ⟨o, h⟩) | ⟨o, its, n, h1, h2, _⟩
    · exact .base (.lst h)
    · exact .base (.frz h)
    · exact .kList h1 h2
  | _ => cases h
/-- isinstance(x, T), T a built-in class -/
def dIsi (ds : List D) (Q : D → Prop) : Prop := match ds with
  | [x, .ty n] => onS (tyD x) fun m => onS (kitB m n) fun b => Q (.bl b)
  | _ => False
theorem s_isi : SimRC K (rIsi K) dIsi := by
  intro H0 H xs ds sm r Qd h Q q
  unfold dIsi at h
  split at h
  · rename_i d n
    obtain ⟨m, hm, h⟩ := onS_at h
    obtain ⟨b, hb, h⟩ := onS_at h
    obtain ⟨v, u, rfl, h1, h2⟩ := two_of r
    cases (show u = _ from h2)
    exact ⟨v, .ty n, _, _, b, rfl, .ty n, ty_of sm h1 hm, kit_ty hb, q (.bl b) _ H0 H (.refl sm) rfl h⟩
  · exact h.elim
theorem e_isi (hm : X.mg "isinstance" = none) (ha : JA X Ed E (e :: es) tal dal) (hg : Gl X "isinstance" := by rfl) (he : starEach (e :: es) X.env = (false, eval e X.env) :: starEach es X.env := by rfl) (hpl : (backTo pos (starEach es X.env)).any (·.1) = false := by rfl) :
    JE X Ed E (.Call (.Name "isinstance" p) (e :: es) [] pos) (tCB (rIsi X.K) tal) (dCB dIsi dal) := e_callB call_isi s_isi hm ha (by decide +kernel) hg (by decide) (by decide) he hpl
def kitAnyB (m : String) : List D → Option Bool
  | [] => some false
  | .ty n :: r => match kitB m n, kitAnyB m r with
    | some a, some b => some (a || b)
    | _, _ => none
  | _ => none
theorem kitAny_of {m : String} {H : Hp} : ∀ {cs : List D} {vs : List V} {b : Bool}, Reps K H cs vs → kitAnyB m cs = some b → ∃ us, Paired ClsV vs us ∧ PySem.W.kitAny K (.type m) us = some b
  | [], vs, b, r, h => by
    cases (show vs = _ from r)
    exact ⟨[], .nil, by rw [← h]; rfl⟩
  | d :: cs, vs, b, ⟨v, r, e, h1, h2⟩, h => by
    subst e
    cases d with
    | ty n =>
      cases (show v = _ from h1)
      unfold kitAnyB at h
      split at h
      · rename_i b1 b2 hk hr
        cases h
        obtain ⟨us, p, e⟩ := kitAny_of h2 hr
        refine ⟨.type n :: us, .cons (.ty n) p, kitAny_cons (b := b1) (kit_ty hk) (fun z => ?_) fun z => ?_⟩
        · subst z
          rw [e]
          rfl
        · subst z
          rfl
      · cases h
    | _ => cases h
/-- isinstance(x, (S, T, ..)) -/
def dIsiT (ds : List D) (Q : D → Prop) : Prop := match ds with
  | [x, .tup cs] => onS (tyD x) fun m => onS (kitAnyB m cs) fun b => Q (.bl b)
  | _ => False
/-- .. or one class -/
def dIsiA (ds : List D) (Q : D → Prop) : Prop := match ds with
  | [x, .ty n] => dIsi [x, .ty n] Q
  | [x, .tup cs] => dIsiT [x, .tup cs] Q
  | _ => False

/-! ### abs, int, len, list, tuple, all, any, sum, max, min -/
def dAbs (ds : List D) (Q : D → Prop) : Prop := match ds with
  | [.int i] => Q (.int (if i < 0 then -i else i))
  | _ => False
theorem s_abs : SimRC K (fun xs H Q => ∃ i, xs = [.int i] ∧ Q (.int (if i < 0 then -i else i)) H) dAbs := by
  intro H0 H xs ds sm r Qd h Q q
  unfold dAbs at h
  split at h
  · rename_i i
    obtain ⟨v, rfl, h1⟩ := one_of r
    cases (show v = _ from h1)
    exact ⟨i, rfl, q (.int _) _ H0 H (.refl sm) rfl h⟩
  · exact h.elim
theorem e_abs (hm : X.mg "abs" = none) (ha : JA X Ed E (e :: es) tal dal) (hg : Gl X "abs" := by rfl) (he : starEach (e :: es) X.env = (false, eval e X.env) :: starEach es X.env := by rfl) (hpl : (backTo pos (starEach es X.env)).any (·.1) = false := by rfl) :
    JE X Ed E (.Call (.Name "abs" p) (e :: es) [] pos) (tCB (fun xs H Q => ∃ i, xs = [.int i] ∧ Q (.int (if i < 0 then -i else i)) H) tal) (dCB dAbs dal) := e_callB call_abs s_abs hm ha (by decide +kernel) hg (by decide) (by decide) he hpl
def dIntC (ds : List D) (Q : D → Prop) : Prop := match ds with
  | [.int i] => Q (.int i)
  | [.bl b] => Q (.int (if b then 1 else 0))
  | _ => False
def rIntC : List V → Hp → VK → Prop := fun xs H Q => (∃ i, xs = [.int i] ∧ Q (.int i) H) ∨ ∃ k, xs = [.bl k] ∧ Q (.int (if k then 1 else 0)) H
theorem s_intC : SimRC K rIntC dIntC := by
  intro H0 H xs ds sm r Qd h Q q
  unfold dIntC at h
  split at h
  · rename_i i
    obtain ⟨v, rfl, h1⟩ := one_of r
    cases (show v = _ from h1)
    exact .inl ⟨i, rfl, q (.int _) _ H0 H (.refl sm) rfl h⟩
  · rename_i i
    obtain ⟨v, rfl, h1⟩ := one_of r
    cases (show v = _ from h1)
    exact .inr ⟨i, rfl, q (.int _) _ H0 H (.refl sm) rfl h⟩
  · exact h.elim
theorem e_int_ (hm : X.mg "int" = none) (ha : JA X Ed E (e :: es) tal dal) (hg : Gl X "int" := by rfl) (he : starEach (e :: es) X.env = (false, eval e X.env) :: starEach es X.env := by rfl) (hpl : (backTo pos (starEach es X.env)).any (·.1) = false := by rfl) :
    JE X Ed E (.Call (.Name "int" p) (e :: es) [] pos) (tCB rIntC tal) (dCB dIntC dal) := e_callTy call_int1 s_intC hm ha (by decide +kernel) hg (by decide) (by decide) he hpl
def dLen (ds : List D) (Q : D → Prop) : Prop := match ds with
  | [.lst xs] => Q (.int xs.length)
  | [.tup xs] => Q (.int xs.length)
  | [.lat _ xs] => Q (.int xs.length)
  | [.str z] => z.length ≤ sizeLine ∧ Q (.int z.length)
  | _ => False
def rLen (K : PySem.W.Frag) : List V → Hp → VK → Prop := fun xs H Q => (∃ p ys, xs = [.ref p] ∧ (SqL K H p ys ∨ SqT K H p ys) ∧ Q (.int ys.length) H) ∨ (∃ z, xs = [.str z] ∧ z.length ≤ sizeLine ∧ Q (.int z.length) H)
theorem s_len : SimRC K (rLen K) dLen := by
  intro H0 H xs ds sm r Qd h Q q
  unfold dLen at h
  split at h
  · rename_i ys
    obtain ⟨v, rfl, l, vs, rfl, hs, rr⟩ := one_of r
    exact .inl ⟨l, vs, rfl, .inl (sm.seq hs), by rw [rr.length]; exact q (.int _) _ H0 H (.refl sm) rfl h⟩
  · rename_i ys
    obtain ⟨v, rfl, l, vs, rfl, hs, rr⟩ := one_of r
    exact .inl ⟨l, vs, rfl, .inr (sqt_mono sm hs), by rw [rr.length]; exact q (.int _) _ H0 H (.refl sm) rfl h⟩
  · rename_i c ys
    obtain ⟨v, rfl, rfl, vs, hs, rr⟩ := one_of r
    exact .inl ⟨c, vs, rfl, .inl (sm.seq hs), by rw [rr.length]; exact q (.int _) _ H0 H (.refl sm) rfl h⟩
  · rename_i z
    obtain ⟨v, rfl, h1⟩ := one_of r
    cases (show v = _ from h1)
    exact .inr ⟨z, rfl, h.1, q (.int _) _ H0 H (.refl sm) rfl h.2⟩
  · exact h.elim
theorem e_len (hm : X.mg "len" = none) (ha : JA X Ed E (e :: es) tal dal) (hg : Gl X "len" := by rfl) (he : starEach (e :: es) X.env = (false, eval e X.env) :: starEach es X.env := by rfl) (hpl : (backTo pos (starEach es X.env)).any (·.1) = false := by rfl) :
    JE X Ed E (.Call (.Name "len" p) (e :: es) [] pos) (tCB (rLen X.K) tal) (dCB dLen dal) := e_callB (call_len_seq.or call_len_str) s_len hm ha (by decide +kernel) hg (by decide) (by decide) he hpl
/-- list(x), a new one -/
def dList (ds : List D) (Q : D → Prop) : Prop := match ds with
  | [.lst xs] => Q (.lst xs)
  | [.tup xs] => Q (.lst xs)
  | _ => False
def rList (K : PySem.W.Frag) : List V → Hp → VK → Prop := fun xs H Q => ∃ p ys, xs = [.ref p] ∧ (SqL K H p ys ∨ SqT K H p ys) ∧ ∀ l, H l = none → Q (.ref l) (upd H l (.lst ys))
theorem s_list : SimRC K (rList K) dList := by
  intro H0 H xs ds sm r Qd h Q q
  unfold dList at h
  split at h
  · rename_i ys
    obtain ⟨v, rfl, l, vs, rfl, hs, rr⟩ := one_of r
    refine ⟨l, vs, rfl, .inl (sm.seq hs), fun n hn => ?_⟩
    have g := Grow.new (o := .lst vs) sm hn
    exact q (.lst ys) _ _ _ g ⟨n, vs, rfl, .inl (.inl upd_same), Reps.mono g.g0 _ _ rr⟩ h
  · rename_i ys
    obtain ⟨v, rfl, l, vs, rfl, hs, rr⟩ := one_of r
    refine ⟨l, vs, rfl, .inr (sqt_mono sm hs), fun n hn => ?_⟩
    have g := Grow.new (o := .lst vs) sm hn
    exact q (.lst ys) _ _ _ g ⟨n, vs, rfl, .inl (.inl upd_same), Reps.mono g.g0 _ _ rr⟩ h
  · exact h.elim
theorem e_list (hm : X.mg "list" = none) (ha : JA X Ed E (e :: es) tal dal) (hg : Gl X "list" := by rfl) (he : starEach (e :: es) X.env = (false, eval e X.env) :: starEach es X.env := by rfl) (hpl : (backTo pos (starEach es X.env)).any (·.1) = false := by rfl) :
    JE X Ed E (.Call (.Name "list" p) (e :: es) [] pos) (tCB (rList X.K) tal) (dCB dList dal) := e_callTy call_list_of s_list hm ha (by decide +kernel) hg (by decide) (by decide) he hpl
/-- tuple(x) -/
def dTuple (ds : List D) (Q : D → Prop) : Prop := match ds with
  | [.lst xs] => Q (.tup xs)
  | [.tup xs] => Q (.tup xs)
  | _ => False
def rTuple (K : PySem.W.Frag) : List V → Hp → VK → Prop := fun xs H Q => ∃ p ys, xs = [.ref p] ∧ ((SqL K H p ys ∧ ∀ l, H l = none → Q (.ref l) (upd H l (.tup ys))) ∨ (SqT K H p ys ∧ Q (.ref p) H))
theorem s_tuple : SimRC K (rTuple K) dTuple := by
  intro H0 H xs ds sm r Qd h Q q
  unfold dTuple at h
  split at h
  · rename_i ys
    obtain ⟨v, rfl, l, vs, rfl, hs, rr⟩ := one_of r
    refine ⟨l, vs, rfl, .inl ⟨sm.seq hs, fun n hn => ?_⟩⟩
    have g := Grow.new (o := .tup vs) sm hn
    exact q (.tup ys) _ _ _ g ⟨n, vs, rfl, .inl (.inl upd_same), Reps.mono g.g0 _ _ rr⟩ h
  · rename_i ys
    obtain ⟨v, rfl, l, vs, rfl, hs, rr⟩ := one_of r
    exact ⟨l, vs, rfl, .inr ⟨sqt_mono sm hs, q (.tup ys) _ H0 H (.refl sm) ⟨l, vs, rfl, hs, rr⟩ h⟩⟩
  · exact h.elim
theorem e_tuple (hm : X.mg "tuple" = none) (ha : JA X Ed E (e :: es) tal dal) (hg : Gl X "tuple" := by rfl) (he : starEach (e :: es) X.env = (false, eval e X.env) :: starEach es X.env := by rfl) (hpl : (backTo pos (starEach es X.env)).any (·.1) = false := by rfl) :
    JE X Ed E (.Call (.Name "tuple" p) (e :: es) [] pos) (tCB (rTuple X.K) tal) (dCB dTuple dal) := e_callTy call_tuple_of s_tuple hm ha (by decide +kernel) hg (by decide) (by decide) he hpl
/-- a list of bools, of ints -/
def bools : List D → Option (List Bool)
  | [] => some []
  | .bl b :: r => (bools r).map (b :: ·)
  | _ => none
def intL : List D → Option (List Int)
  | [] => some []
  | .int b :: r => (intL r).map (b :: ·)
  | _ => none
theorem bools_rep {H : Hp} : ∀ {xs : List D} {vs : List V} {bs : List Bool}, Reps K H xs vs → bools xs = some bs → vs = bs.map V.bl
  | [], vs, bs, r, h => by
    cases h
    exact r
  | d :: xs, vs, bs, ⟨v, vr, e, h1, h2⟩, h => by
    subst e
    cases d with
    | bl b =>
      cases (show v = _ from h1)
      unfold bools at h
      cases hb : bools xs with
      | none => rw [hb] at h; cases h
      | some cs =>
        rw [hb] at h
        cases h
        rw [bools_rep h2 hb]
        rfl
    | _ => cases h
theorem intL_rep {H : Hp} : ∀ {xs : List D} {vs : List V} {bs : List Int}, Reps K H xs vs → intL xs = some bs → vs = bs.map V.int
  | [], vs, bs, r, h => by
    cases h
    exact r
  | d :: xs, vs, bs, ⟨v, vr, e, h1, h2⟩, h => by
    subst e
    cases d with
    | int b =>
      cases (show v = _ from h1)
      unfold intL at h
      cases hb : intL xs with
      | none => rw [hb] at h; cases h
      | some cs =>
        rw [hb] at h
        cases h
        rw [intL_rep h2 hb]
        rfl
    | _ => cases h
def dAllB (ds : List D) (Q : D → Prop) : Prop := match ds with
  | [.lst xs] => onS (bools xs) fun bs => Q (.bl (bs.all id))
  | _ => False
def dAnyB (ds : List D) (Q : D → Prop) : Prop := match ds with
  | [.lst xs] => onS (bools xs) fun bs => Q (.bl (bs.any id))
  | _ => False
def dSum (ds : List D) (Q : D → Prop) : Prop := match ds with
  | [.lst xs] => onS (intL xs) fun bs => Q (.int bs.sum)
  | _ => False
theorem s_all : SimRC K (rAll K) dAllB := by
  intro H0 H xs ds sm r Qd h Q q
  unfold dAllB at h
  split at h
  · obtain ⟨bs, hb, h⟩ := onS_at h
    obtain ⟨v, rfl, l, vs, rfl, hs, rr⟩ := one_of r
    rw [bools_rep rr hb] at hs
    exact ⟨l, bs, rfl, sm.seq hs, q (.bl _) _ H0 H (.refl sm) rfl h⟩
  · exact h.elim
theorem s_any : SimRC K (rAny K) dAnyB := by
  intro H0 H xs ds sm r Qd h Q q
  unfold dAnyB at h
  split at h
  · obtain ⟨bs, hb, h⟩ := onS_at h
    obtain ⟨v, rfl, l, vs, rfl, hs, rr⟩ := one_of r
    rw [bools_rep rr hb] at hs
    exact ⟨l, bs, rfl, sm.seq hs, q (.bl _) _ H0 H (.refl sm) rfl h⟩
  · exact h.elim
theorem s_sum : SimRC K (rSum K) dSum := by
  intro H0 H xs ds sm r Qd h Q q
  unfold dSum at h
  split at h
  · obtain ⟨bs, hb, h⟩ := onS_at h
    obtain ⟨v, rfl, l, vs, rfl, hs, rr⟩ := one_of r
    rw [intL_rep rr hb] at hs
    exact ⟨l, bs, rfl, sm.seq hs, q (.int _) _ H0 H (.refl sm) rfl h⟩
  · exact h.elim
theorem e_all (hc : X.calm = true) (hm : X.mg "all" = none) (ha : JA X Ed E (e :: es) tal dal) (hg : Gl X "all" := by rfl) (he : starEach (e :: es) X.env = (false, eval e X.env) :: starEach es X.env := by rfl) (hpl : (backTo pos (starEach es X.env)).any (·.1) = false := by rfl) :
    JE X Ed E (.Call (.Name "all" p) (e :: es) [] pos) (tCB (rAll X.K) tal) (dCB dAllB dal) := e_callB (cr_all hc) s_all hm ha (by decide +kernel) hg (by decide) (by decide) he hpl
theorem e_any (hc : X.calm = true) (hm : X.mg "any" = none) (ha : JA X Ed E (e :: es) tal dal) (hg : Gl X "any" := by rfl) (he : starEach (e :: es) X.env = (false, eval e X.env) :: starEach es X.env := by rfl) (hpl : (backTo pos (starEach es X.env)).any (·.1) = false := by rfl) :
    JE X Ed E (.Call (.Name "any" p) (e :: es) [] pos) (tCB (rAny X.K) tal) (dCB dAnyB dal) := e_callB (cr_any hc) s_any hm ha (by decide +kernel) hg (by decide) (by decide) he hpl
theorem e_sum (hc : X.calm = true) (hm : X.mg "sum" = none) (ha : JA X Ed E (e :: es) tal dal) (hg : Gl X "sum" := by rfl) (he : starEach (e :: es) X.env = (false, eval e X.env) :: starEach es X.env := by rfl) (hpl : (backTo pos (starEach es X.env)).any (·.1) = false := by rfl) :
    JE X Ed E (.Call (.Name "sum" p) (e :: es) [] pos) (tCB (rSum X.K) tal) (dCB dSum dal) := e_callB (cr_sum hc) s_sum hm ha (by decide +kernel) hg (by decide) (by decide) he hpl

/-! ### slices -/
abbrev DO := Rho → (Option Int → Prop) → Prop
def SimO (K : PySem.W.Frag) (Ed : DX → Prop) (E : XK) (to : TO) (d : DO) : Prop := ∀ B0 B1 A H0 H σ ρ, RepS K B0 B1 A H0 H σ ρ → ExRel K B0 B1 Ed E → ∀ Qd : Option Int → Prop, d ρ Qd → ∀ Q : Option Int → Hp → Prop,
  (∀ x H0' H', RepS K B0 B1 A H0' H' σ ρ → Grow H0 H H0' H' → Qd x → Q x H') → to σ H Q
structure JO (X : Cx) (Ed : DX → Prop) (E : XK) (e : Option Expr) (to : TO) (d : DO) : Prop where
  pe : PO X e to
  sim : SimO X.K Ed E to d
def dNoPart (_ : Rho) (Q : Option Int → Prop) : Prop := Q none
def dPart (de : DE) (ρ : Rho) (Q : Option Int → Prop) : Prop := de ρ fun x => match x with
  | .int i => Q (some i)
  | _ => False
theorem o_none : JO X Ed E none tNoPart dNoPart := ⟨po_none, fun B0 B1 A H0 H σ ρ R X Qd h Q q => q none H0 H R (.refl R.ex) h⟩
theorem o_some (h : JE X Ed E e te de) : JO X Ed E (some e) (tPart te) (dPart de) := ⟨po_some h.pe, fun B0 B1 A H0 H σ ρ R X Qd hd Q q => h.sim B0 B1 A H0 H σ ρ R X _ hd _ fun x v H1 H2 R1 g1 r1 k => by
  split at k
  · exact ⟨_, r1, q _ H1 H2 R1 g1 k⟩
  · exact k.elim⟩
def cutD {α : Type} (xs : List α) (lo hi : Option Int) : List α := (xs.drop (HT.sIx xs.length 0 lo)).take (HT.sIx xs.length xs.length hi - HT.sIx xs.length 0 lo)
theorem cut_rep {H : Hp} {xs : List D} {vs : List V} (r : Reps K H xs vs) (lo hi : Option Int) : Reps K H (cutD xs lo hi) (cutV vs lo hi) := by
  unfold cutD cutV
  rw [r.length]
  exact Reps.take _ (Reps.drop _ r)
/-- xs[lo:hi] of a list -/
def dSlL (x : D) (lo hi : Option Int) (Q : D → Prop) : Prop := match x with
  | .lst xs => Q (.lst (cutD xs lo hi))
  | _ => False
def dSl (r : D → Option Int → Option Int → (D → Prop) → Prop) (de : DE) (dl dh : DO) (ρ : Rho) (Q : D → Prop) : Prop := de ρ fun x => dl ρ fun l => dh ρ fun h => r x l h Q
def SimSl (K : PySem.W.Frag) (r : V → Option Int → Option Int → Hp → VK → Prop) (rd : D → Option Int → Option Int → (D → Prop) → Prop) : Prop := ∀ (H0 H : Hp) (x : V) (d : D) (lo hi : Option Int), Same H0 H → Rep K H0 d x → ∀ Qd : D → Prop, rd d lo hi Qd → ∀ Q : VK,
  (∀ z v H0' H', Grow H0 H H0' H' → Rep K H0' z v → Qd z → Q v H') → r x lo hi H Q
theorem s_slL : SimSl K (rSlL K) dSlL := by
  intro H0 H x d lo hi sm r Qd h Q q
  unfold dSlL at h
  split at h
  · rename_i xs
    obtain ⟨l, vs, rfl, hs, rr⟩ := r
    refine ⟨l, vs, rfl, sm.seq hs, fun n hn => ?_⟩
    have g := Grow.new (o := .lst (cutV vs lo hi)) sm hn
    exact q (.lst _) _ _ _ g ⟨n, _, rfl, .inl (.inl upd_same), Reps.mono g.g0 _ _ (cut_rep rr lo hi)⟩ h
  · exact h.elim
theorem e_slice {r : V → Option Int → Option Int → Hp → VK → Prop} {rd : D → Option Int → Option Int → (D → Prop) → Prop} {lo hi : Option Expr} {tl th : TO} {dl dh : DO} {p2 : Pos} (hr : SlR X r) (sr : SimSl X.K r rd) (he : JE X Ed E e te de) (hl : JO X Ed E lo tl dl) (hu : JO X Ed E hi th dh) :
    JE X Ed E (.Subscript e (.Slice lo hi none p2) pos) (tSl r te tl th) (dSl rd de dl dh) := ⟨pe_slice hr he.pe hl.pe hu.pe, fun B0 B1 A H0 H σ ρ R X Qd h Q q =>
  he.sim B0 B1 A H0 H σ ρ R X _ h _ fun x v H1 H2 R1 g1 r1 k => hl.sim B0 B1 A H1 H2 σ ρ R1 X _ k _ fun l H3 H4 R2 g2 k2 => hu.sim B0 B1 A H3 H4 σ ρ R2 X _ k2 _ fun u H5 H6 R3 g3 k3 =>
    sr H5 H6 v x l u R3.ex (Rep.mono g3.g0 _ _ (Rep.mono g2.g0 _ _ r1)) Qd k3 Q fun z w H7 H8 g4 r4 k4 => q z w H7 H8 (R3.grow g4) (((g1.trans g2).trans g3).trans g4) r4 k4⟩
theorem e_slL {lo hi : Option Expr} {tl th : TO} {dl dh : DO} {p2 : Pos} (he : JE X Ed E e te de) (hl : JO X Ed E lo tl dl) (hu : JO X Ed E hi th dh) : JE X Ed E (.Subscript e (.Slice lo hi none p2) pos) (tSl (rSlL X.K) te tl th) (dSl dSlL de dl dh) := e_slice sl_list s_slL he hl hu

/-! ### comprehensions -/
def wipeD (ρ : Rho) : List Nat → Rho
  | [] => ρ
  | v :: vs => (wipeD ρ vs).set v none
def dTs1 (_ : Rho) (Q : Bool → Prop) : Prop := Q true
structure JTs (X : Cx) (Ed : DX → Prop) (E : XK) (ifs : List Expr) (tt : TT) (dt : DT) : Prop where
  pe : PTs X ifs tt
  sim : SimT X.K Ed E tt dt
theorem ts_nil : JTs X Ed E [] tYes dTs1 := ⟨pts_nil, fun B0 B1 A H0 H σ ρ R X Qd hd Q q => q true H0 H R (.refl R.ex) hd⟩
theorem ts_one (h : JT X Ed E c tt dt) : JTs X Ed E [c] tt dt := ⟨pts_one h.pe, h.sim⟩
def compD (g : DG) (tt : DT) (te : DE) : List D → List D → Rho → (D → Prop) → Prop
  | [], acc, _, Q => Q (.lst acc)
  | x :: r, acc, ρ, Q => g x ρ fun ρ' => tt ρ' fun b => if b = true then te ρ' fun y => acc.length < 100000 ∧ compD g tt te r (acc ++ [y]) ρ Q else compD g tt te r acc ρ Q
def dComp (di : DI) (g : DG) (tt : DT) (te : DE) (vs : List Nat) (ρ : Rho) (Q : D → Prop) : Prop := di ρ fun xs => compD g tt te xs [] (wipeD ρ vs) Q
/-- the target's names are the block's own -/
def OwnG (g : TG) (vs : List Nat) : Prop := ∀ (x : V) (σ : L2.St) (H : Hp) (Q Q' : L2.St → Hp → Prop), g x σ H Q → (∀ σ', Q σ' H → wipe σ' vs = wipe σ vs → Q' σ' H) → g x σ H Q'
theorem wipe_get {σ : L2.St} : ∀ (vs : List Nat) (j : Nat), (L2.wipe σ vs)[j]? = if j ∈ vs ∧ j < σ.length then some none else σ[j]?
  | [], j => by simp [L2.wipe]
  | v :: vs, j => by
    have ih := wipe_get (σ := σ) vs j
    unfold L2.wipe
    by_cases hj : v = j
    · subst hj
      by_cases hl : v < σ.length
      · rw [List.getElem?_set_self (by rw [wipe_length]; exact hl), if_pos ⟨List.mem_cons_self, hl⟩]
      · rw [List.getElem?_eq_none (by simp [wipe_length]; omega), if_neg (fun z => hl z.2), List.getElem?_eq_none (by omega)]
    · rw [List.getElem?_set_ne hj, ih]
      have e : (j ∈ v :: vs ∧ j < σ.length) ↔ (j ∈ vs ∧ j < σ.length) := by
        rw [List.mem_cons]
        exact ⟨fun ⟨a, b⟩ => ⟨a.elim (fun z => absurd z.symm hj) id, b⟩, fun ⟨a, b⟩ => ⟨.inr a, b⟩⟩
      simp only [e]
theorem wipe_eq {σ τ : L2.St} {vs : List Nat} (hl : σ.length = τ.length) (h : ∀ j, j ∉ vs → σ[j]? = τ[j]?) : L2.wipe σ vs = L2.wipe τ vs := by
  apply List.ext_getElem?
  intro j
  rw [wipe_get, wipe_get, hl]
  by_cases hj : j ∈ vs ∧ j < τ.length
  · rw [if_pos hj, if_pos hj]
  · rw [if_neg hj, if_neg hj]
    by_cases hm : j ∈ vs
    · have : ¬ j < τ.length := fun z => hj ⟨hm, z⟩
      rw [List.getElem?_eq_none (by omega), List.getElem?_eq_none (by omega)]
    · exact h j hm
theorem wipe_set {σ : L2.St} {vs : List Nat} {i : Nat} {x : Option V} (hi : i ∈ vs) : L2.wipe (σ.set i x) vs = L2.wipe σ vs := wipe_eq (by simp) fun j hj => by
  rw [List.getElem?_set_ne (fun z => hj (by rw [← z]; exact hi))]
theorem wipe_wipe {σ : L2.St} {vs : List Nat} : L2.wipe (L2.wipe σ vs) vs = L2.wipe σ vs := wipe_eq (wipe_length σ vs) fun j hj => by
  rw [wipe_get, if_neg (fun z => hj z.1)]
theorem own_name {i : Nat} {vs : List Nat} (hi : i ∈ vs := by decide) : OwnG (gName i) vs := fun x σ H Q Q' h q => q _ h (wipe_set hi)
/-- names, one after another -/
def OwnGs (g : TGs) (vs : List Nat) : Prop := ∀ (xs : List V) (σ : L2.St) (H : Hp) (Q Q' : L2.St → Hp → Prop), g xs σ H Q → (∀ σ', Q σ' H → wipe σ' vs = wipe σ vs → Q' σ' H) → g xs σ H Q'
theorem own_nil {vs : List Nat} : OwnGs gNil vs := fun xs σ H Q Q' h q => ⟨h.1, q σ h.2 rfl⟩
theorem own_cons {g : TG} {gs : TGs} {vs : List Nat} (h1 : OwnG g vs) (h2 : OwnGs gs vs) (kp : ∀ x σ H Q, g x σ H Q → ∃ σ', Q σ' H ∧ ∀ Q', Q' σ' H → g x σ H Q') : OwnGs (gCons g gs) vs := fun xs σ H Q Q' h q => by
  obtain ⟨v, r, e, h⟩ := h
  obtain ⟨σ', k, back⟩ := kp _ _ _ _ h
  refine ⟨v, r, e, h1 v σ H _ _ h fun σ1 k1 e1 => h2 r σ1 H Q Q' k1 fun σ2 k2 e2 => q σ2 k2 (e2.trans e1)⟩
theorem own_tup {K : PySem.W.Frag} {n : Nat} {gs : TGs} {vs : List Nat} (h : OwnGs gs vs) : OwnG (gTup K n gs) vs := fun x σ H Q Q' ⟨a, xs, e, hs, hl, k⟩ q => ⟨a, xs, e, hs, hl, h xs σ H Q Q' k q⟩
theorem kp_name {i : Nat} : ∀ x σ H Q, gName i x σ H Q → ∃ σ', Q σ' H ∧ ∀ Q' : L2.St → Hp → Prop, Q' σ' H → gName i x σ H Q' := fun x σ H Q h => ⟨_, h, fun Q' h => h⟩
theorem own_cons' {i : Nat} {gs : TGs} {vs : List Nat} (h2 : OwnGs gs vs) (hi : i ∈ vs := by decide) : OwnGs (gCons (gName i) gs) vs := own_cons (own_name hi) h2 kp_name
theorem RepS.wipe {B0 B1 H0 H : Hp} {σ : L2.St} {ρ : Rho} : ∀ {A : Nat → Option Addr} (vs : List Nat), RepS K B0 B1 A H0 H σ ρ → ∃ A', RepS K B0 B1 A' H0 H (L2.wipe σ vs) (wipeD ρ vs) ∧ ∀ i a, A' i = some a → A i = some a
  | A, [], R => ⟨A, R, fun _ _ h => h⟩
  | A, v :: vs, R => by
    obtain ⟨A', R', h⟩ := RepS.wipe vs R
    exact ⟨clr A' v, R'.setNone v, fun i a e => h i a (clr_some e).2⟩
/-- another object of the heap, no slot's, not of the data -/
theorem RepS.other {B0 B1 H0 H : Hp} {A : Nat → Option Addr} {σ : L2.St} {ρ : Rho} {q : Addr} {ob : HO} (R : RepS K B0 B1 A H0 H σ ρ) (n0 : H0 q = none) (nb : B1 q = none) (na : ∀ i, A i ≠ some q) : RepS K B0 B1 A H0 (upd H q ob) σ ρ := by
  have ne : ∀ j b, A j = some b → b ≠ q := fun j b h e => by
    subst e
    exact na j h
  refine ⟨same_updR R.ex n0, ⟨R.gr.g0, same_updR R.gr.g1 nb, same_updR R.ex n0, R.gr.nw⟩, R.len, fun j x e => ?_, R.inj, fun j b h => ?_⟩
  · obtain ⟨v, e1, s⟩ := R.slot j x e
    refine ⟨v, e1, ?_⟩
    cases x with
    | none => exact s
    | some x =>
      cases x with
      | d y => exact s
      | lst x2 xs =>
        obtain ⟨b, o', e2, e3, n, b1, ho, r⟩ := s
        exact ⟨b, o', e2, e3, n, b1, by rw [upd_ne (ne j b e3)]; exact ho, r⟩
      | ins x2 C fs =>
        obtain ⟨b, o', e2, e3, n, b1, ho, r⟩ := s
        exact ⟨b, o', e2, e3, n, b1, by rw [upd_ne (ne j b e3)]; exact ho, r⟩
  · obtain ⟨q1, q2, q3⟩ := R.own j b h
    exact ⟨q1, q2, by rw [upd_ne (ne j b h)]; exact q3⟩
theorem sim_comp {ti : TI} {di : DI} {g : TG} {dg : DG} {vs : List Nat} (hi : SimI K Ed E ti di) (hg : SimG K g dg) (og : OwnG g vs) (ht : SimT K (fun _ => False) E0 tt dt) (he : SimE K (fun _ => False) E0 te de) : SimE K Ed E (tLc ti g tt te vs) (dComp di dg dt de vs) := fun B0 B1 A H0 H σ ρ R X Qd h Q q =>
  hi B0 B1 A H0 H σ ρ R X _ h _ fun J xs Hs0 Hs Rs gs wk hl => fun Dl hD => by
    obtain ⟨Aw, Rw, hw⟩ := Rs.wipe vs
    have nbD : B1 Dl = none := Rs.gr.g1.free hD
    have naD : ∀ i, Aw i ≠ some Dl := fun i z => (Rw.own i Dl z).2.2 hD
    -- what stands at each turn
    refine ⟨fun i m H' => m = xs.length - i ∧ ∃ H0' acc us, RepS K B0 B1 Aw H0' H' (L2.wipe σ vs) (wipeD ρ vs) ∧ Grow Hs0 Hs H0' H' ∧ H0' Dl = none ∧ H' Dl = some (.lst us) ∧ Reps K H0' acc us ∧ compD dg dt de (xs.drop i) acc (wipeD ρ vs) Qd,
      ⟨xs.length, by simp, Hs0, [], [], Rw.other (Rw.ex.free hD) nbD naD, ⟨.refl _, same_upd hD, same_updR Rw.ex (Rw.ex.free hD), fun _ _ => rfl⟩, Rw.ex.free hD, upd_same, rfl, by simpa using hl⟩, ?_⟩
    rintro i m H' ⟨rfl, H0', acc, us, R', g', n', hD', ra, hq⟩
    obtain ⟨hgo, hst⟩ := wk i H0' H' R'.ex g'.g0
    rcases drop_at (xs := xs) (i := i) with ⟨x, hx, hdr⟩ | ⟨hx, hdr⟩
    · rw [hdr] at hq
      obtain ⟨go, yl⟩ := hgo x hx
      have hlt : i < xs.length := (List.getElem?_eq_some_iff.mp hx).1
      refine .inr ⟨go, fun H2 => ∃ H02 acc us, RepS K B0 B1 Aw H02 H2 (L2.wipe σ vs) (wipeD ρ vs) ∧ Grow Hs0 Hs H02 H2 ∧ H02 Dl = none ∧ H2 Dl = some (.lst us) ∧ Reps K H02 acc us ∧ compD dg dt de (xs.drop (i + 1)) acc (wipeD ρ vs) Qd, fun H2 n2 => ⟨xs.length - (i + 1), by omega, rfl, n2⟩, fun v Hn y => ?_⟩
      obtain ⟨H0n, gn, rn⟩ := yl v Hn y
      have hDn : H' Dl ≠ none := by rw [hD']; exact fun z => nomatch z
      refine og v _ Hn (fun σ2 H2 => tt σ2 H2 fun b H3 => if b = true then te σ2 H3 fun y H4 => ∃ acc, H4 Dl = some (.lst acc) ∧ acc.length < sizeLine ∧ (∃ H02 acc' us, RepS K B0 B1 Aw H02 (upd H4 Dl (.lst (acc ++ [y]))) (L2.wipe σ vs) (wipeD ρ vs) ∧ Grow Hs0 Hs H02 (upd H4 Dl (.lst (acc ++ [y]))) ∧ H02 Dl = none ∧ (upd H4 Dl (.lst (acc ++ [y]))) Dl = some (.lst us) ∧ Reps K H02 acc' us ∧ compD dg dt de (xs.drop (i + 1)) acc' (wipeD ρ vs) Qd)
        else ∃ H02 acc us, RepS K B0 B1 Aw H02 H3 (L2.wipe σ vs) (wipeD ρ vs) ∧ Grow Hs0 Hs H02 H3 ∧ H02 Dl = none ∧ H3 Dl = some (.lst us) ∧ Reps K H02 acc us ∧ compD dg dt de (xs.drop (i + 1)) acc (wipeD ρ vs) Qd) _ (hg B0 B1 Aw H0n Hn (L2.wipe σ vs) (wipeD ρ vs) x v (R'.grow gn) rn _ hq _ fun A2 σ2 ρ2 R2 o2 k2 => ?_) fun σ2 k2 e2 => ⟨e2.trans wipe_wipe, k2⟩
      refine ht B0 B1 A2 H0n Hn σ2 ρ2 R2 ExRel.none _ k2 _ fun b H3 H4 R3 g3 k3 => ?_
      have gn3 := gn.trans g3
      cases b with
      | false => exact ⟨H3, acc, us, R'.grow gn3, g'.trans gn3, (gn3.nw Dl hDn).trans n', gn3.g1 _ _ hD', Reps.mono gn3.g0 _ _ ra, k3⟩
      | true =>
        refine he B0 B1 A2 H3 H4 σ2 ρ2 R3 ExRel.none _ k3 _ fun y u H5 H6 R4 g4 r4 k4 => ?_
        have gn4 := gn3.trans g4
        have n5 : H5 Dl = none := (gn4.nw Dl hDn).trans n'
        have rs := R'.grow gn4
        refine ⟨us, gn4.g1 _ _ hD', by rw [ra.length]; exact Nat.lt_of_lt_of_le k4.1 (by decide), H5, acc ++ [y], us ++ [u], rs.other n5 nbD naD, ?_, n5, upd_same, (Reps.mono gn4.g0 _ _ ra).append ⟨u, [], rfl, r4, rfl⟩, k4.2⟩
        have gg := g'.trans gn4
        exact ⟨gg.g0, same_updR gg.g1 hD, same_updR gg.g2 n5, gg.nw⟩
    · rw [hdr] at hq
      refine .inl ⟨hst hx, ?_⟩
      have gx : Grow Hs0 Hs (upd H0' Dl (.lst us)) H' := ⟨g'.g0.trans (same_upd n'), g'.g1, fun b o e => by
          by_cases hb : b = Dl
          · subst hb
            rw [upd_same] at e
            cases e
            exact hD'
          · rw [upd_ne hb] at e
            exact g'.g2 b o e, fun p hp => by
          have px : p ≠ Dl := fun z => hp (by rw [z]; exact hD)
          rw [upd_ne px]
          exact g'.nw p hp⟩
      exact q (.lst acc) (.ref Dl) _ H' (Rs.grow gx) (gs.trans gx) ⟨Dl, us, rfl, .inl (.inl upd_same), Reps.mono (same_upd n') _ _ ra⟩ hq
end
end DL

namespace DL
open PySem PySem.Spec PyProof.Rows L2
open RZ (ItzT iZipA pi_zipA)
section
variable {X : Cx} {Ed : DX → Prop} {E : XK} {K : PySem.W.Frag} {pos p : Pos} {e a b c o e2 tg iter elt : Expr} {te ta tb tc : TE} {de da db dc : DE} {tal : TA} {dal : DA} {es ifs : List Expr} {k : Nat} {x : Str} {tt : TT} {dt : DT} {ti : TI} {di : DI} {g : TG} {dg : DG} {scope : Scope} {own : List (Str × Nat)}

theorem e_comp (hc : X.calm = true) (hN : X.N.Nodup) (hi : JI X Ed E tg iter ti di) (ok : BlkOk X.N X.env.scope scope own) (og : OwnG g (own.map (·.2)))
    (hg : ∀ (s : Shared) (H : Hp) (C : Addr) (cl : List (Str × Addr)) (fp : List Addr), JG (X.blk s H scope (compEnvC scope cl C X.env) fp) tg g dg)
    (ht : ∀ (s : Shared) (H : Hp) (C : Addr) (cl : List (Str × Addr)) (fp : List Addr), JTs (X.blk s H scope (compEnvC scope cl C X.env) fp) (fun _ => False) E0 ifs tt dt)
    (he : ∀ (s : Shared) (H : Hp) (C : Addr) (cl : List (Str × Addr)) (fp : List Addr), JE (X.blk s H scope (compEnvC scope cl C X.env) fp) (fun _ => False) E0 elt te de) (hs : ∀ x, foldedSetIterable iter X.env x = pure x := by intro _; rfl) :
    JE X Ed E (.ListComp elt [⟨tg, iter, ifs, 0⟩] scope pos) (tLc ti g tt te (own.map (·.2))) (dComp di dg dt de (own.map (·.2))) :=
  ⟨pe_lc hc hN hi.pe ok (fun s H C cl fp => (hg s H C cl fp).pe) (fun s H C cl fp => (ht s H C cl fp).pe) (fun s H C cl fp => (he s H C cl fp).pe) hs,
    sim_comp hi.sim (hg X.s_0 X.H_0 0 [] []).sim og (ht X.s_0 X.H_0 0 [] []).sim (he X.s_0 X.H_0 0 [] []).sim⟩
theorem st_setComp {i : Nat} {y : Str} {py spos : Pos} (hc : X.calm = true) (hN : X.N.Nodup) (hy : X.N[i]? = some y) (hyl : X.env.scope.names.lookup y = some .local)
    (hsw : swapsWith (.ListComp elt [⟨tg, iter, ifs, 0⟩] scope pos) (some (.Name y py)) spos.line X.env = pure true) (hi : JI X Ed E tg iter ti di) (ok : BlkOk X.N X.env.scope scope own) (og : OwnG g (own.map (·.2)))
    (hg : ∀ (s : Shared) (H : Hp) (C : Addr) (cl : List (Str × Addr)) (fp : List Addr), JG (X.blk s H scope (compEnvC scope cl C X.env) fp) tg g dg)
    (ht : ∀ (s : Shared) (H : Hp) (C : Addr) (cl : List (Str × Addr)) (fp : List Addr), JTs (X.blk s H scope (compEnvC scope cl C X.env) fp) (fun _ => False) E0 ifs tt dt)
    (he : ∀ (s : Shared) (H : Hp) (C : Addr) (cl : List (Str × Addr)) (fp : List Addr), JE (X.blk s H scope (compEnvC scope cl C X.env) fp) (fun _ => False) E0 elt te de) (hs : ∀ x, foldedSetIterable iter X.env x = pure x := by intro _; rfl) :
    JS X Ed E (.Assign [.Name y py] (.ListComp elt [⟨tg, iter, ifs, 0⟩] scope pos) spos) (tAsg (tLc ti g tt te (own.map (·.2))) (gName i)) (dAsg (dComp di dg dt de (own.map (·.2))) (dName i)) :=
  ⟨ps_setLc hc hN hy hyl hsw hi.pe ok (fun s H C cl fp => (hg s H C cl fp).pe) (fun s H C cl fp => (ht s H C cl fp).pe) (fun s H C cl fp => (he s H C cl fp).pe) hs,
    sim_asg (sim_comp hi.sim (hg X.s_0 X.H_0 0 [] []).sim og (ht X.s_0 X.H_0 0 [] []).sim (he X.s_0 X.H_0 0 [] []).sim) sim_name⟩

/-! ### zip, enumerate, a text -/
def zipD : List D → List D → List D
  | x :: xs, y :: ys => .tup [x, y] :: zipD xs ys
  | _, _ => []
theorem zipD_get : ∀ {xs ys : List D} {i : Nat}, (zipD xs ys)[i]? = match xs[i]?, ys[i]? with | some x, some y => some (.tup [x, y]) | _, _ => none
  | [], _, i => by simp [zipD]
  | _ :: _, [], i => by simp [zipD]
  | x :: xs, y :: ys, 0 => by simp [zipD]
  | x :: xs, y :: ys, i + 1 => by
    have := zipD_get (xs := xs) (ys := ys) (i := i)
    simpa [zipD] using this
def dZip (da : DA) (ρ : Rho) (L : List D → Prop) : Prop := da ρ fun ds => match ds with
  | [.lst xs, .lst ys] => L (zipD xs ys)
  | [.tup xs, .tup ys] => L (zipD xs ys)
  | _ => False
theorem walks_zip {Hs : Hp} {l l' : Addr} {vs us : List V} {xs ys : List D} (h : SqL K Hs l vs) (h' : SqL K Hs l' us) (r : Reps K Hs xs vs) (r' : Reps K Hs ys us) : Walks K (Itz K l l') Hs (zipD xs ys) := fun i H0 H sm s0 => by
  have hs := sm.seq (s0.seq h)
  have hs' := sm.seq (s0.seq h')
  rw [zipD_get]
  refine ⟨fun z hz => ?_, fun hz => ?_⟩
  · cases e1 : xs[i]? with
    | none => rw [e1] at hz; cases hz
    | some x =>
      cases e2 : ys[i]? with
      | none => rw [e1, e2] at hz; cases hz
      | some y =>
        rw [e1, e2] at hz
        cases hz
        obtain ⟨v, hv, rv⟩ := r.get e1
        obtain ⟨u, hu, ru⟩ := r'.get e2
        refine ⟨⟨vs, us, v, u, hs, hs', hv, hu⟩, fun w H' q => ?_⟩
        obtain ⟨T, x', y', rfl, nT, rfl, f1, f2⟩ := q
        have ex := f1 vs hs
        have ey := f2 us hs'
        rw [hv] at ex
        rw [hu] at ey
        cases ex
        cases ey
        have gr := Grow.new (o := .tup [v, u]) sm nT
        exact ⟨_, gr, T, [v, u], rfl, .inl (.inl upd_same), v, [u], rfl, Rep.mono gr.g0 _ _ (Rep.mono s0 _ _ rv), u, [], rfl, Rep.mono gr.g0 _ _ (Rep.mono s0 _ _ ru), rfl⟩
  · refine ⟨vs, us, hs, hs', ?_⟩
    rw [r.length, r'.length]
    cases e1 : xs[i]? with
    | none => exact .inl (List.getElem?_eq_none_iff.mp e1)
    | some x =>
      cases e2 : ys[i]? with
      | none => exact .inr (List.getElem?_eq_none_iff.mp e2)
      | some y => rw [e1, e2] at hz; cases hz
theorem walks_zipT {Hs : Hp} {l l' : Addr} {vs us : List V} {xs ys : List D} (h : SqT K Hs l vs) (h' : SqT K Hs l' us) (r : Reps K Hs xs vs) (r' : Reps K Hs ys us) : Walks K (ItzT K l l') Hs (zipD xs ys) := fun i H0 H sm s0 => by
  have hs := sqt_mono sm (sqt_mono s0 h)
  have hs' := sqt_mono sm (sqt_mono s0 h')
  rw [zipD_get]
  refine ⟨fun z hz => ?_, fun hz => ?_⟩
  · cases e1 : xs[i]? with
    | none => rw [e1] at hz; cases hz
    | some x =>
      cases e2 : ys[i]? with
      | none => rw [e1, e2] at hz; cases hz
      | some y =>
        rw [e1, e2] at hz
        cases hz
        obtain ⟨v, hv, rv⟩ := r.get e1
        obtain ⟨u, hu, ru⟩ := r'.get e2
        refine ⟨⟨vs, us, v, u, hs, hs', hv, hu⟩, fun w H' q => ?_⟩
        obtain ⟨T, x', y', rfl, nT, rfl, f1, f2⟩ := q
        have ex := f1 vs hs
        have ey := f2 us hs'
        rw [hv] at ex
        rw [hu] at ey
        cases ex
        cases ey
        have gr := Grow.new (o := .tup [v, u]) sm nT
        exact ⟨_, gr, T, [v, u], rfl, .inl (.inl upd_same), v, [u], rfl, Rep.mono gr.g0 _ _ (Rep.mono s0 _ _ rv), u, [], rfl, Rep.mono gr.g0 _ _ (Rep.mono s0 _ _ ru), rfl⟩
  · refine ⟨vs, us, hs, hs', ?_⟩
    rw [r.length, r'.length]
    cases e1 : xs[i]? with
    | none => exact .inl (List.getElem?_eq_none_iff.mp e1)
    | some x =>
      cases e2 : ys[i]? with
      | none => exact .inr (List.getElem?_eq_none_iff.mp e2)
      | some y => rw [e1, e2] at hz; cases hz
theorem i_zip {tpos : Pos} {elts : List Expr} {kk : Nat} (hm : X.mg "zip" = none) (ha : JA X Ed E [e, e2] tal dal) (hg : Gl X "zip" := by rfl) (hs : starEach [e, e2] X.env = (false, eval e X.env) :: starEach [e2] X.env := by rfl) (hpl : (backTo pos (starEach [e2] X.env)).any (·.1) = false := by rfl) :
    JI X Ed E (.Tuple elts kk tpos) (.Call (.Name "zip" p) [e, e2] [] pos) (iZipA X.K tal) (dZip dal) := ⟨pi_zipA hg hm ha.pe hs hpl, fun B0 B1 A H0 H σ ρ R X Ld hd Q q => ha.sim B0 B1 A H0 H σ ρ R X _ hd _ fun ds vs H1 H2 R1 g1 r1 k => by
  split at k
  · obtain ⟨v, u, rfl, ⟨l, vs, rfl, hs, r⟩, ⟨l', us, rfl, hs', r'⟩⟩ := two_of r1
    exact ⟨l, l', vs, us, rfl, .inl ⟨R1.ex.seq hs, R1.ex.seq hs', q _ _ H1 H2 R1 g1 (walks_zip hs hs' r r') k⟩⟩
  · obtain ⟨v, u, rfl, ⟨l, vs, rfl, hs, r⟩, ⟨l', us, rfl, hs', r'⟩⟩ := two_of r1
    exact ⟨l, l', vs, us, rfl, .inr ⟨sqt_mono R1.ex hs, sqt_mono R1.ex hs', q _ _ H1 H2 R1 g1 (walks_zipT hs hs' r r') k⟩⟩
  · exact k.elim⟩
def enumD : Nat → List D → List D
  | _, [] => []
  | n, x :: xs => .tup [.int (n : Int), x] :: enumD (n + 1) xs
theorem enumD_get : ∀ {xs : List D} {n i : Nat}, (enumD n xs)[i]? = (xs[i]?).map fun x => .tup [.int ((n + i : Nat) : Int), x]
  | [], n, i => by simp [enumD]
  | x :: xs, n, 0 => by simp [enumD]
  | x :: xs, n, i + 1 => by
    have := enumD_get (xs := xs) (n := n + 1) (i := i)
    have e : n + 1 + i = n + (i + 1) := by omega
    rw [e] at this
    simpa [enumD] using this
def dEnum (da : DA) (ρ : Rho) (L : List D → Prop) : Prop := da ρ fun ds => match ds with
  | [.lst xs] => L (enumD 0 xs)
  | _ => False
theorem walks_enum {Hs : Hp} {l : Addr} {vs : List V} {xs : List D} (h : SqL K Hs l vs) (r : Reps K Hs xs vs) : Walks K (Ite K l) Hs (enumD 0 xs) := fun i H0 H sm s0 => by
  have hs := sm.seq (s0.seq h)
  rw [enumD_get, Nat.zero_add]
  refine ⟨fun z hz => ?_, fun hz => ?_⟩
  · cases e1 : xs[i]? with
    | none => rw [e1] at hz; cases hz
    | some x =>
      rw [e1] at hz
      cases hz
      obtain ⟨v, hv, rv⟩ := r.get e1
      refine ⟨⟨vs, v, hs, hv⟩, fun w H' q => ?_⟩
      obtain ⟨T, x', rfl, nT, rfl, f1⟩ := q
      have ex := f1 vs hs
      rw [hv] at ex
      cases ex
      have gr := Grow.new (o := .tup [.int (i : Nat), v]) sm nT
      exact ⟨_, gr, T, [.int (i : Nat), v], rfl, .inl (.inl upd_same), .int (i : Nat), [v], rfl, rfl, v, [], rfl, Rep.mono gr.g0 _ _ (Rep.mono s0 _ _ rv), rfl⟩
  · refine ⟨vs, hs, ?_⟩
    rw [r.length]
    cases e1 : xs[i]? with
    | none => exact List.getElem?_eq_none_iff.mp e1
    | some x => rw [e1] at hz; cases hz
theorem i_enum {tpos : Pos} {elts : List Expr} {kk : Nat} (hm : X.mg "enumerate" = none) (ha : JA X Ed E [e] tal dal) (hg : Gl X "enumerate" := by rfl) (hs : starEach [e] X.env = [(false, eval e X.env)] := by rfl) :
    JI X Ed E (.Tuple elts kk tpos) (.Call (.Name "enumerate" p) [e] [] pos) (iEnum X.K tal) (dEnum dal) := ⟨pi_enum hg hm ha.pe hs, fun B0 B1 A H0 H σ ρ R X Ld hd Q q => ha.sim B0 B1 A H0 H σ ρ R X _ hd _ fun ds vs H1 H2 R1 g1 r1 k => by
  split at k
  · obtain ⟨v, rfl, l, vs, rfl, hs, r⟩ := one_of r1
    exact ⟨l, vs, rfl, R1.ex.seq hs, q _ _ H1 H2 R1 g1 (walks_enum hs r) k⟩
  · exact k.elim⟩
def signs (z : Str) : List D := z.cps.toList.map fun c => .str ⟨#[c]⟩
def dStrI (de : DE) (ρ : Rho) (L : List D → Prop) : Prop := de ρ fun x => match x with
  | .str z => L (signs z)
  | _ => False
theorem i_str (h : JE X Ed E e te de) : JI X Ed E tg e (iStr te) (dStrI de) := ⟨pi_str h.pe, fun B0 B1 A H0 H σ ρ R X Ld hd Q q => h.sim B0 B1 A H0 H σ ρ R X _ hd _ fun x v H1 H2 R1 g1 r1 k => by
  split at k
  · rename_i z
    cases (show v = _ from r1)
    refine ⟨z, rfl, q _ _ H1 H2 R1 g1 (fun i H0' H' sm s0 => ⟨fun d hd => ?_, fun hd => ?_⟩) k⟩
    · have hi : i < z.cps.size := by
        have := (List.getElem?_eq_some_iff.mp hd).1
        simpa [signs] using this
      refine ⟨hi, fun v H'' y => ?_⟩
      obtain ⟨rfl, c, hc, rfl⟩ := y
      refine ⟨H0', .refl sm, ?_⟩
      have e : (signs z)[i]? = some (.str ⟨#[c]⟩) := by
        unfold signs
        rw [List.getElem?_map]
        have : z.cps.toList[i]? = some c := by simpa using hc
        rw [this]
        rfl
      rw [e] at hd
      cases hd
      rfl
    · have := List.getElem?_eq_none_iff.mp hd
      show z.cps.size ≤ i
      simpa [signs] using this
  · exact k.elim⟩
end
end DL

namespace DL
open PySem PySem.Spec PyProof.Rows L2
section
variable {X : Cx} {Ed : DX → Prop} {E : XK} {K : PySem.W.Frag} {pos p : Pos} {e a b c o e2 tg iter elt : Expr} {te ta tb tc : TE} {de da db dc : DE} {tal : TA} {dal : DA} {es ifs : List Expr} {k : Nat} {x : Str} {tt : TT} {dt : DT} {st : Stmt} {sts : List Stmt} {ts us : TS} {ds dus : DS}

theorem e_isiT (hm : X.mg "isinstance" = none) (h1 : JE X Ed E e te de) {x1 : Nat} {p2 : Pos} (h2 : JA X Ed E es tal dal) (hg : Gl X "isinstance" := by rfl) (he : starEach [e, .Tuple es x1 p2] X.env = (false, eval e X.env) :: starEach [.Tuple es x1 p2] X.env := by rfl) (hpl : (backTo pos (starEach [.Tuple es x1 p2] X.env)).any (·.1) = false := by rfl) :
    JE X Ed E (.Call (.Name "isinstance" p) [e, .Tuple es x1 p2] [] pos) (tCB (rIsiT X.K) (tCons te (tCons (tTup tal) tNil))) (dCB dIsiT (dCons de (dCons (dTup dal) dNil))) := by
  refine ⟨pe_callB call_isiT hg hm (by decide +kernel) (a_cons h1 (a_cons (e_tup h2) a_nil) he).pe (by decide) (by decide) he hpl, ?_⟩
  intro B0 B1 A H0 H σ ρ R X Qd h Q q
  refine h1.sim B0 B1 A H0 H σ ρ R X _ h _ fun d v H1 H2 R1 g1 r1 k => ?_
  refine h2.sim B0 B1 A H1 H2 σ ρ R1 X _ k _ fun cs vs H3 H4 R2 g2 r2 k2 => ⟨by rw [r2.length]; exact line1000 k2.1, fun t ht => ?_⟩
  have k2 := k2.2
  dsimp only [dIsiT, dNil] at k2
  obtain ⟨m, hm', k2⟩ := onS_at k2
  obtain ⟨b, hb, k2⟩ := onS_at k2
  have g := Grow.new (o := .tup vs) R2.ex ht
  obtain ⟨us, pu, ku⟩ := kitAny_of (K := _) r2 hb
  have R3 := R2.grow g
  exact ⟨v, t, vs, _, us, b, rfl, upd_same, pu, ty_of R3.ex (Rep.mono g.g0 _ _ (Rep.mono g2.g0 _ _ r1)) hm', ku, q (.bl b) _ _ _ R3 ((g1.trans g2).trans g) rfl k2⟩

/-! ### lists of one's own -/
/-- x = [e, ..] -/
def dNewL (i : Nat) (da : DA) (d : DEnds) (ρ : Rho) : Prop := da ρ fun xs => xs.length ≤ 1000 ∧ i < ρ.length ∧ ∀ a, d.nx (ρ.set i (some (.lst a xs)))
theorem st_newL {y : Str} {p2 p3 : Pos} (i : Nat) (hN : X.N.Nodup) (ha : JA X Ed E es tal dal) (hi : X.N[i]? = some y := by rfl) (hx : Loc X.env.scope y := by first | exact Or.inl rfl | exact Or.inr rfl) (hs : swapsWith (.List es p3) (some (.Name y p2)) pos.line X.env = pure false := by rfl)
    (hf : X.fn y = true ∨ X.env.scope.names.lookup y = some .local := by first | exact .inl rfl | exact .inr rfl | assumption) : JS X Ed E (.Assign [.Name y p2] (.List es p3) pos) (tAsg (tLst tal) (gName i)) (dNewL i dal) :=
  ⟨ps_set hN hi hx (pe_lst ha.pe) hs hf, fun B0 B1 A H0 H σ ρ R X d D r h => ha.sim B0 B1 A H0 H σ ρ R X _ h _ fun xs vs H1 H2 R1 g1 r1 k => ⟨by rw [r1.length]; exact line1000 k.1, fun q hq =>
    r.nx _ H1 _ _ _ (R1.setOwn (w := .lst q xs) i k.2.1 hq ⟨rfl, vs, rfl, r1⟩) (k.2.2 q)⟩⟩
/-- x = list(e) -/
def dOwnL (i : Nat) (da : DE) (d : DEnds) (ρ : Rho) : Prop := da ρ fun x => match x with
  | .lst xs => i < ρ.length ∧ ∀ a, d.nx (ρ.set i (some (.lst a xs)))
  | .tup xs => i < ρ.length ∧ ∀ a, d.nx (ρ.set i (some (.lst a xs)))
  | _ => False
theorem st_ownL {y : Str} {p2 p3 p4 : Pos} (i : Nat) (hN : X.N.Nodup) (hm : X.mg "list" = none) (ha : JE X Ed E e te de) (hi : X.N[i]? = some y := by rfl) (hx : Loc X.env.scope y := by first | exact Or.inl rfl | exact Or.inr rfl) (hs : swapsWith (.Call (.Name "list" p3) [e] [] p4) (some (.Name y p2)) pos.line X.env = pure false := by rfl)
    (hf : X.fn y = true ∨ X.env.scope.names.lookup y = some .local := by first | exact .inl rfl | exact .inr rfl | assumption) (hg : Gl X "list" := by rfl) (he : starEach [e] X.env = (false, eval e X.env) :: starEach [] X.env := by rfl) (hpl : (backTo p4 (starEach [] X.env)).any (·.1) = false := by rfl) :
    JS X Ed E (.Assign [.Name y p2] (.Call (.Name "list" p3) [e] [] p4) pos) (tAsg (tCB (rList X.K) (tCons te tNil)) (gName i)) (dOwnL i de) :=
  ⟨ps_set hN hi hx (pe_callTy call_list_of hg hm (by decide +kernel) (a_cons ha a_nil he).pe (by decide) (by decide) he hpl) hs hf, fun B0 B1 A H0 H σ ρ R X d D r h => ha.sim B0 B1 A H0 H σ ρ R X _ h _ fun z v H1 H2 R1 g1 r1 k => by
    split at k
    · obtain ⟨l, vs, rfl, hs, rr⟩ := r1
      exact ⟨l, vs, rfl, .inl (R1.ex.seq hs), fun q hq => r.nx _ H1 _ _ _ (R1.setOwn (w := .lst q _) i k.1 hq ⟨rfl, vs, rfl, rr⟩) (k.2 q)⟩
    · obtain ⟨l, vs, rfl, hs, rr⟩ := r1
      exact ⟨l, vs, rfl, .inr (sqt_mono R1.ex hs), fun q hq => r.nx _ H1 _ _ _ (R1.setOwn (w := .lst q _) i k.1 hq ⟨rfl, vs, rfl, rr⟩) (k.2 q)⟩
    · exact k.elim⟩
/-- x[k] = e -/
def dSetL (i : Nat) (de dk : DE) (d : DEnds) (ρ : Rho) : Prop := de ρ fun v => match lk i ρ with
  | some (.lst a xs) => dk ρ fun z => (match z with
    | .int j => onS (ixN xs.length j) fun m => d.nx (ρ.set i (some (.lst a (xs.set m v))))
    | _ => False)
  | _ => False
theorem lk_lt {i : Nat} {ρ : Rho} {w : SV} (h : lk i ρ = some w) : i < ρ.length := (List.getElem?_eq_some_iff.mp (lk_some h)).1
/-- the slot's own list, later on -/
theorem RepS.lstAt {B0 B1 H0 H : Hp} {A : Nat → Option Addr} {σ : L2.St} {ρ : Rho} (R : RepS K B0 B1 A H0 H σ ρ) {i : Nat} {q : Addr} {xs : List D} (h : lk i ρ = some (.lst q xs)) : σ[i]? = some (some (.ref q)) ∧ A i = some q ∧ ∃ vs, H q = some (.lst vs) ∧ Reps K H0 xs vs := by
  obtain ⟨l, ho, e1, e2, n0, nb, hh, rr⟩ := R.ownAt (lk_some h) (fun _ z => nomatch z)
  obtain ⟨rfl, vs, rfl, rf⟩ := rr
  exact ⟨e1, e2, vs, hh, rf⟩
theorem st_setL {y : Str} {p2 p3 : Pos} (i : Nat) (he : JE X Ed E e te de) (hk : JE X Ed E b tb db) (hN : X.N[i]? = some y := by rfl) (hv : Vis X.env.scope y := by first | exact Or.inl rfl | exact Or.inr (Or.inl rfl) | exact Or.inr (Or.inr rfl)) (hd : (y == ("__debug__" : Str)) = false := by decide)
    (hcd : (y == ("__classdict__" : Str)) = false := by decide)
    (ha : ∀ v, assign (.Subscript (.Name y p2) b p3) X.env v = (do
      let ov ← holding [v] (eval (.Name y p2) X.env)
      let iv ← holding [v, ov] (eval b X.env)
      standAt p3
      holding [v, ov, iv] (setItem ov iv v)
      release [v, ov, iv] []) := by intro _; rfl) (hs : swapsWithSole [.Subscript (.Name y p2) b p3] e pos.line X.env = pure false := by rfl) (hw : swappedStores [.Subscript (.Name y p2) b p3] e X.env = pure none := by rfl)
    (h1 : (assignEach [.Subscript (.Name y p2) b p3] X.env).map (·.2) = [assign (.Subscript (.Name y p2) b p3) X.env] := by rfl) : JS X Ed E (.Assign [.Subscript (.Name y p2) b p3] e pos) (tAsg te (gSub (tVar i) tb rSetL)) (dSetL i de db) :=
  ⟨ps_asg he.pe (pg_sub (pe_var hN hv hd hcd) hk.pe set_list ha) hs hw h1, fun B0 B1 A H0 H σ ρ R X d D r h => he.sim B0 B1 A H0 H σ ρ R X _ h _ fun z v H1 H2 R1 g1 r1 k => by
    split at k
    · rename_i q xs e
      refine ⟨.ref q, (R1.lstAt e).1, hk.sim B0 B1 A H1 H2 σ ρ R1 X _ k _ fun w u H3 H4 R2 g2 r2 k2 => ?_⟩
      split at k2
      · rename_i j
        obtain ⟨m, hm, k2⟩ := onS_at k2
        obtain ⟨e1, e2, vs, hh, rr⟩ := R2.lstAt e
        cases (show u = _ from r2)
        exact ⟨q, vs, j, m, rfl, rfl, hh, by rw [rr.length]; exact hm, r.nx _ _ _ _ _ (R2.updOwn (w := .lst q (xs.set m z)) (lk_lt e) e1 e2 ⟨rfl, _, rfl, Reps.set (Rep.mono g2.g0 _ _ r1) m rr⟩) k2⟩
      · exact k2.elim
    · exact k.elim⟩
/-- x[k] -/
def dIxO (i : Nat) (dk : DE) (ρ : Rho) (Q : D → Prop) : Prop := match lk i ρ with
  | some (.lst _ xs) => dk ρ fun z => (match z with
    | .int j => onS (atI xs j) Q
    | _ => False)
  | _ => False
theorem e_ixO {y : Str} {p2 : Pos} (i : Nat) (hk : JE X Ed E b tb db) (hN : X.N[i]? = some y := by rfl) (hv : Vis X.env.scope y := by first | exact Or.inl rfl | exact Or.inr (Or.inl rfl) | exact Or.inr (Or.inr rfl)) (hd : (y == ("__debug__" : Str)) = false := by decide)
    (hcd : (y == ("__classdict__" : Str)) = false := by decide) (hs : PlainIx b := by exact fun _ _ => rfl) : JE X Ed E (.Subscript (.Name y p2) b pos) (tOp (rIx X.K) (tVar i) tb) (dIxO i db) :=
  ⟨pe_ix ix_seq (pe_var hN hv hd hcd) hk.pe hs, fun B0 B1 A H0 H σ ρ R X Qd h Q q => by
    unfold dIxO at h
    split at h
    · rename_i l xs e
      refine ⟨.ref l, (R.lstAt e).1, hk.sim B0 B1 A H0 H σ ρ R X _ h _ fun w u H3 H4 R2 g2 r2 k2 => ?_⟩
      split at k2
      · rename_i j
        obtain ⟨d, hd', k2⟩ := onS_at k2
        obtain ⟨e1, e2, vs, hh, rr⟩ := R2.lstAt e
        cases (show u = _ from r2)
        obtain ⟨v, hv', rv⟩ := atI_rep rr hd'
        exact .inl ⟨l, vs, j, v, rfl, rfl, .inl (.inl hh), hv', q d v _ _ R2 g2 rv k2⟩
      · exact k2.elim
    · exact h.elim⟩
/-- x.append(e) -/
def dApp (i : Nat) (de : DE) (d : DEnds) (ρ : Rho) : Prop := match lk i ρ with
  | some (.lst a xs) => de ρ fun y => xs.length < 100000 ∧ d.nx (ρ.set i (some (.lst a (xs ++ [y]))))
  | _ => False
theorem st_app {y : Str} {p2 p3 p4 : Pos} (i : Nat) (he : JE X Ed E e te de) (hp : PE X (.Call (.Attribute (.Name y p2) "append" p3) [e] [] p4) (tBM X.K "list" rAppend (tVar i) (tCons te tNil))) (hs : swapsWith (.Call (.Attribute (.Name y p2) "append" p3) [e] [] p4) none pos.line X.env = pure false := by rfl) :
    JS X Ed E (.Expr (.Call (.Attribute (.Name y p2) "append" p3) [e] [] p4) pos) (tDrop (tBM X.K "list" rAppend (tVar i) (tCons te tNil))) (dApp i de) := ⟨ps_expr hp hs, fun B0 B1 A H0 H σ ρ R X d D r h => by
    unfold dApp at h
    split at h
    · rename_i l xs e
      obtain ⟨e1, e2, vs, hh, rr⟩ := R.lstAt e
      refine ⟨.ref l, e1, .inl ⟨rfl, vs, .inl (.inl hh)⟩, he.sim B0 B1 A H0 H σ ρ R X _ h _ fun w u H3 H4 R2 g2 r2 k2 => ?_⟩
      obtain ⟨e1, e2, vs, hh, rr⟩ := R2.lstAt e
      exact ⟨l, vs, u, rfl, rfl, hh, by rw [rr.length]; exact Nat.lt_of_lt_of_le k2.1 (by decide), r.nx _ _ _ _ _ (R2.updOwn (w := .lst l (xs ++ [w])) (lk_lt e) e1 e2 ⟨rfl, _, rfl, rr.append ⟨u, [], rfl, r2, rfl⟩⟩) k2.2⟩
    · exact h.elim⟩
/-- len(x) -/
def dLenO (i : Nat) (ρ : Rho) (Q : D → Prop) : Prop := match lk i ρ with
  | some (.lst _ xs) => Q (.int xs.length)
  | _ => False
theorem e_lenO {y : Str} {p2 : Pos} (i : Nat) (hm : X.mg "len" = none) (hN : X.N[i]? = some y := by rfl) (hv : Vis X.env.scope y := by first | exact Or.inl rfl | exact Or.inr (Or.inl rfl) | exact Or.inr (Or.inr rfl)) (hd : (y == ("__debug__" : Str)) = false := by decide)
    (hcd : (y == ("__classdict__" : Str)) = false := by decide) (hg : Gl X "len" := by rfl) (he : starEach [.Name y p2] X.env = (false, eval (.Name y p2) X.env) :: starEach [] X.env := by rfl) (hpl : (backTo pos (starEach [] X.env)).any (·.1) = false := by rfl) :
    JE X Ed E (.Call (.Name "len" p) [.Name y p2] [] pos) (tCB (rLen X.K) (tCons (tVar i) tNil)) (dLenO i) := ⟨pe_callB (call_len_seq.or call_len_str) hg hm (by decide +kernel) (pa_cons (pe_var hN hv hd hcd) pa_nil he) (by decide) (by decide) he hpl, fun B0 B1 A H0 H σ ρ R X Qd h Q q => by
    unfold dLenO at h
    split at h
    · rename_i l xs e
      obtain ⟨e1, e2, vs, hh, rr⟩ := R.lstAt e
      exact ⟨.ref l, e1, .inl ⟨l, vs, rfl, .inl (.inl (.inl hh)), by rw [rr.length]; exact q (.int _) _ H0 H R (.refl R.ex) rfl h⟩⟩
    · exact h.elim⟩
/-- from here on x is data -/
def dFrz (i : Nat) (ds : DS) (d : DEnds) (ρ : Rho) : Prop := match lk i ρ with
  | some (.lst _ xs) => ds d (ρ.set i (some (.d (.lst xs))))
  | some (.ins _ C fs) => ds d (ρ.set i (some (.d (.ins C fs))))
  | _ => False
theorem b_frz (i : Nat) (h : JB X Ed E sts ts ds) : JB X Ed E sts ts (dFrz i ds) := ⟨h.pe, fun B0 B1 A H0 H σ ρ R X d D r hd => by
  unfold dFrz at hd
  split at hd
  · rename_i l xs e
    obtain ⟨a, o, _, _, _, _, _, R'⟩ := R.freeze (lk_some e) (fun _ z => nomatch z)
    exact h.sim B0 B1 _ _ H σ _ R' X d D r hd
  · rename_i x C fs e
    obtain ⟨a, o, _, _, _, _, _, R'⟩ := R.freeze (lk_some e) (fun _ z => nomatch z)
    exact h.sim B0 B1 _ _ H σ _ R' X d D r hd
  · exact hd.elim⟩
end

/-! ### a def that changes the list that is handed to it -/
abbrev WpO := List D → List D → (List D → D → Prop) → (DX → Prop) → Prop
def SpO (K : PySem.W.Frag) (wp : WpO) : Sp := fun vs H Q E => ∃ (q : Addr) (ws us : List V) (H0 : Hp) (xs ds : List D) (Qf : List D → D → Prop) (Ed : DX → Prop), vs = .ref q :: ws ∧ H q = some (.lst us) ∧ H0 q = none ∧ Same H0 H ∧ Reps K H0 xs us ∧ Reps K H0 ds ws ∧ wp xs ds Qf Ed ∧
  (∀ xs' us' d v H0' H', Grow H0 (wo H q) H0' H' → H0' q = none → H' q = some (.lst us') → Reps K H0' xs' us' → Rep K H0' d v → Qf xs' d → Q v H') ∧ ExRel K H0 (wo H q) Ed E
section
variable {P : Program} {w : World} {K : PySem.W.Frag} {mg : Str → Option Value} {base : Heap}
theorem fnO_ok {x qual : Str} {st : Stmt} {f : Addr} {fd : FuncData} {N ps : List Str} {k : Nat} {wp : WpO} (n : Nat) (hn : N.length - 1 = n) (F : FunX K x qual st f fd) (S : FnScope N ps (defScope st)) (len : ∀ xs ds Q Ed, wp xs ds Q Ed → ds.length + 1 = ps.length)
    (body : ∀ (cdv : Value) (A : Around) (outer : List Env) (s : Shared) (H : Hp) (E : XK), Room k (A.deeper (envOfC qual (defScope st) s.heap.objs.size f cdv)) → ∀ (q : Addr) (xs ds : List D) (Qf : List D → D → Prop) (Ed : DX → Prop), wp xs ds Qf Ed →
      ∃ ts bs, JB (bx P w K mg base N qual st f cdv A outer s H E) Ed E (defBody st) ts bs ∧ bs { nx := fun _ => False, rt := fun d ρ => (match lk 0 ρ with | some (.lst q' xs') => q' = q ∧ Qf xs' d | _ => False) } (some (.lst q xs) :: startD n ds)) :
    FnOk P w K mg base (L2.CX P w) (k + 1) f fd ps (SpO K wp) := by
  have hpl : ps.length ≤ N.length := by
    have e := congrArg List.length S.pre
    rw [List.length_take] at e
    omega
  subst hn
  refine F.okX S (fun vs H Q E h => ?_) (fun cdv A outer s H vs Q E hr h => ?_)
  · obtain ⟨q, ws, us, H0, xs, ds, Qf, Ed, rfl, _, _, sm, r, r', hw, _⟩ := h
    show ws.length + 1 = _
    rw [r'.length]
    exact len xs ds Qf Ed hw
  · obtain ⟨q, ws, us, H0, xs, ds, Qf, Ed, rfl, hx, n0, sm, r, r', hw, kq, xr⟩ := h
    obtain ⟨ts, bs, jb, hb⟩ := body cdv A outer s H E hr q xs ds Qf Ed hw
    have hl := len xs ds Qf Ed hw
    have hN : 0 < N.length := by omega
    have hv : (V.ref q :: ws).length ≤ N.length := by
      show ws.length + 1 ≤ _
      rw [r'.length]
      omega
    have R : RepS K H0 (wo H q) (fun i => if i = 0 then some q else none) H0 H (L2.start N (.ref q :: ws)) (some (.lst q xs) :: startD (N.length - 1) ds) := by
      refine ⟨sm, ⟨.refl _, wo_sub, sm, fun _ _ => rfl⟩, by rw [start_len hv]; show N.length = (startD (N.length - 1) ds).length + 1; rw [startD_len]; omega, fun i w e => ?_, fun i j a h1 h2 => ?_, fun i a h => ?_⟩
      · cases i with
        | zero =>
          have e : some (some (SV.lst q xs)) = some w := e
          cases e
          exact ⟨_, start_at rfl, q, _, rfl, rfl, n0, wo_same, hx, rfl, us, rfl, r⟩
        | succ i =>
          have e : (startD (N.length - 1) ds)[i]? = some w := by simpa using e
          rcases startD_at e with rfl | ⟨d, e1, rfl⟩
          · have hi : i + 1 < N.length := by
              have := (List.getElem?_eq_some_iff.mp e).1
              rw [startD_len] at this
              omega
            obtain ⟨v, hv⟩ := start_has hv hi
            exact ⟨v, hv, rfl⟩
          · obtain ⟨v, hv', rv⟩ := r'.get e1
            exact ⟨some v, start_at (by simpa using hv'), rfl, v, rfl, rv⟩
      · by_cases hi : i = 0
        · by_cases hj : j = 0
          · rw [hi, hj]
          · rw [if_neg hj] at h2
            cases h2
        · rw [if_neg hi] at h1
          cases h1
      · by_cases hi : i = 0
        · rw [if_pos hi] at h
          cases h
          exact ⟨n0, wo_same, by rw [hx]; exact fun z => nomatch z⟩
        · rw [if_neg hi] at h
          cases h
    refine ⟨ts, jb.pe, jb.sim H0 (wo H q) _ H0 H _ _ R xr { nx := fun _ => False, rt := fun d ρ => (match lk 0 ρ with | some (.lst q' xs') => q' = q ∧ Qf xs' d | _ => False) } _ ⟨fun _ _ _ _ _ _ h => h.elim, fun A H0' H' σ ρ d v R' rv h => ?_, fun _ _ _ _ _ _ h => h.elim, fun _ _ _ _ _ _ h => h.elim⟩ hb⟩
    dsimp only at h
    split at h
    · rename_i q' xs' e
      obtain ⟨rfl, h⟩ := h
      obtain ⟨e1, e2, vs, hh, rr⟩ := R'.lstAt e
      exact kq xs' vs d v H0' H' R'.gr (R'.own 0 _ e2).1 hh rr rv h
    · exact h.elim
end
end DL

namespace DL
open PySem PySem.Spec PyProof.Rows L2
/-! ### the bag -/
section
variable {P : Program} {w : World} {K : PySem.W.Frag} {mg : Str → Option Value} {base : Heap} {H : Hp} {h : Heap} {b c : Addr} {m : Nat}
theorem bagO_ne_own {x : Addr} : bagO b c m ≠ .own x := fun z => by
  unfold bagO at z
  cases z
theorem bagO_ne_tup {xs : List V} : bagO b c m ≠ .tup xs := fun z => by
  unfold bagO at z
  cases z
theorem bag_ok (x : BagIn h b c m) : ObjOk P w H h b (bagO b c m) := by
  obtain ⟨i, g, s, n, t1, t2, t3, t4, z, e, q⟩ := x.ex
  refine ⟨x, ⟨_, e⟩, fun h1 h2 hb hk => ?_⟩
  obtain ⟨i, g, s, n, t1, t2, t3, t4, z, e, q⟩ := hb.ex
  exact ⟨⟨i, g, s, n, t1, t2, t3, t4, z, hk _ e, q⟩⟩
/-- what such a list holds -/
def bagV (c : Addr) (i g s n : Int) : List V := [.ref c, .int i, .int g, .int s, .int n]
theorem bag_vals {i g s n : Int} {t1 t2 t3 t4 : Tok} : Vals (bagV c i g s n) [.ref c, .int i t1, .int g t2, .int s t3, .int n t4] := .cons rfl (.cons ⟨_, rfl⟩ (.cons ⟨_, rfl⟩ (.cons ⟨_, rfl⟩ (.cons ⟨_, rfl⟩ .nil))))
/-- another thing known of the object at b, neither an instance's dict nor a tuple -/
theorem hok_swap {o : HO} (hok : HOk P w H h) (hb : ObjOk P w (upd H b o) h b o) (n1 : ∀ x, H b ≠ some (.own x)) (n2 : ∀ xs, H b ≠ some (.tup xs)) : HOk P w (upd H b o) h := fun a u e => by
  by_cases ha : a = b
  · subst ha
    rw [upd_same] at e
    cases e
    exact hb
  · rw [upd_ne ha] at e
    refine (hok a u e).stay (fun _ _ _ q => q) (fun p q => ?_) fun p xs q => ?_
    · rw [upd_ne (fun z => n1 a (by rw [← z]; exact q))]
      exact q
    · rw [upd_ne (fun z => n2 xs (by rw [← z]; exact q))]
      exact q
theorem un_swap {fs : List Addr} {H1' : Hp} {h' : Heap} {o o1 o2 : HO} (hH : H b = some o) (u : Un fs [] (upd H b o1) H1' h h') (hn : ∀ z, H b ≠ some (.tup z)) (hf : ∀ z y, H b ≠ some (.frz z y)) (ht : ∀ z, H b ≠ some (.tbl z)) : Un fs [] H (upd H1' b o2) h h' := by
  have ne : ∀ a, H a = none → a ≠ b := fun a n e => by rw [e, hH] at n; cases n
  refine ⟨fun a o' q n hb hx => u.keep a o' q (by rw [upd_ne (ne a n)]; exact n) hb hx, fun a o' q n hb hx => u.slot a o' q (by rw [upd_ne (ne a n)]; exact n) hb hx, fun a o' q n hx => ?_, u.there, fun a xs q => ?_, fun a o' y q => ?_, fun a ps q => ?_⟩
  · rw [upd_ne (ne a n)]
    exact u.free a o' q (by rw [upd_ne (ne a n)]; exact n) hx
  · have ab : a ≠ b := fun e => hn xs (by rw [← e]; exact q)
    rw [upd_ne ab]
    exact u.tups a xs (by rw [upd_ne ab]; exact q)
  · have ab : a ≠ b := fun e => hf o' y (by rw [← e]; exact q)
    rw [upd_ne ab]
    exact u.frzs a o' y (by rw [upd_ne ab]; exact q)
  · have ab : a ≠ b := fun e => ht ps (by rw [← e]; exact q)
    rw [upd_ne ab]
    exact u.tbls a ps (by rw [upd_ne ab]; exact q)
/-- the drawn number: below m, at least 0 -/
def bagD (c : Addr) (ns : List Int) (i g s n : Int) : List D := [.lat c (ns.map D.int), .int i, .int g, .int s, .int n]
def wpPullO : WpO := fun xs ds Q _ => ∃ (c : Addr) (ns : List Int) (i g s n m : Int), xs = bagD c ns i g s n ∧ ds = [.int m] ∧ ns.length ≤ 63 ∧ 0 ≤ i ∧ i ≤ (ns.length : Int) ∧ 0 ≤ g ∧ 0 ≤ s ∧ s < 2147483587 ∧ 0 < m ∧ m < 2 ^ 64 ∧
  ∀ i' g' s' n' d, 0 ≤ i' → i' ≤ (ns.length : Int) → 0 ≤ g' → 0 ≤ s' → s' < 2147483587 → 0 ≤ d → d < m → Q (bagD c ns i' g' s' n') (.int d)
def wpPull : Wp := fun ds Q _ => match ds with
  | [.bag, .int m] => (0 < m ∧ m < 2 ^ 64) ∧ ∀ d, 0 ≤ d → d < m → Q (.int d)
  | _ => False
theorem ints_rep : ∀ {ns : List Int}, Reps K H (ns.map D.int) (ns.map V.int)
  | [] => rfl
  | n :: r => ⟨.int n, _, rfl, rfl, ints_rep⟩
theorem ints_vals {H : Hp} : ∀ {ns : List Int} {vs : List V}, Reps K H (ns.map D.int) vs → vs = ns.map V.int
  | [], vs, h => h
  | n :: r, vs, ⟨v, vr, e, h1, h2⟩ => by
    subst e
    cases (show v = _ from h1)
    rw [ints_vals h2]
    rfl
theorem bag_fn {k : Nat} {f : Addr} {fd : FuncData} {ps : List Str} (F : FnOk P w K mg base (L2.CX P w) k f fd ps (SpO K wpPullO)) (hl : ps.length = 2) : FnOk P w K mg base (L2.CX P w) k f fd ps (SpW K wpPull) := by
  refine ⟨fun vs H Q E hs => ?_, fun A outer s H args us vs Q E hr he hb hv hs => ?_⟩
  · obtain ⟨H0, ds, Qd, Ed, sm, r, hw, _⟩ := hs
    rw [r.length, hl]
    unfold wpPull at hw
    split at hw
    · rfl
    · exact hw.elim
  · obtain ⟨H0, ds, Qd, Ed, sm, r, hw, q, _⟩ := hs
    unfold wpPull at hw
    split at hw
    · rename_i m
      obtain ⟨⟨m0, m1⟩, hw⟩ := hw
      obtain ⟨v, u, rfl, ⟨b, rfl, c, ns, hb0, hc0, hn⟩, hu⟩ := two_of r
      cases (show u = _ from hu)
      have hbH := sm _ _ hb0
      have hcH := sm _ _ hc0
      have hbag : BagIn s.heap b c ns.length := (show ObjOk P w H s.heap b (bagO b c ns.length) from he.hok b _ hbH).1
      obtain ⟨i, g, sd, n, t1, t2, t3, t4, z, eb, i0, i1, g0, s0, s1⟩ := hbag.ex
      have hcb : c ≠ b := fun e => by
        rw [e, hbH] at hcH
        cases hcH
      have no1 : ∀ x, H b ≠ some (.own x) := fun x e => by rw [hbH] at e; exact bagO_ne_own (Option.some.inj e)
      have no2 : ∀ xs, H b ≠ some (.tup xs) := fun x e => by rw [hbH] at e; exact bagO_ne_tup (Option.some.inj e)
      have nb : base.get? b = none := by
        cases e : base.get? b with
        | none => rfl
        | some o =>
          rw [(he.bs b o e).2] at hbH
          cases hbH
      have he1 : Env0 P w K mg base A outer s (upd H b (.lst (bagV c i g sd n))) := by
        refine ⟨he.frames, he.mod, fun a o e => ⟨(he.bs a o e).1, ?_⟩, he.bsz, he.funs, fun a ha => ?_, hok_swap he.hok ⟨by show 5 ≤ sizeLine; decide, _, z, bag_vals, eb⟩ no1 no2, he.bare⟩
        · rw [upd_ne (fun z => by rw [z, nb] at e; cases e)]
          exact (he.bs a o e).2
        · have := he.frf a ha
          rw [upd_ne (fun z => by rw [z, hbH] at this; cases this)]
          exact this
      have sm1 : Same (wo H0 b) (upd H b (.lst (bagV c i g sd n))) := fun a o e => by
        have ab : a ≠ b := fun z => by rw [z, wo_same] at e; cases e
        rw [upd_ne ab]
        rw [wo_ne ab] at e
        exact sm a o e
      refine codeAny_mono (F.run A outer s _ args us _ (fun v H1' => ∃ d i' g' s' n', v = .int d ∧ 0 ≤ d ∧ d < m ∧ H1' b = some (.lst (bagV c i' g' s' n')) ∧ 0 ≤ i' ∧ i' ≤ (ns.length : Int) ∧ 0 ≤ g' ∧ 0 ≤ s' ∧ s' < 2147483587 ∧ ∃ H0', Grow (wo H0 b) (wo (upd H b (.lst (bagV c i g sd n))) b) H0' H1' ∧ H0' b = none) (fun _ _ _ => False) hr he1 hb hv
        ⟨b, [.int m], bagV c i g sd n, wo H0 b, bagD c ns i g sd n, [.int m], fun xs' d' => ∃ d i' g' s' n', xs' = bagD c ns i' g' s' n' ∧ d' = .int d ∧ 0 ≤ d ∧ d < m ∧ 0 ≤ i' ∧ i' ≤ (ns.length : Int) ∧ 0 ≤ g' ∧ 0 ≤ s' ∧ s' < 2147483587, fun _ => False, rfl, upd_same, wo_same, sm1,
          ⟨.ref c, _, rfl, ⟨rfl, _, .inl (.inl (by rw [wo_ne hcb]; exact hc0)), ints_rep⟩, .int i, _, rfl, rfl, .int g, _, rfl, rfl, .int sd, _, rfl, rfl, .int n, _, rfl, rfl, rfl⟩,
          ⟨.int m, [], rfl, rfl, rfl⟩, ⟨c, ns, i, g, sd, n, m, rfl, rfl, hn, i0, i1, g0, s0, s1, m0, m1, fun i' g' s' n' d a1 a2 a3 a4 a5 a6 a7 => ⟨d, i', g', s', n', rfl, rfl, a6, a7, a1, a2, a3, a4, a5⟩⟩, fun xs' us' d v H0' H' gr n' hq rx rv hQ => ?_, ExRel.none⟩) fun r s' hq => ?_
      · obtain ⟨d, i', g', s', n', rfl, rfl, a6, a7, a1, a2, a3, a4, a5⟩ := hQ
        obtain ⟨v1, r1, rfl, ⟨rfl, _⟩, v2, r2, rfl, e2, v3, r3, rfl, e3, v4, r4, rfl, e4, v5, r5, rfl, e5, e6⟩ := rx
        cases (show v2 = _ from e2)
        cases (show v3 = _ from e3)
        cases (show v4 = _ from e4)
        cases (show v5 = _ from e5)
        cases (show r5 = _ from e6)
        cases (show v = _ from rv)
        exact ⟨d, i', g', s', n', rfl, a6, a7, hq, a1, a2, a3, a4, a5, H0', gr, by assumption⟩
      · cases r with
        | error e =>
          obtain ⟨_, _, _, _, _, _, _, _, _, _, _, _, z⟩ := hq
          exact z.elim
        | ok fl =>
          cases fl with
          | ret u =>
            obtain ⟨v, H1', os, bare, un, hok, rv, d, i', g', s2, n', rfl, d0, d1, hb1, a1, a2, a3, a4, a5, H0', gr, n0'⟩ := hq
            obtain ⟨_, its, zn, vals, eits⟩ := (show ObjOk P w H1' s'.heap b (.lst (bagV c i' g' s2 n')) from hok b _ hb1)
            have hbag' : BagIn s'.heap b c ns.length := by
              cases vals with
              | cons q1 p1 => cases p1 with
                | cons q2 p2 => cases p2 with
                  | cons q3 p3 => cases p3 with
                    | cons q4 p4 => cases p4 with
                      | cons q5 p5 =>
                        cases p5
                        obtain ⟨u2, rfl⟩ := q2
                        obtain ⟨u3, rfl⟩ := q3
                        obtain ⟨u4, rfl⟩ := q4
                        obtain ⟨u5, rfl⟩ := q5
                        cases (show _ = Value.ref c from q1)
                        exact ⟨⟨i', g', s2, n', u2, u3, u4, u5, zn, eits, a1, a2, a3, a4, a5⟩⟩
            have hok' : HOk P w (upd H1' b (bagO b c ns.length)) s'.heap := hok_swap hok (bag_ok hbag') (fun x e => by rw [hb1] at e; cases e) (fun x e => by rw [hb1] at e; cases e)
            have un' : Un (frs outer) [] H (upd H1' b (bagO b c ns.length)) s.heap s'.heap := un_swap hbH un no2 (fun z y e => by rw [hbH] at e; unfold bagO at e; cases e) (fun z e => by rw [hbH] at e; unfold bagO at e; cases e)
            have g2 : Grow H0 H (upd H0' b (bagO b c ns.length)) (upd H1' b (bagO b c ns.length)) := by
              refine ⟨fun a o e => ?_, fun a o e => ?_, same_upd2 gr.g2, fun a ha => ?_⟩
              · by_cases hab : a = b
                · subst hab
                  rw [hb0] at e
                  rw [upd_same]
                  exact e
                · rw [upd_ne hab]
                  exact gr.g0 a o (by rw [wo_ne hab]; exact e)
              · by_cases hab : a = b
                · subst hab
                  rw [hbH] at e
                  rw [upd_same]
                  exact e
                · rw [upd_ne hab]
                  exact gr.g1 a o (by rw [wo_ne hab, upd_ne hab]; exact e)
              · by_cases hab : a = b
                · subst hab
                  rw [upd_same, hb0]
                · rw [upd_ne hab, gr.nw a (by rw [wo_ne hab, upd_ne hab]; exact ha), wo_ne hab]
            exact ⟨.int d, _, os, bare, un', hok', rv, q (.int d) (.int d) _ _ g2 rfl (hw d d0 d1)⟩
          | next => exact False.elim hq
          | brk => exact False.elim hq
          | cont => exact False.elim hq
    · exact hw.elim
/-- what the bag's making leaves -/
def spBagL (K : PySem.W.Frag) : Sp := fun vs H Q _ => ∃ (a : Addr) (ns : List Int), vs = [.ref a] ∧ SqL K H a (ns.map V.int) ∧ ∀ (p c : Addr) (H' : Hp), Same H H' → H p = none → H c = none → H' c = some (.lst ((ns.take 63).map V.int)) → H' p = some (.lst (bagV c 0 0 10032 0)) → Q (.ref p) H'
def wpBag : Wp := fun ds Q _ => ∃ ns : List Int, ds = [.lst (ns.map D.int)] ∧ Q .bag
theorem un_more {fs : List Addr} {H1' : Hp} {h' : Heap} {o2 : HO} (u : Un fs [] H H1' h h') (hb : H b = none) (hn : ∀ ob, h.get? b ≠ some ob) : Un fs [] H (upd H1' b o2) h h' := by
  refine ⟨u.keep, u.slot, fun a o' q n hx => ?_, u.there, fun a xs q => ?_, fun a o' y q => ?_, fun a ps q => ?_⟩
  · rw [upd_ne (fun e => hn o' (by rw [← e]; exact q))]
    exact u.free a o' q n hx
  · rw [upd_ne (fun e => by rw [e, hb] at q; cases q)]
    exact u.tups a xs q
  · rw [upd_ne (fun e => by rw [e, hb] at q; cases q)]
    exact u.frzs a o' y q
  · rw [upd_ne (fun e => by rw [e, hb] at q; cases q)]
    exact u.tbls a ps q
theorem bag_new {k : Nat} {f : Addr} {fd : FuncData} {ps : List Str} (F : FnOk P w K mg base (L2.CX P w) k f fd ps (spBagL K)) (hl : ps.length = 1) : FnOk P w K mg base (L2.CX P w) k f fd ps (SpW K wpBag) := by
  refine ⟨fun vs H Q E hs => ?_, fun A outer s H args us vs Q E hr he hb hv hs => ?_⟩
  · obtain ⟨H0, ds, Qd, Ed, sm, r, ⟨ns, rfl, _⟩, _⟩ := hs
    rw [r.length, hl]
    rfl
  · obtain ⟨H0, ds, Qd, Ed, sm, r, ⟨ns, rfl, hw⟩, q, _⟩ := hs
    obtain ⟨v, rfl, a, ws, rfl, ha, ra⟩ := one_of r
    cases ints_vals ra
    refine codeAny_mono (F.run A outer s H args us _ (fun v H' => ∃ p c, v = .ref p ∧ Same H H' ∧ H p = none ∧ H c = none ∧ H' c = some (.lst ((ns.take 63).map V.int)) ∧ H' p = some (.lst (bagV c 0 0 10032 0))) (fun _ _ _ => False) hr he hb hv ⟨a, ns, rfl, sm.seq ha, fun p c H' s1 n1 n2 h1 h2 => ⟨p, c, rfl, s1, n1, n2, h1, h2⟩⟩) fun r s' hq => ?_
    cases r with
    | error e =>
      obtain ⟨_, _, _, _, _, _, _, _, _, _, _, _, z⟩ := hq
      exact z.elim
    | ok fl =>
      cases fl with
      | ret u =>
        obtain ⟨v, H1', os, bare, un, hok, rv, p, c, rfl, s1, np, hcH, hc, hp⟩ := hq
        obtain ⟨_, its, zn, vals, eits⟩ := (show ObjOk P w H1' s'.heap p (.lst (bagV c 0 0 10032 0)) from hok p _ hp)
        have hlen : ((ns.take 63).length : Nat) ≤ 63 := by rw [List.length_take]; omega
        have hcp : c ≠ p := fun e => by
          rw [e, hp] at hc
          have := Option.some.inj hc
          injection this with this
          have := congrArg List.head? this
          cases hq : (ns.take 63) with
          | nil => rw [hq] at this; cases this
          | cons x r => rw [hq] at this; cases this
        have hbag' : BagIn s'.heap p c (ns.take 63).length := by
          cases vals with
          | cons q1 p1 => cases p1 with
            | cons q2 p2 => cases p2 with
              | cons q3 p3 => cases p3 with
                | cons q4 p4 => cases p4 with
                  | cons q5 p5 =>
                    cases p5
                    obtain ⟨u2, rfl⟩ := q2
                    obtain ⟨u3, rfl⟩ := q3
                    obtain ⟨u4, rfl⟩ := q4
                    obtain ⟨u5, rfl⟩ := q5
                    cases (show _ = Value.ref c from q1)
                    exact ⟨⟨0, 0, 10032, 0, u2, u3, u4, u5, zn, eits, by omega, by omega, by omega, by omega, by omega⟩⟩
        have hok' : HOk P w (upd H1' p (bagO p c (ns.take 63).length)) s'.heap := hok_swap hok (bag_ok hbag') (fun x e => by rw [hp] at e; cases e) (fun x e => by rw [hp] at e; cases e)
        -- the new place is not of the old heap, or is not tracked there
        have hH : ∀ o, s.heap.get? p = some o → H1' p = none := fun o e => un.free p o e np (by simp)
        have hnp : ∀ o, s.heap.get? p ≠ some o := fun o e => by
          have := hH o e
          rw [hp] at this
          cases this
        have n0 : H0 p = none := sm.free np
        have g2 : Grow H0 H (upd (fun a => if H a = none then H1' a else H0 a) p (bagO p c (ns.take 63).length)) (upd H1' p (bagO p c (ns.take 63).length)) := by
          refine ⟨fun x o e => ?_, fun x o e => ?_, same_upd2 fun x o e => ?_, fun x hx => ?_⟩
          · have xp : x ≠ p := ne_of_none e n0
            have hx := sm x o e
            rw [upd_ne xp, if_neg (by rw [hx]; exact fun z => nomatch z)]
            exact e
          · rw [upd_ne (ne_of_none e np)]
            exact s1 x o e
          · by_cases hx : H x = none
            · rw [if_pos hx] at e
              exact e
            · rw [if_neg hx] at e
              exact s1 x o (sm x o e)
          · have xp : x ≠ p := fun z => hx (by rw [z]; exact np)
            rw [upd_ne xp, if_neg hx]
        refine ⟨.ref p, _, os, bare, un_more un np hnp, hok', rv, ?_⟩
        · exact q .bag (.ref p) _ _ g2 ⟨p, rfl, c, ns.take 63, upd_same, by rw [upd_ne hcp, if_pos hcH]; exact hc, hlen⟩ hw
      | next => exact False.elim hq
      | brk => exact False.elim hq
      | cont => exact False.elim hq
end
end DL

namespace DL
open PySem PySem.Spec PyProof.Rows L2
section
variable {X : Cx} {Ed : DX → Prop} {E : XK} {K : PySem.W.Frag} {pos p : Pos} {e a b c o e2 tg iter elt : Expr} {te ta tb tc : TE} {de da db dc : DE} {tal : TA} {dal : DA} {es ifs : List Expr} {k : Nat} {x : Str} {tt : TT} {dt : DT} {st : Stmt} {sts : List Stmt} {ts us : TS} {ds dus : DS}
/-! ### comparisons as tests -/
theorem t_eq (hr : Room k X.A) (ha : JE X Ed E a ta da) (hb : JE X Ed E b tb db) : JT X Ed E (.Compare a [.Eq] [b] pos) (tB (tOp (rEqN X.K 150) ta tb)) (dB (dOp dEq da db)) := t_cmp (op_eqN (room150 hr)) s_eqN ha hb (nomark _)
theorem t_ne (hr : Room k X.A) (ha : JE X Ed E a ta da) (hb : JE X Ed E b tb db) : JT X Ed E (.Compare a [.NotEq] [b] pos) (tB (tOp (rNeN X.K 150) ta tb)) (dB (dOp dNe da db)) := t_cmp (op_neN (room150 hr)) s_neN ha hb (nomark _)
theorem t_lt (ha : JE X Ed E a ta da) (hb : JE X Ed E b tb db) : JT X Ed E (.Compare a [.Lt] [b] pos) (tB (tOp (rI0 fun i j => .bl (decide (i < j))) ta tb)) (dB (dOp dLt da db)) := t_cmp op_lt (s_I0 fun _ _ _ => rfl) ha hb (nomark _)
theorem t_le (ha : JE X Ed E a ta da) (hb : JE X Ed E b tb db) : JT X Ed E (.Compare a [.LtE] [b] pos) (tB (tOp (rI0 fun i j => .bl (decide (i ≤ j))) ta tb)) (dB (dOp dLe da db)) := t_cmp op_le (s_I0 fun _ _ _ => rfl) ha hb (nomark _)
theorem t_gt (ha : JE X Ed E a ta da) (hb : JE X Ed E b tb db) : JT X Ed E (.Compare a [.Gt] [b] pos) (tB (tOp (rI0 fun i j => .bl (decide (j < i))) ta tb)) (dB (dOp dGt da db)) := t_cmp op_gt (s_I0 fun _ _ _ => rfl) ha hb (nomark _)
theorem t_ge (ha : JE X Ed E a ta da) (hb : JE X Ed E b tb db) : JT X Ed E (.Compare a [.GtE] [b] pos) (tB (tOp (rI0 fun i j => .bl (decide (j ≤ i))) ta tb)) (dB (dOp dGe da db)) := t_cmp op_ge (s_I0 fun _ _ _ => rfl) ha hb (nomark _)
/-! ### is None -/
def isNonD : D → Bool
  | .non => true
  | _ => false
def dIsN (da : DE) (ρ : Rho) (Q : D → Prop) : Prop := da ρ fun x => Q (.bl (isNonD x))
def dNotN (da : DE) (ρ : Rho) (Q : D → Prop) : Prop := da ρ fun x => Q (.bl (!isNonD x))
theorem isN_rep {H : Hp} {d : D} {v : V} (r : Rep K H d v) : decide (v = .non) = isNonD d := by
  cases d with
  | non => cases (show v = _ from r); rfl
  | bl b => cases (show v = _ from r); rfl
  | int b => cases (show v = _ from r); rfl
  | str b => cases (show v = _ from r); rfl
  | ty b => cases (show v = _ from r); rfl
  | cls b => cases (show v = _ from r); rfl
  | tup xs => obtain ⟨l, vs, rfl, _⟩ := r; rfl
  | lst xs => obtain ⟨l, vs, rfl, _⟩ := r; rfl
  | ins C fs => obtain ⟨l, dx, vs, rfl, _⟩ := r; rfl
  | bag => obtain ⟨l, rfl, _⟩ := r; rfl
  | lat c xs => obtain ⟨rfl, _⟩ := r; rfl
theorem sim_isN (h : SimE K Ed E ta da) : SimE K Ed E (tIsN ta) (dIsN da) := fun B0 B1 A H0 H σ ρ R X Qd hd Q q => h B0 B1 A H0 H σ ρ R X _ hd _ fun x v H1 H2 R1 g1 r1 k => by
  rw [isN_rep r1]
  exact q (.bl _) _ H1 H2 R1 g1 rfl k
theorem sim_notN (h : SimE K Ed E ta da) : SimE K Ed E (tNotN ta) (dNotN da) := fun B0 B1 A H0 H σ ρ R X Qd hd Q q => h B0 B1 A H0 H σ ρ R X _ hd _ fun x v H1 H2 R1 g1 r1 k => by
  rw [isN_rep r1]
  exact q (.bl _) _ H1 H2 R1 g1 rfl k
theorem e_isN {j : Nat} {p2 : Pos} (ha : JE X Ed E a ta da) : JE X Ed E (.Compare a [.Is] [.Constant .none j p2] pos) (tIsN ta) (dIsN da) := ⟨pe_cmp (pc_isN ha.pe) rfl, sim_isN ha.sim⟩
theorem e_notN {j : Nat} {p2 : Pos} (ha : JE X Ed E a ta da) : JE X Ed E (.Compare a [.IsNot] [.Constant .none j p2] pos) (tNotN ta) (dNotN da) := ⟨pe_cmp (pc_notN ha.pe) rfl, sim_notN ha.sim⟩
theorem t_isN {j : Nat} {p2 : Pos} (ha : JE X Ed E a ta da) : JT X Ed E (.Compare a [.Is] [.Constant .none j p2] pos) (tB (tIsN ta)) (dB (dIsN da)) := ⟨pt_cmp (pc_isN ha.pe) rfl, sim_B (sim_isN ha.sim)⟩
theorem t_notN {j : Nat} {p2 : Pos} (ha : JE X Ed E a ta da) : JT X Ed E (.Compare a [.IsNot] [.Constant .none j p2] pos) (tB (tNotN ta)) (dB (dNotN da)) := ⟨pt_cmp (pc_notN ha.pe) rfl, sim_B (sim_notN ha.sim)⟩
/-! ### chains of two -/
theorem sim_chain {r r' : R2} {rd rd' : D → D → (D → Prop) → Prop} (s1 : SimR2 K r rd) (s2 : SimR2 K r' rd') (ha : SimE K Ed E ta da) (hb : SimE K Ed E tb db) (hc : SimE K Ed E tc dc) (hbl : ∀ x y Q, rd x y Q → rd x y fun z => Q z ∧ ∃ k, z = .bl k) : SimE K Ed E (tChain r r' ta tb tc) (dChain rd rd' da db dc) := fun B0 B1 A H0 H σ ρ R X Qd h Q q =>
  ha B0 B1 A H0 H σ ρ R X _ h _ fun x v H1 H2 R1 g1 r1 h1 => hb B0 B1 A H1 H2 σ ρ R1 X _ h1 _ fun y u H3 H4 R2 g2 r2 h2 => s1 H3 H4 v u x y R2.ex (Rep.mono g2.g0 _ _ r1) r2 _ h2 _ fun z w H5 H6 g3 r3 h3 => by
    have R3 := R2.grow g3
    split at h3
    · cases (show w = _ from r3)
      exact ⟨true, rfl, hc B0 B1 A H5 H6 σ ρ R3 X _ h3 _ fun t m H7 H8 R4 g4 r4 h4 => s2 H7 H8 u m y t R4.ex (Rep.mono g4.g0 _ _ (Rep.mono g3.g0 _ _ r2)) r4 _ h4 _ fun z2 w2 H9 H10 g5 r5 h5 => q z2 w2 H9 H10 (R4.grow g5) ((((g1.trans g2).trans g3).trans g4).trans g5) r5 h5⟩
    · cases (show w = _ from r3)
      exact ⟨false, rfl, q (.bl false) _ H5 H6 R3 ((g1.trans g2).trans g3) rfl h3⟩
    · exact h3.elim
theorem i0_bl {g : Int → Int → Bool} : ∀ x y Q, dI0 (fun i j => .bl (g i j)) x y Q → dI0 (fun i j => .bl (g i j)) x y fun z => Q z ∧ ∃ k, z = .bl k := fun x y Q h => by
  unfold dI0 at h ⊢
  split at h
  · exact ⟨h, _, rfl⟩
  · exact h.elim
theorem e_chain_lt_lt (ha : JE X Ed E a ta da) (hb : JE X Ed E b tb db) (hc : JE X Ed E c tc dc) (hm : lastMarks [.Lt, .Lt] [b, c] = false := by with_unfolding_all rfl) : JE X Ed E (.Compare a [.Lt, .Lt] [b, c] pos) (tChain (rI0 fun i j => .bl (decide (i < j))) (rI0 fun i j => .bl (decide (i < j))) ta tb tc) (dChain (dI0 fun i j => .bl (decide (i < j))) (dI0 fun i j => .bl (decide (i < j))) da db dc) :=
  ⟨pe_chain op_lt op_lt ha.pe hb.pe hc.pe hm, sim_chain (s_I0 fun _ _ _ => rfl) (s_I0 fun _ _ _ => rfl) ha.sim hb.sim hc.sim i0_bl⟩
theorem t_chain_lt_lt (ha : JE X Ed E a ta da) (hb : JE X Ed E b tb db) (hc : JE X Ed E c tc dc) (hp : PT X (.Compare a [.Lt, .Lt] [b, c] pos) (tB (tChain (rI0 fun i j => .bl (decide (i < j))) (rI0 fun i j => .bl (decide (i < j))) ta tb tc))) : JT X Ed E (.Compare a [.Lt, .Lt] [b, c] pos) (tB (tChain (rI0 fun i j => .bl (decide (i < j))) (rI0 fun i j => .bl (decide (i < j))) ta tb tc)) (dB (dChain (dI0 fun i j => .bl (decide (i < j))) (dI0 fun i j => .bl (decide (i < j))) da db dc)) :=
  ⟨hp, sim_B (sim_chain (s_I0 fun _ _ _ => rfl) (s_I0 fun _ _ _ => rfl) ha.sim hb.sim hc.sim i0_bl)⟩
theorem e_chain_lt_le (ha : JE X Ed E a ta da) (hb : JE X Ed E b tb db) (hc : JE X Ed E c tc dc) (hm : lastMarks [.Lt, .LtE] [b, c] = false := by with_unfolding_all rfl) : JE X Ed E (.Compare a [.Lt, .LtE] [b, c] pos) (tChain (rI0 fun i j => .bl (decide (i < j))) (rI0 fun i j => .bl (decide (i ≤ j))) ta tb tc) (dChain (dI0 fun i j => .bl (decide (i < j))) (dI0 fun i j => .bl (decide (i ≤ j))) da db dc) :=
  ⟨pe_chain op_lt op_le ha.pe hb.pe hc.pe hm, sim_chain (s_I0 fun _ _ _ => rfl) (s_I0 fun _ _ _ => rfl) ha.sim hb.sim hc.sim i0_bl⟩
theorem t_chain_lt_le (ha : JE X Ed E a ta da) (hb : JE X Ed E b tb db) (hc : JE X Ed E c tc dc) (hp : PT X (.Compare a [.Lt, .LtE] [b, c] pos) (tB (tChain (rI0 fun i j => .bl (decide (i < j))) (rI0 fun i j => .bl (decide (i ≤ j))) ta tb tc))) : JT X Ed E (.Compare a [.Lt, .LtE] [b, c] pos) (tB (tChain (rI0 fun i j => .bl (decide (i < j))) (rI0 fun i j => .bl (decide (i ≤ j))) ta tb tc)) (dB (dChain (dI0 fun i j => .bl (decide (i < j))) (dI0 fun i j => .bl (decide (i ≤ j))) da db dc)) :=
  ⟨hp, sim_B (sim_chain (s_I0 fun _ _ _ => rfl) (s_I0 fun _ _ _ => rfl) ha.sim hb.sim hc.sim i0_bl)⟩
theorem e_chain_le_lt (ha : JE X Ed E a ta da) (hb : JE X Ed E b tb db) (hc : JE X Ed E c tc dc) (hm : lastMarks [.LtE, .Lt] [b, c] = false := by with_unfolding_all rfl) : JE X Ed E (.Compare a [.LtE, .Lt] [b, c] pos) (tChain (rI0 fun i j => .bl (decide (i ≤ j))) (rI0 fun i j => .bl (decide (i < j))) ta tb tc) (dChain (dI0 fun i j => .bl (decide (i ≤ j))) (dI0 fun i j => .bl (decide (i < j))) da db dc) :=
  ⟨pe_chain op_le op_lt ha.pe hb.pe hc.pe hm, sim_chain (s_I0 fun _ _ _ => rfl) (s_I0 fun _ _ _ => rfl) ha.sim hb.sim hc.sim i0_bl⟩
theorem t_chain_le_lt (ha : JE X Ed E a ta da) (hb : JE X Ed E b tb db) (hc : JE X Ed E c tc dc) (hp : PT X (.Compare a [.LtE, .Lt] [b, c] pos) (tB (tChain (rI0 fun i j => .bl (decide (i ≤ j))) (rI0 fun i j => .bl (decide (i < j))) ta tb tc))) : JT X Ed E (.Compare a [.LtE, .Lt] [b, c] pos) (tB (tChain (rI0 fun i j => .bl (decide (i ≤ j))) (rI0 fun i j => .bl (decide (i < j))) ta tb tc)) (dB (dChain (dI0 fun i j => .bl (decide (i ≤ j))) (dI0 fun i j => .bl (decide (i < j))) da db dc)) :=
  ⟨hp, sim_B (sim_chain (s_I0 fun _ _ _ => rfl) (s_I0 fun _ _ _ => rfl) ha.sim hb.sim hc.sim i0_bl)⟩
theorem e_chain_le_le (ha : JE X Ed E a ta da) (hb : JE X Ed E b tb db) (hc : JE X Ed E c tc dc) (hm : lastMarks [.LtE, .LtE] [b, c] = false := by with_unfolding_all rfl) : JE X Ed E (.Compare a [.LtE, .LtE] [b, c] pos) (tChain (rI0 fun i j => .bl (decide (i ≤ j))) (rI0 fun i j => .bl (decide (i ≤ j))) ta tb tc) (dChain (dI0 fun i j => .bl (decide (i ≤ j))) (dI0 fun i j => .bl (decide (i ≤ j))) da db dc) :=
  ⟨pe_chain op_le op_le ha.pe hb.pe hc.pe hm, sim_chain (s_I0 fun _ _ _ => rfl) (s_I0 fun _ _ _ => rfl) ha.sim hb.sim hc.sim i0_bl⟩
theorem t_chain_le_le (ha : JE X Ed E a ta da) (hb : JE X Ed E b tb db) (hc : JE X Ed E c tc dc) (hp : PT X (.Compare a [.LtE, .LtE] [b, c] pos) (tB (tChain (rI0 fun i j => .bl (decide (i ≤ j))) (rI0 fun i j => .bl (decide (i ≤ j))) ta tb tc))) : JT X Ed E (.Compare a [.LtE, .LtE] [b, c] pos) (tB (tChain (rI0 fun i j => .bl (decide (i ≤ j))) (rI0 fun i j => .bl (decide (i ≤ j))) ta tb tc)) (dB (dChain (dI0 fun i j => .bl (decide (i ≤ j))) (dI0 fun i j => .bl (decide (i ≤ j))) da db dc)) :=
  ⟨hp, sim_B (sim_chain (s_I0 fun _ _ _ => rfl) (s_I0 fun _ _ _ => rfl) ha.sim hb.sim hc.sim i0_bl)⟩
/-! ### x.append(e) -/
theorem st_appL {y : Str} {p2 p3 p4 : Pos} (i : Nat) (he : JE X Ed E e te de) (hN : X.N[i]? = some y := by rfl) (hv : Vis X.env.scope y := by first | exact Or.inl rfl | exact Or.inr (Or.inl rfl) | exact Or.inr (Or.inr rfl)) (hd : (y == ("__debug__" : Str)) = false := by decide)
    (hcd : (y == ("__classdict__" : Str)) = false := by decide) (hba : attributeBase (.Name y p2) "append" X.env (eval (.Name y p2) X.env) = eval (.Name y p2) X.env := by rfl)
    (hfew : ((backTo p4 (starEach (e :: []) X.env)).all (fun x => !x.1) && (backToKw p4 (keywordEach [] X.env)).all (fun x => x.1.isSome) && decide ((e :: ([] : List Expr)).length + ([] : List Keyword).length + (if ([] : List Keyword).isEmpty then 0 else 1) < 30)) = true := by rfl)
    (hline : (p3.endLine == p4.line) = true := by rfl) (hst : starEach [e] X.env = (false, eval e X.env) :: starEach [] X.env := by rfl) (hpl : (backTo p4 (starEach [] X.env)).any (·.1) = false := by rfl)
    (hs : swapsWith (.Call (.Attribute (.Name y p2) "append" p3) [e] [] p4) none pos.line X.env = pure false := by rfl) :
    JS X Ed E (.Expr (.Call (.Attribute (.Name y p2) "append" p3) [e] [] p4) pos) (tDrop (tBM X.K "list" rAppend (tVar i) (tCons te tNil))) (dApp i de) :=
  st_app i he (pe_bm PySem.F.plainAttrs_list PySem.F.slot_list_append PySem.F.type_list_append mt_append (pe_var hN hv hd hcd) (pa_cons he.pe pa_nil hst) hba hfew hline hst hpl) hs
end
/-- a built-in class by its name, as a value -/
theorem b_ty {X : Cx} {Ed : DX → Prop} {E : XK} {pos : Pos} (n : String) {x : Str} (hm : X.mg x = none) (hv : bootBuiltins x = some (.type n) := by decide +kernel) (hg : Gl X x := by rfl) (hn : x ≠ "__name__" := by decide) (hd : (x == ("__debug__" : Str)) = false := by decide) : JE X Ed E (.Name x pos) (tC (.ty n)) (dC (.ty n)) := e_bltn hg hm hv rfl (fun _ => rfl) hn hd
end DL

namespace DL
open PySem PySem.Spec PyProof.Rows L2
section
variable {X : Cx} {Ed : DX → Prop} {E : XK} {K : PySem.W.Frag} {pos : Pos} {x : Str}
/-- a module's constant: an int, a text -/
theorem e_cInt {i : Int} (h : ∃ t, X.mg x = some (.int i t)) (hg : Gl X x := by rfl) (hd : (x == ("__debug__" : Str)) = false := by decide) : JE X Ed E (.Name x pos) (tC (.int i)) (dC (.int i)) := by
  obtain ⟨t, h⟩ := h
  exact e_glob hg h ⟨t, rfl⟩ (fun _ => rfl) hd
theorem e_cStr {i : Str} (h : ∃ t, X.mg x = some (.str i t)) (hg : Gl X x := by rfl) (hd : (x == ("__debug__" : Str)) = false := by decide) : JE X Ed E (.Name x pos) (tC (.str i)) (dC (.str i)) := by
  obtain ⟨t, h⟩ := h
  exact e_glob hg h ⟨t, rfl⟩ (fun _ => rfl) hd
end
theorem intsD_succ {lo : Int} {n : Nat} : intsD lo (n + 1) = .int lo :: intsD (lo + 1) n := by
  unfold intsD
  rw [List.range_succ_eq_map, List.map_cons, List.map_map]
  congr 1
  · simp
  · apply List.map_congr_left
    intro a _
    simp
    omega
theorem intsD_zero {lo : Int} : intsD lo 0 = [] := rfl
section
variable {P : Program} {w : World} {K : PySem.W.Frag} {mg : Str → Option Value} {base : Heap}
/-- a def of the text, as its callers see it -/
theorem callee_mk {x qual : Str} {st : Stmt} {f : Addr} {fd : FuncData} {ps : List Str} {k : Nat} {wp : Wp} (F : FunX K x qual st f fd) (g : mg x = some (.ref f)) (O : FnOk P w K mg base (L2.CX P w) k f fd ps (SpW K wp)) (b : Binds K fd ps []) : Callee P w K mg base x k wp [] [] :=
  ⟨f, fd, ps, [], g, F.kp, O, b, .nil, fun _ => rfl⟩
theorem metd_mk {C f : Addr} {m qual : Str} {st : Stmt} {fd : FuncData} {ps : List Str} {k : Nat} {wp : Wp} (F : FunX K m qual st f fd) (c : Cls K C) (M : Meth K C m f) (O : FnOk P w K mg base (L2.CX P w) k f fd ps (SpW K wp)) (b : Binds K fd ps []) : Metd P w K mg base C m k wp [] [] :=
  ⟨c, f, fd, ps, [], M, O, b, .nil, fun _ => rfl⟩
theorem maker_mk {x : Str} {C f : Addr} {fd : FuncData} {ps : List Str} {k : Nat} {wp : WpI} (g : mg x = some (.ref C)) (M : Mk K C f) (O : FnOk P w K mg base (L2.CX P w) k f fd ps (SpI K C wp)) (b : Binds K fd ps []) : Maker P w K mg base x C k wp [] [] :=
  ⟨f, fd, ps, [], g, M, O, b, .nil, fun _ => rfl⟩
end
/-- the script's end -/
def wpLaw : Wp := fun ds Q _ => ∃ ns : List Int, ds = [.lst (ns.map D.int)] ∧ ns.length ≤ 63 ∧ Q (.bl true)
theorem law_sp {K : PySem.W.Frag} {H : Hp} {a : Addr} {ns : List Int} (hl : ns.length ≤ 63) (hS : SqL K H a (ns.map V.int)) : SpW K wpLaw [.ref a] H (fun v _ => v = .bl true) fun _ _ _ => False :=
  ⟨H, [.lst (ns.map D.int)], fun d => d = .bl true, fun _ => False, .refl _, ⟨.ref a, [], rfl, ⟨a, _, rfl, hS, ints_rep⟩, rfl⟩, ⟨ns, rfl, hl, rfl⟩, fun d v H0' H' g r h => by
    subst h
    exact r, ExRel.none⟩
theorem law_cx {P : Program} {w : World} (H : Hp) (s : Shared) (e : Value) (s' : Shared) (h : L2.CX P w [] H s (fun _ _ _ => False) e s') : False := by
  obtain ⟨_, _, _, _, _, _, _, _, _, _, _, _, z⟩ := h
  exact z
theorem kb_NoneType_int : kitB "NoneType" "int" = some false := by decide +kernel
theorem kb_NoneType_bool : kitB "NoneType" "bool" = some false := by decide +kernel
theorem kb_NoneType_str : kitB "NoneType" "str" = some false := by decide +kernel
theorem kb_NoneType_list : kitB "NoneType" "list" = some false := by decide +kernel
theorem kb_NoneType_tuple : kitB "NoneType" "tuple" = some false := by decide +kernel
theorem kb_bool_int : kitB "bool" "int" = some true := by decide +kernel
theorem kb_bool_bool : kitB "bool" "bool" = some true := by decide +kernel
theorem kb_bool_str : kitB "bool" "str" = some false := by decide +kernel
theorem kb_bool_list : kitB "bool" "list" = some false := by decide +kernel
theorem kb_bool_tuple : kitB "bool" "tuple" = some false := by decide +kernel
theorem kb_int_int : kitB "int" "int" = some true := by decide +kernel
theorem kb_int_bool : kitB "int" "bool" = some false := by decide +kernel
theorem kb_int_str : kitB "int" "str" = some false := by decide +kernel
theorem kb_int_list : kitB "int" "list" = some false := by decide +kernel
theorem kb_int_tuple : kitB "int" "tuple" = some false := by decide +kernel
theorem kb_str_int : kitB "str" "int" = some false := by decide +kernel
theorem kb_str_bool : kitB "str" "bool" = some false := by decide +kernel
theorem kb_str_str : kitB "str" "str" = some true := by decide +kernel
theorem kb_str_list : kitB "str" "list" = some false := by decide +kernel
theorem kb_str_tuple : kitB "str" "tuple" = some false := by decide +kernel
theorem kb_tuple_int : kitB "tuple" "int" = some false := by decide +kernel
theorem kb_tuple_bool : kitB "tuple" "bool" = some false := by decide +kernel
theorem kb_tuple_str : kitB "tuple" "str" = some false := by decide +kernel
theorem kb_tuple_list : kitB "tuple" "list" = some false := by decide +kernel
theorem kb_tuple_tuple : kitB "tuple" "tuple" = some true := by decide +kernel
theorem kb_list_int : kitB "list" "int" = some false := by decide +kernel
theorem kb_list_bool : kitB "list" "bool" = some false := by decide +kernel
theorem kb_list_str : kitB "list" "str" = some false := by decide +kernel
theorem kb_list_list : kitB "list" "list" = some true := by decide +kernel
theorem kb_list_tuple : kitB "list" "tuple" = some false := by decide +kernel

/-! ### the law's own comparison: equal and of the same kinds -/
mutual
def sameD : D → D → Bool
  | .non, .non => true
  | .bl a, .bl b => a == b
  | .int i, .int j => i == j
  | .str x, .str y => x == y
  | .tup xs, .tup ys => sameDs xs ys
  | .lst xs, .lst ys => sameDs xs ys
  | _, _ => false
def sameDs : List D → List D → Bool
  | [], [] => true
  | x :: xs, y :: ys => sameD x y && sameDs xs ys
  | _, _ => false
end
mutual
theorem sameD_refl : ∀ (n : Nat) (x : D), x.isData n = true → sameD x x = true
  | _, .non, _ => rfl
  | _, .bl b, _ => by simp [sameD]
  | _, .int _, _ => by simp [sameD]
  | _, .str _, _ => by simp [sameD]
  | n + 1, .tup xs, h => sameDs_refl n xs h
  | n + 1, .lst xs, h => sameDs_refl n xs h
  | 0, .tup xs, h => by simp [D.isData] at h
  | 0, .lst xs, h => by simp [D.isData] at h
  | n, .ty _, h => by simp [D.isData] at h
  | n, .cls _, h => by simp [D.isData] at h
  | n, .ins _ _, h => by simp [D.isData] at h
  | n, .bag, h => by simp [D.isData] at h
  | n, .lat _ _, h => by simp [D.isData] at h
theorem sameDs_refl : ∀ (n : Nat) (xs : List D), allData n xs = true → sameDs xs xs = true
  | _, [], _ => rfl
  | n, x :: xs, h => by
    obtain ⟨h1, h2⟩ := Bool.and_eq_true_iff.mp (show (x.isData n && allData n xs) = true from h)
    show (sameD x x && sameDs xs xs) = true
    rw [sameD_refl n x h1, sameDs_refl n xs h2]
    rfl
end
theorem compD_map {g : DG} {te : DE} {f : D → D} {ρ : Rho} {Q : D → Prop} : ∀ {xs acc : List D}, (∀ x ∈ xs, ∀ Q' : D → Prop, Q' (f x) → g x ρ fun ρ' => te ρ' Q') → (∀ x ρ (P P' : Rho → Prop), (∀ ρ', P ρ' → P' ρ') → g x ρ P → g x ρ P') → acc.length + xs.length ≤ 100000 → Q (.lst (acc ++ xs.map f)) → compD g dTs1 te xs acc ρ Q
  | [], acc, _, _, _, q => by
    rw [List.map_nil, List.append_nil] at q
    exact q
  | x :: xs, acc, h, hm, hl, q => by
    have hl' : acc.length + (xs.length + 1) ≤ 100000 := hl
    refine hm x ρ _ _ (fun ρ' k => k) (h x List.mem_cons_self _ ⟨by omega, ?_⟩)
    refine compD_map (fun y hy => h y (List.mem_cons_of_mem _ hy)) hm (by rw [List.length_append, List.length_singleton]; omega) ?_
    rw [List.append_assoc]
    exact q
theorem bools_map : ∀ bs : List Bool, bools (bs.map D.bl) = some bs
  | [] => rfl
  | b :: bs => by
    show (bools (bs.map D.bl)).map (b :: ·) = _
    rw [bools_map bs]
    rfl
theorem mono_name {i : Nat} : ∀ (x : D) (ρ : Rho) (P P' : Rho → Prop), (∀ ρ', P ρ' → P' ρ') → dName i x ρ P → dName i x ρ P' := fun x ρ P P' h q => h _ q
theorem mono_nil : ∀ (xs : List D) (ρ : Rho) (P P' : Rho → Prop), (∀ ρ', P ρ' → P' ρ') → dgNil xs ρ P → dgNil xs ρ P' := fun xs ρ P P' h q => by
  cases xs with
  | nil => exact h _ q
  | cons _ _ => exact q
theorem mono_cons {g : DG} {gs : DGs} (h1 : ∀ (x : D) (ρ : Rho) (P P' : Rho → Prop), (∀ ρ', P ρ' → P' ρ') → g x ρ P → g x ρ P') (h2 : ∀ (xs : List D) (ρ : Rho) (P P' : Rho → Prop), (∀ ρ', P ρ' → P' ρ') → gs xs ρ P → gs xs ρ P') :
    ∀ (xs : List D) (ρ : Rho) (P P' : Rho → Prop), (∀ ρ', P ρ' → P' ρ') → dgCons g gs xs ρ P → dgCons g gs xs ρ P' := fun xs ρ P P' h q => by
  cases xs with
  | nil => exact q
  | cons x r => exact h1 x ρ _ _ (fun ρ' k => h2 r ρ' P P' h k) q
theorem mono_tup {gs : DGs} (h2 : ∀ (xs : List D) (ρ : Rho) (P P' : Rho → Prop), (∀ ρ', P ρ' → P' ρ') → gs xs ρ P → gs xs ρ P') : ∀ (x : D) (ρ : Rho) (P P' : Rho → Prop), (∀ ρ', P ρ' → P' ρ') → dgTup gs x ρ P → dgTup gs x ρ P' := fun x ρ P P' h q => by
  cases x with
  | tup xs => exact h2 xs ρ P P' h q
  | _ => exact q
def pairSame : D → D
  | .tup [a, b] => .bl (sameD a b)
  | _ => .non
theorem pairs_same : ∀ {xs ys : List D}, xs.length = ys.length → ∃ bs : List Bool, (zipD xs ys).map pairSame = bs.map D.bl ∧ bs.all id = sameDs xs ys
  | [], [], _ => ⟨[], rfl, rfl⟩
  | [], _ :: _, h => by cases h
  | _ :: _, [], h => by cases h
  | x :: xs, y :: ys, h => by
    obtain ⟨bs, e1, e2⟩ := pairs_same (xs := xs) (ys := ys) (Nat.succ.inj h)
    refine ⟨sameD x y :: bs, ?_, ?_⟩
    · show pairSame (.tup [x, y]) :: (zipD xs ys).map pairSame = _
      rw [e1]
      rfl
    · rw [List.all_cons, e2]
      rfl
theorem sameDs_other : ∀ {xs ys : List D}, xs.length ≠ ys.length → sameDs xs ys = false
  | [], [], h => absurd rfl h
  | [], _ :: _, _ => rfl
  | _ :: _, [], _ => rfl
  | x :: xs, y :: ys, h => by
    show (sameD x y && sameDs xs ys) = false
    rw [sameDs_other (xs := xs) (ys := ys) (fun e => h (congrArg (· + 1) e)), Bool.and_false]
theorem zipD_mem : ∀ {xs ys : List D} {p : D}, p ∈ zipD xs ys → ∃ a b, p = .tup [a, b] ∧ a ∈ xs ∧ b ∈ ys
  | [], _, p, h => by simp [zipD] at h
  | _ :: _, [], p, h => by simp [zipD] at h
  | x :: xs, y :: ys, p, h => by
    rcases List.mem_cons.mp h with e | h
    · exact ⟨x, y, e, List.mem_cons_self, List.mem_cons_self⟩
    · obtain ⟨a, b, e, h1, h2⟩ := zipD_mem h
      exact ⟨a, b, e, List.mem_cons_of_mem _ h1, List.mem_cons_of_mem _ h2⟩
theorem allData_mem : ∀ {n : Nat} {xs : List D} {x : D}, allData n xs = true → x ∈ xs → x.isData n = true
  | n, y :: ys, x, h, hx => by
    obtain ⟨h1, h2⟩ := Bool.and_eq_true_iff.mp (show (y.isData n && allData n ys) = true from h)
    rcases List.mem_cons.mp hx with e | hx
    · rw [e]
      exact h1
    · exact allData_mem h2 hx
theorem zipD_len : ∀ {xs ys : List D}, (zipD xs ys).length ≤ xs.length
  | [], _ => by simp [zipD]
  | _ :: _, [] => by simp [zipD]
  | x :: xs, y :: ys => Nat.succ_le_succ zipD_len
mutual
theorem isData_mono : ∀ (n : Nat) (x : D), x.isData n = true → x.isData (n + 1) = true
  | _, .non, _ => rfl
  | _, .bl _, _ => rfl
  | _, .int _, _ => rfl
  | _, .str _, _ => rfl
  | n + 1, .tup xs, h => allData_mono n xs h
  | n + 1, .lst xs, h => allData_mono n xs h
  | 0, .tup _, h => by simp [D.isData] at h
  | 0, .lst _, h => by simp [D.isData] at h
  | n, .ty _, h => by simp [D.isData] at h
  | n, .cls _, h => by simp [D.isData] at h
  | n, .ins _ _, h => by simp [D.isData] at h
  | n, .bag, h => by simp [D.isData] at h
  | n, .lat _ _, h => by simp [D.isData] at h
theorem allData_mono : ∀ (n : Nat) (xs : List D), allData n xs = true → allData (n + 1) xs = true
  | _, [], _ => rfl
  | n, x :: xs, h => by
    obtain ⟨h1, h2⟩ := Bool.and_eq_true_iff.mp (show (x.isData n && allData n xs) = true from h)
    exact Bool.and_eq_true_iff.mpr ⟨isData_mono n x h1, allData_mono n xs h2⟩
end
theorem isData_le {n m : Nat} {x : D} (h : x.isData n = true) (hm : n ≤ m) : x.isData m = true := by
  induction hm with
  | refl => exact h
  | step _ ih => exact isData_mono _ _ ih
theorem allData_le {n m : Nat} {x : List D} (h : allData n x = true) (hm : n ≤ m) : allData m x = true := by
  induction hm with
  | refl => exact h
  | step _ ih => exact allData_mono _ _ ih
mutual
/-- no list or tuple within is long -/
def D.few : D → Bool
  | .tup xs => decide (xs.length ≤ 90000) && fewAll xs
  | .lst xs => decide (xs.length ≤ 90000) && fewAll xs
  | _ => true
def fewAll : List D → Bool
  | [] => true
  | x :: xs => x.few && fewAll xs
end
theorem fewAll_mem : ∀ {xs : List D} {x : D}, fewAll xs = true → x ∈ xs → x.few = true
  | y :: ys, x, h, hx => by
    obtain ⟨h1, h2⟩ := Bool.and_eq_true_iff.mp (show (y.few && fewAll ys) = true from h)
    rcases List.mem_cons.mp hx with e | hx
    · rw [e]
      exact h1
    · exact fewAll_mem h2 hx
/-- both at most n deep, short lists -/
def wpSame (n : Nat) (ds : List D) (Q : D → Prop) (Ed : DX → Prop) : Prop := match ds with
  | [x, y] => x.isData n = true ∧ y.isData n = true ∧ x.few = true ∧ Q (.bl (sameD x y))
  | _ => False
def wpNo (ds : List D) (Q : D → Prop) (Ed : DX → Prop) : Prop := False
theorem callee_no {P : Program} {w : World} {K : PySem.W.Frag} {mg : Str → Option Value} {base : Heap} {x qual : Str} {st : Stmt} {f : Addr} {fd : FuncData} {ps : List Str} {k : Nat} (F : FunX K x qual st f fd) (g : mg x = some (.ref f)) (b : Binds K fd ps []) : Callee P w K mg base x k wpNo [] [] :=
  callee_mk F g ⟨fun vs H Q E h => by
    obtain ⟨_, _, _, _, _, _, h, _⟩ := h
    exact False.elim h, fun A outer s H args us vs Q E hr he hb hv h => by
    obtain ⟨_, _, _, _, _, _, h, _⟩ := h
    exact False.elim h⟩ b
end DL

namespace DL
open PySem PySem.Spec PyProof.Rows L2
section
theorem seq_eq {t u : DS} {d : DEnds} {ρ : Rho} (ρ' : Rho) (h1 : ∀ N : Rho → Prop, N ρ' → t { nx := N, rt := d.rt, bk := d.bk, ct := d.ct } ρ) (h2 : u d ρ') : dSeq t u d ρ := h1 (u d) h2
theorem seq_of {t u : DS} {d : DEnds} {ρ : Rho} (R : Rho → Prop) (h1 : ∀ N : Rho → Prop, (∀ ρ', R ρ' → N ρ') → t { nx := N, rt := d.rt, bk := d.bk, ct := d.ct } ρ) (h2 : ∀ ρ', R ρ' → u d ρ') : dSeq t u d ρ := h1 (u d) h2
theorem for_of {di : DI} {g : DG} {tb : DS} {d : DEnds} {ρ : Rho} (xs : List D) (h1 : ∀ N : List D → Prop, N xs → di ρ N) (h2 : loopD g tb d xs ρ) : dFor di g tb d ρ := h1 _ h2
theorem loop_nil {g : DG} {tb : DS} {d : DEnds} {ρ : Rho} (h : d.nx ρ) : loopD g tb d [] ρ := h
theorem loop_cons {g : DG} {tb : DS} {d : DEnds} {x : D} {r : List D} {ρ : Rho} (ρ' : Rho) (h1 : ∀ N : Rho → Prop, N ρ' → g x ρ fun ρ1 => tb { nx := N, rt := d.rt, bk := d.nx, ct := N } ρ1) (h2 : loopD g tb d r ρ') : loopD g tb d (x :: r) ρ := h1 _ h2
theorem passB {X : Cx} : Passes (L2.CX X.prog X.w) X E0 := fun _ _ _ _ _ _ _ h => by
  obtain ⟨_, _, _, _, _, _, _, _, _, _, _, _, z⟩ := h
  exact z.elim
/-- the place out of an element's transformer -/
theorem castE {X : Cx} {Ed : DX → Prop} {E : XK} {e : Expr} {te te' : TE} {de : DE} (h : JE X Ed E e te' de) (q : te' = te) : JE X Ed E e te de := q ▸ h
theorem castTs {X : Cx} {Ed : DX → Prop} {E : XK} {e : List Expr} {te te' : TT} {de : DT} (h : JTs X Ed E e te' de) (q : te' = te) : JTs X Ed E e te de := q ▸ h
/-- the law's own comparison, the walk of two lists of the same length -/
theorem same_comp {wpc : Wp} {m : Nat} {xs ys : List D} {Qd : D → Prop} {u v : Option SV} (hc : wpc = wpSame m) (hx : allData m xs = true) (hy : allData m ys = true) (hn : xs.length ≤ 90000) (hf : fewAll xs = true) (hl : xs.length = ys.length) (hq : Qd (.bl (sameDs xs ys))) :
    compD (dgTup (dgCons (dName 2) (dgCons (dName 3) dgNil))) dTs1 (dCall wpc (fun _ => False) (dCons (dVar 2) (dCons (dVar 3) dNil))) (zipD xs ys) [] [u, v, none, none] fun x => dAllB [x] Qd := by
  subst hc
  refine compD_map (f := pairSame) (fun p hp Q' q => ?_) (mono_tup (mono_cons mono_name (mono_cons mono_name mono_nil))) ?_ ?_
  · obtain ⟨a, b, rfl, ha, hb⟩ := zipD_mem hp
    exact ⟨allData_mem hx ha, allData_mem hy hb, fewAll_mem hf ha, q⟩
  · have := zipD_len (xs := xs) (ys := ys)
    simp only [List.length_nil]
    omega
  · obtain ⟨bs, e1, e2⟩ := pairs_same hl
    rw [List.nil_append, e1]
    show onS (bools (bs.map D.bl)) fun bs => Qd (.bl (bs.all id))
    rw [bools_map]
    show Qd (.bl (bs.all id))
    rw [e2]
    exact hq
theorem if_n {c : Prop} {i : Decidable c} {a b : Prop} (h : ¬c) (hb : b) : @ite Prop c i a b := (if_neg h).symm ▸ hb
theorem if_y {c : Prop} {i : Decidable c} {a b : Prop} (h : c) (hb : a) : @ite Prop c i a b := (if_pos h).symm ▸ hb
theorem if_c {c : Prop} {i : Decidable c} {a b : Prop} (h1 : c → a) (h2 : ¬c → b) : @ite Prop c i a b := by
  split
  · exact h1 ‹_›
  · exact h2 ‹_›
theorem atI_0 {α : Type} {a : α} {l : List α} : atI (a :: l) 0 = some a := atI_nat (j := 0) rfl
theorem atI_1 {α : Type} {a b : α} {l : List α} : atI (a :: b :: l) 1 = some b := atI_nat (j := 1) rfl
theorem atI_2 {α : Type} {a b c : α} {l : List α} : atI (a :: b :: c :: l) 2 = some c := atI_nat (j := 2) rfl
theorem atI_3 {α : Type} {a b c d : α} {l : List α} : atI (a :: b :: c :: d :: l) 3 = some d := atI_nat (j := 3) rfl
theorem atI_4 {α : Type} {a b c d e : α} {l : List α} : atI (a :: b :: c :: d :: e :: l) 4 = some e := atI_nat (j := 4) rfl
theorem atI_5 {α : Type} {a b c d e f : α} {l : List α} : atI (a :: b :: c :: d :: e :: f :: l) 5 = some f := atI_nat (j := 5) rfl
theorem atI_6 {α : Type} {a b c d e f g : α} {l : List α} : atI (a :: b :: c :: d :: e :: f :: g :: l) 6 = some g := atI_nat (j := 6) rfl
theorem atI_7 {α : Type} {a b c d e f g h : α} {l : List α} : atI (a :: b :: c :: d :: e :: f :: g :: h :: l) 7 = some h := atI_nat (j := 7) rfl
theorem ixN_1_0 : ixN 1 0 = some 0 := rfl
theorem ixN_2_0 : ixN 2 0 = some 0 := rfl
theorem ixN_2_1 : ixN 2 1 = some 1 := rfl
theorem ixN_3_0 : ixN 3 0 = some 0 := rfl
theorem ixN_3_1 : ixN 3 1 = some 1 := rfl
theorem ixN_3_2 : ixN 3 2 = some 2 := rfl
theorem ixN_4_0 : ixN 4 0 = some 0 := rfl
theorem ixN_4_1 : ixN 4 1 = some 1 := rfl
theorem ixN_4_2 : ixN 4 2 = some 2 := rfl
theorem ixN_4_3 : ixN 4 3 = some 3 := rfl
theorem ixN_5_0 : ixN 5 0 = some 0 := rfl
theorem ixN_5_1 : ixN 5 1 = some 1 := rfl
theorem ixN_5_2 : ixN 5 2 = some 2 := rfl
theorem ixN_5_3 : ixN 5 3 = some 3 := rfl
theorem ixN_5_4 : ixN 5 4 = some 4 := rfl
theorem ixN_6_0 : ixN 6 0 = some 0 := rfl
theorem ixN_6_1 : ixN 6 1 = some 1 := rfl
theorem ixN_6_2 : ixN 6 2 = some 2 := rfl
theorem ixN_6_3 : ixN 6 3 = some 3 := rfl
theorem ixN_6_4 : ixN 6 4 = some 4 := rfl
theorem ixN_6_5 : ixN 6 5 = some 5 := rfl
theorem atI_map {α : Type} {ns : List Int} {f : Int → α} {i : Int} (h0 : 0 ≤ i) (h1 : i < (ns.length : Int)) : ∃ v, atI (ns.map f) i = some (f v) := by
  obtain ⟨j, rfl⟩ := Int.eq_ofNat_of_zero_le h0
  have h : j < ns.length := by omega
  exact ⟨ns[j], atI_nat (by rw [List.getElem?_map, List.getElem?_eq_getElem h]; rfl)⟩
theorem cdiv_ok {i m : Int} (h0 : 0 < m) (h1 : m < 2 ^ 64) : CDivW i m :=
  ⟨h0, Nat.lt_trans ((Nat.log2_lt (by omega)).mpr (show m.natAbs < 2 ^ 64 by omega)) (by decide)⟩
end
end DL

namespace DL
open PySem PySem.Spec PyProof.Rows L2
/-! ### a class's own operators and properties -/
section
variable {X : Cx} {Ed : DX → Prop} {E : XK} {K : PySem.W.Frag} {pos : Pos} {a b : Expr} {ta tb : TE} {da db : DE} {k : Nat} {C : Addr} {wp : Wp}
def rOwn (C : Addr) (sp : Sp) (E : XK) : R2 := fun x y H Q => (∃ l m dx dy fs gs, x = .ref l ∧ y = .ref m ∧ H l = some (.ins C dx fs) ∧ H m = some (.ins C dy gs)) ∧ sp [x, y] H Q E
theorem own_bin {op : Operator} {sp : Sp} {f : Addr} {fd : FuncData} {ps : List Str} (F : FnOk X.prog X.w X.K X.mg X.base (L2.CX X.prog X.w) k f fd ps sp) (hr : Room k X.A) (hb : Binds X.K fd ps []) (hc : PySem.W.selfFirst X.K C = true)
    (hs : PySem.W.findIn X.K (.ref C) (PySem.dunder op.info.2) = some (some (.ref f))) (hf : PySem.W.isFn X.K (.ref f) = true) (hx : Passes (L2.CX X.prog X.w) X E) : OpR X (binaryOp op) (rOwn C sp E) := by
  intro pins s σ H x y v u Q I rx ry q
  obtain ⟨⟨l, m, dx, dy, fs, gs, rfl, rfl, hl, hm⟩, h⟩ := q
  cases rx
  cases ry
  obtain ⟨_, J1, _⟩ := ins_get I.hok hl
  obtain ⟨_, J2, _⟩ := ins_get I.hok hm
  obtain ⟨_, J1, _⟩ := J1.look
  obtain ⟨_, J2, _⟩ := J2.look
  obtain ⟨_, hF⟩ := I.fr
  refine PySem.W.binop_K hF I.ok.mod.kin J1 J2.type hc hs hf (wpAny_mono (run_fn (dvs := []) (ds := []) F hr hb .nil hx I (show Vals [V.ref l, V.ref m] [Value.ref l, Value.ref m] from .cons rfl (.cons rfl .nil)) h) (fun r s2 z => ?_) fun _ _ z => z)
  obtain ⟨v, H2, I2, rv, q2⟩ := z
  cases r with
  | notImplemented => cases v <;> first | (obtain ⟨_, rv⟩ := rv; cases rv) | (cases rv)
  | _ => exact ⟨v, H2, I2, rv, q2⟩
def dOwn (C : Addr) (wp : Wp) (Ed : DX → Prop) (da db : DE) (ρ : Rho) (Q : D → Prop) : Prop := da ρ fun x => db ρ fun y => match x, y with
  | .ins C1 f1, .ins C2 f2 => C1 = C ∧ C2 = C ∧ wp [.ins C1 f1, .ins C2 f2] Q Ed
  | _, _ => False
theorem sim_own (ha : SimE K Ed E ta da) (hb : SimE K Ed E tb db) : SimE K Ed E (tOp (rOwn C (SpW K wp) E) ta tb) (dOwn C wp Ed da db) := fun B0 B1 A H0 H σ ρ R X Qd h Q q =>
  ha B0 B1 A H0 H σ ρ R X _ h _ fun x v H1 H2 R1 g1 r1 k1 => hb B0 B1 A H1 H2 σ ρ R1 X _ k1 _ fun y u H3 H4 R2 g2 r2 k2 => by
    split at k2
    · obtain ⟨rfl, rfl, k2⟩ := k2
      have r1' := Rep.mono g2.g0 _ _ r1
      have rr : Reps K H3 [.ins _ _, .ins _ _] [v, u] := ⟨v, [u], rfl, r1', u, [], rfl, r2, rfl⟩
      obtain ⟨l, dx, fvs, rfl, hl, rf⟩ := r1'
      obtain ⟨m, dy, gvs, rfl, hm, rg⟩ := r2
      refine ⟨⟨l, m, dx, dy, fvs, gvs, rfl, rfl, R2.ex _ _ hl, R2.ex _ _ hm⟩, sp_of R2 X rr k2 fun x v H5 H6 R3 g3 r3 k3 => q x v H5 H6 R3 ((g1.trans g2).trans g3) r3 k3⟩
    · exact k2.elim
/-- what an own operator needs -/
structure Opr (P : Program) (w : World) (K : PySem.W.Frag) (mg : Str → Option Value) (base : Heap) (op : Operator) (C : Addr) (k : Nat) (wp : Wp) : Prop where
  ex : ∃ (f : Addr) (fd : FuncData) (ps : List Str), PySem.W.selfFirst K C = true ∧ PySem.W.findIn K (.ref C) (PySem.dunder op.info.2) = some (some (.ref f)) ∧ PySem.W.isFn K (.ref f) = true ∧ FnOk P w K mg base (L2.CX P w) k f fd ps (SpW K wp) ∧ Binds K fd ps []
theorem e_own {op : Operator} (M : Opr X.prog X.w X.K X.mg X.base op C k wp) (hr : Room k X.A) (hx : Passes (L2.CX X.prog X.w) X E) (ha : JE X Ed E a ta da) (hb : JE X Ed E b tb db) : JE X Ed E (.BinOp a op b pos) (tOp (rOwn C (SpW X.K wp) E) ta tb) (dOwn C wp Ed da db) := by
  obtain ⟨f, fd, ps, h1, h2, h3, h4, h5⟩ := M.ex
  exact ⟨pe_op (own_bin h4 hr h5 h1 h2 h3 hx) ha.pe hb.pe, sim_own ha.sim hb.sim⟩
/-! a property -/
structure Prp (P : Program) (w : World) (K : PySem.W.Frag) (mg : Str → Option Value) (base : Heap) (C : Addr) (f : Str) (k : Nat) (wp : Wp) : Prop where
  cls : Cls K C
  ex : ∃ (p g : Addr) (fd : FuncData) (ps : List Str), PropOf K C f p g ∧ FnOk P w K mg base (L2.CX P w) k g fd ps (SpW K wp) ∧ Binds K fd ps []
def dProp (C : Addr) (wp : Wp) (da : DE) (ρ : Rho) (Q : D → Prop) : Prop := da ρ fun o => match o with
  | .ins C1 fs => C1 = C ∧ wp [.ins C1 fs] Q (fun _ => False)
  | _ => False
theorem sim_prop (ha : SimE K Ed E ta da) : SimE K Ed E (tProp C (SpW K wp) [] E0 ta) (dProp C wp da) := fun B0 B1 A H0 H σ ρ R X Qd h Q q =>
  ha B0 B1 A H0 H σ ρ R X _ h _ fun x v H1 H2 R1 g1 r1 k1 => by
    split at k1
    · obtain ⟨rfl, k1⟩ := k1
      have rr : Reps K H1 [.ins _ _] [v] := ⟨v, [], rfl, r1, rfl⟩
      obtain ⟨l, dx, fvs, rfl, hl, rf⟩ := r1
      exact ⟨l, dx, fvs, rfl, R1.ex _ _ hl, sp_of R1 ExRel.none rr k1 fun x v H5 H6 R3 g3 r3 k3 => q x v H5 H6 R3 (g1.trans g3) r3 k3⟩
    · exact k1.elim
theorem e_prop {f : Str} (M : Prp X.prog X.w X.K X.mg X.base C f k wp) (hr : Room (k + 1) X.A) (ha : JE X Ed E a ta da) (hab : attributeBase a f X.env (eval a X.env) = eval a X.env := by rfl) : JE X Ed E (.Attribute a f pos) (tProp C (SpW X.K wp) [] E0 ta) (dProp C wp da) := by
  obtain ⟨p, g, fd, ps, h1, h2, h3⟩ := M.ex
  exact ⟨pe_prop ha.pe M.cls h1 h2 hr h3 .nil (passB (X := X.nox)) hab, sim_prop ha.sim⟩
theorem opr_mk {m qual : Str} {st : Stmt} {f : Addr} {fd : FuncData} {ps : List Str} {op : Operator} {P : Program} {w : World} {mg : Str → Option Value} {base : Heap} (F : FunX K m qual st f fd) (c : PySem.W.selfFirst K C = true) (g : PySem.W.findIn K (.ref C) (PySem.dunder op.info.2) = some (some (.ref f))) (i : PySem.W.isFn K (.ref f) = true) (O : FnOk P w K mg base (L2.CX P w) k f fd ps (SpW K wp)) (b : Binds K fd ps []) : Opr P w K mg base op C k wp :=
  ⟨f, fd, ps, c, g, i, O, b⟩
end
end DL

namespace DL
open PySem PySem.Spec PyProof.Rows L2
/-! ### isinstance of an own class; l.index(x) -/
section
variable {X : Cx} {Ed : DX → Prop} {E : XK} {K : PySem.W.Frag} {pos p apos : Pos} {a b e o : Expr} {es : List Expr} {ta to : TE} {da dob : DE} {tal : TA} {dal : DA} {C : Addr}
theorem e_cls {x : Str} (h : X.mg x = some (.ref C)) (hg : Gl X x := by rfl) (hd : (x == ("__debug__" : Str)) = false := by decide) : JE X Ed E (.Name x pos) (tC (.ref C)) (dC (.cls C)) := e_glob hg h rfl (fun _ => rfl) hd
/-- what isinstance asks of an instance's class -/
structure InsT (K : PySem.W.Frag) (C : Addr) : Prop where
  cl : Cls K C
  ha : PySem.W.findIn K (.ref C) "__class__" = some (some (.builtin "object.__class__"))
  hn : PySem.W.specialIn K (.builtin "object.__class__") "__get__" = some (some (.builtin "getset_descriptor.__get__"))
  ht : PySem.W.takesIn K (.builtin "object.__class__") = some true
  ho : PySem.W.mroIn K C (.type "object") = some true
def dIsiC (C : Addr) (ds : List D) (Q : D → Prop) : Prop := match ds with
  | [.ins C1 _, .cls C2] => C1 = C ∧ C2 = C ∧ Q (.bl true)
  | _ => False
theorem s_isiC (t : InsT K C) : SimRC K (rIsi K) (dIsiC C) := by
  intro H0 H xs ds sm r Qd h Q q
  unfold dIsiC at h
  split at h
  · obtain ⟨rfl, rfl, h⟩ := h
    obtain ⟨v, u, rfl, h1, h2⟩ := two_of r
    obtain ⟨l, dx, fvs, rfl, hl, rf⟩ := h1
    cases (show u = _ from h2)
    exact ⟨.ref l, .ref _, .ref _, .ref _, true, rfl, .own _, .base (.ins (sm _ _ hl) t.cl t.ha t.hn t.ht t.ho), if_pos (by simp), q (.bl true) _ H0 H (.refl sm) rfl h⟩
  · exact h.elim
theorem e_isiC (t : InsT X.K C) (hm : X.mg "isinstance" = none) (ha : JA X Ed E (e :: es) tal dal) (hg : Gl X "isinstance" := by rfl) (he : starEach (e :: es) X.env = (false, eval e X.env) :: starEach es X.env := by rfl) (hpl : (backTo pos (starEach es X.env)).any (·.1) = false := by rfl) :
    JE X Ed E (.Call (.Name "isinstance" p) (e :: es) [] pos) (tCB (rIsi X.K) tal) (dCB (dIsiC C) dal) := e_callB call_isi (s_isiC t) hm ha (by decide +kernel) hg (by decide) (by decide) he hpl
mutual
def toP : D → Option PyData
  | .non => some .none
  | .bl b => some (.bool b)
  | .int i => some (.int i)
  | .str x => some (.str x)
  | .tup xs => (toPs xs).map .tuple
  | .lst xs => (toPs xs).map .list
  | _ => none
def toPs : List D → Option (List PyData)
  | [] => some []
  | x :: r => match toP x, toPs r with
    | some a, some b => some (a :: b)
    | _, _ => none
end
mutual
theorem toP_dp {H : Hp} : ∀ (d : D) (v : V) (q : PyData), Rep K H d v → toP d = some q → Dp K H v q
  | .non, v, q, r, h => by
    cases (show v = _ from r)
    cases h
    exact .non
  | .bl b, v, q, r, h => by
    cases (show v = _ from r)
    cases h
    exact .bl b
  | .int i, v, q, r, h => by
    cases (show v = _ from r)
    cases h
    exact .int i
  | .str x, v, q, r, h => by
    cases (show v = _ from r)
    cases h
    exact .str x
  | .tup xs, v, q, r, h => by
    obtain ⟨l, vs, rfl, hs, rr⟩ := r
    obtain ⟨qs, hq, rfl⟩ := Option.map_eq_some_iff.mp (show (toPs xs).map PyData.tuple = some q from h)
    exact .tup hs (toPs_dp xs vs qs rr hq)
  | .lst xs, v, q, r, h => by
    obtain ⟨l, vs, rfl, hs, rr⟩ := r
    obtain ⟨qs, hq, rfl⟩ := Option.map_eq_some_iff.mp (show (toPs xs).map PyData.list = some q from h)
    exact .lst hs (toPs_dp xs vs qs rr hq)
  | .ty _, _, _, _, h => nomatch h
  | .cls _, _, _, _, h => nomatch h
  | .ins _ _, _, _, _, h => nomatch h
  | .bag, _, _, _, h => nomatch h
  | .lat _ _, _, _, _, h => nomatch h
theorem toPs_dp {H : Hp} : ∀ (ds : List D) (vs : List V) (qs : List PyData), Reps K H ds vs → toPs ds = some qs → DpAll K H vs qs
  | [], vs, qs, r, h => by
    cases (show vs = _ from r)
    cases h
    exact .nil
  | x :: xs, vs, qs, ⟨v, vr, e, h1, h2⟩, h => by
    subst e
    unfold toPs at h
    split at h
    · rename_i a b ha hb
      cases h
      exact .cons (toP_dp x v a h1 ha) (toPs_dp xs vr b h2 hb)
    · cases h
end
def dIndex (x : D) (ys : List D) (Q : D → Prop) : Prop := match x, ys with
  | .lst xs, [y] => ∃ (qs : List PyData) (q : PyData) (j : Nat) (z : PyData), toPs xs = some qs ∧ toP y = some q ∧ SeqAt.shaped (.list qs) = true ∧ SeqAt.shaped q = true ∧ qs[j]? = some z ∧ PyData.eqv z q = true ∧ (∀ (m : Nat) (z' : PyData), m < j → qs[m]? = some z' → PyData.eqv z' q = false) ∧ Q (.int (j : Nat))
  | _, _ => False
def dBM (r : D → List D → (D → Prop) → Prop) (da : DE) (dal : DA) (ρ : Rho) (Q : D → Prop) : Prop := da ρ fun x => (∃ xs, x = .lst xs) ∧ dal ρ fun ys => r x ys Q
theorem sim_index (ha : SimE K Ed E to dob) (hb : SimA K Ed E tal dal) : SimE K Ed E (tBM K "list" (rIndexD K) to tal) (dBM dIndex dob dal) := fun B0 B1 A H0 H σ ρ R X Qd h Q q =>
  ha B0 B1 A H0 H σ ρ R X _ h _ fun x v H1 H2 R1 g1 r1 k1 => by
    obtain ⟨⟨xs, rfl⟩, k1⟩ := k1
    obtain ⟨l, vs, e, hs, rr⟩ := id r1
    refine ⟨?_, hb B0 B1 A H1 H2 σ ρ R1 X _ k1 _ fun ys us H3 H4 R2 g2 r2 k2 => ?_⟩
    · subst e
      exact .inl ⟨rfl, vs, R1.ex.seq hs⟩
    · have r1' := Rep.mono g2.g0 _ _ r1
      unfold dIndex at k2
      split at k2
      · rename_i xs' y e1 
        cases e1
        obtain ⟨qs, q1, j, z, h1, h2, h3, h4, h5, h6, h7, h8⟩ := k2
        obtain ⟨u, rfl, ru⟩ := one_of r2
        subst e
        exact ⟨l, u, q1, qs, j, z, rfl, rfl, toP_dp (.lst xs) _ (.list qs) (Rep.mono R2.ex _ _ r1') (by unfold toP; rw [h1]; rfl), toP_dp y u q1 (Rep.mono R2.ex _ _ ru) h2, h3, h4, h5, h6, h7, q (.int j) _ H3 H4 R2 (g1.trans g2) rfl h8⟩
      · exact k2.elim
theorem room65 {A : Around} {k : Nat} (hr : Room k A) : A.units + 65 < cLine := by
  have := hr.un
  omega
theorem e_index (hu : X.A.units + 65 < cLine) (ho : JE X Ed E o to dob) (ha : JA X Ed E (e :: es) tal dal)
    (hbase : attributeBase o "index" X.env (eval o X.env) = eval o X.env := by rfl)
    (hfew : ((backTo pos (starEach (e :: es) X.env)).all (fun x => !x.1) && (backToKw pos (keywordEach [] X.env)).all (fun x => x.1.isSome) && decide ((e :: es).length + ([] : List Keyword).length + (if ([] : List Keyword).isEmpty then 0 else 1) < 30)) = true := by rfl)
    (hline : (apos.endLine == pos.line) = true := by rfl) (hs : starEach (e :: es) X.env = (false, eval e X.env) :: starEach es X.env := by rfl) (hplain : (backTo pos (starEach es X.env)).any (·.1) = false := by rfl) :
    JE X Ed E (.Call (.Attribute o "index" apos) (e :: es) [] pos) (tBM X.K "list" (rIndexD X.K) to tal) (dBM dIndex dob dal) :=
  ⟨pe_bm F.plainAttrs_list F.slot_list_index F.type_list_index (mt_indexD hu) ho.pe ha.pe hbase hfew hline hs hplain, sim_index ho.sim ha.sim⟩
end
end DL

namespace DL
open PySem PySem.Spec PyProof.Rows L2
/-! ### a class's own == (and the others): x op y, both instances of C -/
section
variable {X : Cx} {Ed : DX → Prop} {E : XK} {K : PySem.W.Frag} {pos : Pos} {a b : Expr} {ta tb : TE} {da db : DE} {k : Nat} {C : Addr} {wp : Wp}
theorem own_cmp {op : CmpOp} (hop : ∀ a b, compareOp op a b = richCompare op a b) {sp : Sp} {f : Addr} {fd : FuncData} {ps : List Str} (F : FnOk X.prog X.w X.K X.mg X.base (L2.CX X.prog X.w) k f fd ps sp) (hr : Room k X.A) (hb : Binds X.K fd ps [])
    (hs : PySem.W.findIn X.K (.ref C) (cmpInfo op).2.1 = some (some (.ref f))) (hf : PySem.W.isFn X.K (.ref f) = true) (hx : Passes (L2.CX X.prog X.w) X E) : OpR X (compareOp op) (rOwn C sp E) := by
  intro pins s σ H x y v u Q I rx ry q
  obtain ⟨⟨l, m, dx, dy, fs, gs, rfl, rfl, hl, hm⟩, h⟩ := q
  cases rx
  cases ry
  obtain ⟨_, J1, _⟩ := ins_get I.hok hl
  obtain ⟨_, J2, _⟩ := ins_get I.hok hm
  obtain ⟨_, J1, _⟩ := J1.look
  obtain ⟨_, J2, _⟩ := J2.look
  obtain ⟨_, hF⟩ := I.fr
  rw [hop]
  refine PySem.W.cmp_K (op := op) (tb := .ref C) hr.units0 hF I.ok.mod.kin J1 J2.type (by simp [PySem.W.notFirst]) hs hf (wpAny_mono (run_fn (dvs := []) (ds := []) F hr hb .nil hx I (show Vals [V.ref l, V.ref m] [Value.ref l, Value.ref m] from .cons rfl (.cons rfl .nil)) h) (fun r s2 z => ?_) fun _ _ z => z)
  obtain ⟨v, H2, I2, rv, q2⟩ := z
  cases r with
  | notImplemented => cases v <;> first | (obtain ⟨_, rv⟩ := rv; cases rv) | (cases rv)
  | _ => exact ⟨v, H2, I2, rv, q2⟩
structure Cmr (P : Program) (w : World) (K : PySem.W.Frag) (mg : Str → Option Value) (base : Heap) (op : CmpOp) (C : Addr) (k : Nat) (wp : Wp) : Prop where
  ex : ∃ (f : Addr) (fd : FuncData) (ps : List Str), PySem.W.findIn K (.ref C) (cmpInfo op).2.1 = some (some (.ref f)) ∧ PySem.W.isFn K (.ref f) = true ∧ FnOk P w K mg base (L2.CX P w) k f fd ps (SpW K wp) ∧ Binds K fd ps []
theorem e_ownEq (M : Cmr X.prog X.w X.K X.mg X.base .Eq C k wp) (hr : Room k X.A) (hx : Passes (L2.CX X.prog X.w) X E) (ha : JE X Ed E a ta da) (hb : JE X Ed E b tb db) (hm : behindInMarks .Eq b = false := by rfl) : JE X Ed E (.Compare a [.Eq] [b] pos) (tOp (rOwn C (SpW X.K wp) E) ta tb) (dOwn C wp Ed da db) := by
  obtain ⟨f, fd, ps, h1, h2, h3, h4⟩ := M.ex
  exact ⟨pe_cmpR (own_cmp (fun _ _ => rfl) h3 hr h4 h1 h2 hx) ha.pe hb.pe hm, sim_own ha.sim hb.sim⟩
end
end DL

namespace DL
open PySem PySem.Spec PyProof.Rows L2
/-! ### C.m(..): static methods, class methods -/
section
variable {X : Cx} {Ed : DX → Prop} {E : XK} {K : PySem.W.Frag} {pos apos : Pos} {o e : Expr} {es : List Expr} {to : TE} {dob : DE} {tal : TA} {dal : DA} {k : Nat} {C : Addr} {wp : Wp} {m : Str} {pl : Sem Bool}
/-- C.m is a static method around the def at f -/
structure Stat (K : PySem.W.Frag) (C : Addr) (mc : Value) (m : Str) (p f : Addr) : Prop where
  rd : ClX.CRead K C mc
  at_ : PySem.W.findCls K (.ref C) mc m = some (.get (.builtin "staticmethod.__get__") (.ref p) .none (.ref C))
  rc : ∃ rest, PySem.W.recIn K p "staticmethod" = some (.ref f :: rest)
  kp : PySem.W.keepIn K (.ref f) = true
/-- the reading: the class, then the def's promise at the arguments -/
def tSt (C : Addr) (sp : Sp) (E : XK) (to : TE) (t : TA) : TE := fun σ H Q => to σ H fun x H1 => x = .ref C ∧ t σ H1 fun vs H2 => sp vs H2 Q E
theorem pe_stat0 {mc : Value} {p f : Addr} {fd : FuncData} {ps : List Str} {sp : Sp} (he : PE X o to) (S : Stat X.K C mc m p f) (F : FnOk X.prog X.w X.K X.mg X.base (L2.CX X.prog X.w) k f fd ps sp) (hr : Room k X.A) (hb : Binds X.K fd ps []) (hx : Passes (L2.CX X.prog X.w) X E)
    (ht : eval (.Call (.Attribute o m apos) [] [] pos) X.env = (do
      let ov ← eval o X.env
      standAt apos.atName
      let (g, first) ← holding [ov] (getMethod ov m pl)
      callWith pos g first (backTo pos (starEach [] X.env)) (backToKw pos (keywordEach [] X.env))) := by rfl) : PE X (.Call (.Attribute o m apos) [] [] pos) (tSt C sp E to tNil) := by
  refine ⟨fun pins s σ H Q I h => ?_⟩
  refine PySem.W.methodCall_KW (pl := pl) (thn (he.run pins s σ H _ I h) fun u s1 z => ?_) ht
  obtain ⟨x, H1, I1, rx, ex, q⟩ := z
  subst ex
  cases rx
  obtain ⟨rest, hp⟩ := S.rc
  refine PySem.W.method_cls I1.kIn S.rd.ga (PySem.W.cls_bind I1.kIn S.rd.rd S.at_ (wpAny_call (PySem.W.sm_get (s := { s1 with toks := s1.toks + 1 }) I1.kIn hp (PySem.W.handed_on rfl ?_))))
  have I2 := I1.tok (s1.toks + 1)
  exact PySem.W.callWith_K0 (first := []) I2.kIn S.kp (run_fn (dvs := []) (ds := []) (us := []) (vs := []) F hr hb .nil hx I2 .nil q)
/-- a def's promise, its defaults filled in -/
theorem fnr_of {P : Program} {w : World} {mg : Str → Option Value} {base : Heap} {f : Addr} {fd : FuncData} {ps : List Str} {sp : Sp} {dvs : List V} {ds : List Value} (F : FnOk P w K mg base (L2.CX P w) k f fd ps sp) (hb : Binds K fd ps ds) (hd : Vals dvs ds) : FnR P w K mg base (L2.CX P w) k f (fun vs H Q E => sp (vs ++ dvs) H Q E) := fun A outer s H us vs Q E hr e0 r h => by
  have hl : (us ++ ds).length = ps.length := by rw [← (r.append hd).length]; exact F.len _ _ _ _ h
  exact F.run A outer s H ⟨us, []⟩ (us ++ ds) (vs ++ dvs) Q E hr e0 (hb s us (e0.mod.kin.keeps fun b o e => (e0.bs b o e).1) hl) (r.append hd) h
/-- C.m(e, ..), a class method: the class goes first -/
structure CMt (P : Program) (w : World) (K : PySem.W.Frag) (mg : Str → Option Value) (base : Heap) (C : Addr) (m : Str) (k : Nat) (wp : Wp) (dvs : List V) (dd : List D) : Prop where
  ex : ∃ (mc : Value) (p g : Addr) (fd : FuncData) (ps : List Str) (ds : List Value), ClX.CRead K C mc ∧ ClX.CMet K C mc m p g ∧ FnOk P w K mg base (L2.CX P w) k g fd ps (SpW K wp) ∧ Binds K fd ps ds ∧ Vals dvs ds ∧ ∀ H, Reps K H dd dvs
structure Stc (P : Program) (w : World) (K : PySem.W.Frag) (mg : Str → Option Value) (base : Heap) (C : Addr) (m : Str) (k : Nat) (wp : Wp) : Prop where
  ex : ∃ (mc : Value) (p f : Addr) (fd : FuncData) (ps : List Str), Stat K C mc m p f ∧ FnOk P w K mg base (L2.CX P w) k f fd ps (SpW K wp) ∧ Binds K fd ps []
def dSt (C : Addr) (wp : Wp) (Ed : DX → Prop) (dob : DE) (dal : DA) (ρ : Rho) (Q : D → Prop) : Prop := dob ρ fun x => x = .cls C ∧ dal ρ fun ds => wp ds Q Ed
def dCm (C : Addr) (wp : Wp) (dd : List D) (Ed : DX → Prop) (dob : DE) (dal : DA) (ρ : Rho) (Q : D → Prop) : Prop := dob ρ fun x => x = .cls C ∧ dal ρ fun ds => wp (.cls C :: (ds ++ dd)) Q Ed
theorem sim_st (ho : SimE K Ed E to dob) (ha : SimA K Ed E tal dal) : SimE K Ed E (tSt C (SpW K wp) E to tal) (dSt C wp Ed dob dal) := fun B0 B1 A H0 H σ ρ R X Qd h Q q =>
  ho B0 B1 A H0 H σ ρ R X _ h _ fun x v H1 H2 R1 g1 r1 k1 => by
    obtain ⟨rfl, k1⟩ := k1
    exact ⟨r1, ha B0 B1 A H1 H2 σ ρ R1 X _ k1 _ fun ds vs H3 H4 R2 g2 r2 k2 => sp_of R2 X r2 k2 fun x v H5 H6 R3 g3 r3 k3 => q x v H5 H6 R3 ((g1.trans g2).trans g3) r3 k3⟩
theorem sim_cm {dvs : List V} {dd : List D} (hd : ∀ H, Reps K H dd dvs) (ho : SimE K Ed E to dob) (ha : SimA K Ed E tal dal) : SimE K Ed E (ClX.tCMeth C (fun vs H Q E => SpW K wp (vs ++ dvs) H Q E) E to tal) (dCm C wp dd Ed dob dal) := fun B0 B1 A H0 H σ ρ R X Qd h Q q =>
  ho B0 B1 A H0 H σ ρ R X _ h _ fun x v H1 H2 R1 g1 r1 k1 => by
    obtain ⟨rfl, k1⟩ := k1
    refine ⟨r1, ha B0 B1 A H1 H2 σ ρ R1 X _ k1 _ fun ds vs H3 H4 R2 g2 r2 k2 => ?_⟩
    exact sp_of R2 X (show Reps K H3 (.cls C :: (ds ++ dd)) (.ref C :: (vs ++ dvs)) from ⟨.ref C, _, rfl, rfl, r2.append (hd _)⟩) k2 fun x v H5 H6 R3 g3 r3 k3 => q x v H5 H6 R3 ((g1.trans g2).trans g3) r3 k3
theorem e_stat0 (M : Stc X.prog X.w X.K X.mg X.base C m k wp) (hr : Room k X.A) (hx : Passes (L2.CX X.prog X.w) X E) (ho : JE X Ed E o to dob)
    (ht : eval (.Call (.Attribute o m apos) [] [] pos) X.env = (do
      let ov ← eval o X.env
      standAt apos.atName
      let (g, first) ← holding [ov] (getMethod ov m pl)
      callWith pos g first (backTo pos (starEach [] X.env)) (backToKw pos (keywordEach [] X.env))) := by rfl) : JE X Ed E (.Call (.Attribute o m apos) [] [] pos) (tSt C (SpW X.K wp) E to tNil) (dSt C wp Ed dob dNil) := by
  obtain ⟨mc, p, f, fd, ps, h1, h2, h3⟩ := M.ex
  exact ⟨pe_stat0 ho.pe h1 h2 hr h3 hx ht, sim_st ho.sim sim_nil⟩
theorem pe_cmeth0 {mc : Value} {p g : Addr} {sp : Sp} (he : PE X o to) (r : ClX.CRead X.K C mc) (c : ClX.CMet X.K C mc m p g) (F : FnR X.prog X.w X.K X.mg X.base (L2.CX X.prog X.w) k g sp) (hr : Room k X.A) (hx : Passes (L2.CX X.prog X.w) X E)
    (ht : eval (.Call (.Attribute o m apos) [] [] pos) X.env = (do
      let ov ← eval o X.env
      standAt apos.atName
      let (g, first) ← holding [ov] (getMethod ov m pl)
      callWith pos g first (backTo pos (starEach [] X.env)) (backToKw pos (keywordEach [] X.env))) := by rfl) : PE X (.Call (.Attribute o m apos) [] [] pos) (ClX.tCMeth C sp E to tNil) := by
  refine ⟨fun pins s σ H Q I h => ?_⟩
  refine PySem.W.methodCall_KW (pl := pl) (thn (he.run pins s σ H _ I h) fun u s1 z => ?_) ht
  obtain ⟨x, H1, I1, rx, ex, q⟩ := z
  subst ex
  cases rx
  refine ClX.getmethcm_ok I1 r c fun s2 I2 => ?_
  exact PySem.W.callWith_M0 (first := []) ⟨ClX.pin_at I2, I2.kIn⟩ c.fi (ClX.run_cm F hr hx I2 .nil q)
theorem e_cm0 {dvs : List V} {dd : List D} (M : CMt X.prog X.w X.K X.mg X.base C m k wp dvs dd) (hr : Room k X.A) (hx : Passes (L2.CX X.prog X.w) X E) (ho : JE X Ed E o to dob)
    (ht : eval (.Call (.Attribute o m apos) [] [] pos) X.env = (do
      let ov ← eval o X.env
      standAt apos.atName
      let (g, first) ← holding [ov] (getMethod ov m pl)
      callWith pos g first (backTo pos (starEach [] X.env)) (backToKw pos (keywordEach [] X.env))) := by rfl) : JE X Ed E (.Call (.Attribute o m apos) [] [] pos) (ClX.tCMeth C (fun vs H Q E => SpW X.K wp (vs ++ dvs) H Q E) E to tNil) (dCm C wp dd Ed dob dNil) := by
  obtain ⟨mc, p, g, fd, ps, ds, h1, h2, h3, h4, h5, h6⟩ := M.ex
  exact ⟨pe_cmeth0 ho.pe h1 h2 (fnr_of h3 h4 h5) hr hx ht, sim_cm h6 ho.sim sim_nil⟩
theorem e_cm {dvs : List V} {dd : List D} (M : CMt X.prog X.w X.K X.mg X.base C m k wp dvs dd) (hr : Room k X.A) (hx : Passes (L2.CX X.prog X.w) X E) (ho : JE X Ed E o to dob) (ha : JA X Ed E (e :: es) tal dal)
    (hst : starEach (e :: es) X.env = (false, eval e X.env) :: starEach es X.env := by rfl) (hpl : (backTo pos (starEach es X.env)).any (·.1) = false := by rfl)
    (ht : eval (.Call (.Attribute o m apos) (e :: es) [] pos) X.env = (do
      let ov ← eval o X.env
      standAt apos.atName
      let (f, first) ← holding [ov] (getMethod ov m pl)
      callWith pos f first (backTo pos (starEach (e :: es) X.env)) (backToKw pos (keywordEach [] X.env))) := by rfl) : JE X Ed E (.Call (.Attribute o m apos) (e :: es) [] pos) (ClX.tCMeth C (fun vs H Q E => SpW X.K wp (vs ++ dvs) H Q E) E to tal) (dCm C wp dd Ed dob dal) := by
  obtain ⟨mc, p, g, fd, ps, ds, h1, h2, h3, h4, h5, h6⟩ := M.ex
  exact ⟨ClX.pe_cmeth ho.pe h1 h2 (fnr_of h3 h4 h5) hr hx ha.pe hst hpl ht, sim_cm h6 ho.sim ha.sim⟩
end
end DL

namespace DL
open PySem PySem.Spec PyProof.Rows L2
/-! ### in: a list, a tuple, one sign in a text; slices of texts; constants of the written part -/
section
variable {X : Cx} {Ed : DX → Prop} {E : XK} {K : PySem.W.Frag} {pos p apos : Pos} {a b e o : Expr} {es : List Expr} {te ta tb to : TE} {de da db dob : DE}
def anyEq (x : D) (ys : List D) : Bool := ys.any fun z => deq z x
def dInN (n : Nat) (x y : D) (Q : D → Prop) : Prop := match y with
  | .lst ys => x.isData n = true ∧ allData n ys = true ∧ Q (.bl (anyEq x ys))
  | .tup ys => x.isData n = true ∧ allData n ys = true ∧ Q (.bl (anyEq x ys))
  | .str z => ∃ c, x = .str ⟨#[c]⟩ ∧ Q (.bl (decide (c ∈ z.cps.toList)))
  | _ => False
def rInN (K : PySem.W.Frag) (n : Nat) : R2 := fun x y H Q =>
  (∃ (H0 : Hp) (d : D) (ds : List D), Same H0 H ∧ Rep K H0 d x ∧ Rep K H0 (.lst ds) y ∧ d.isData n = true ∧ allData n ds = true ∧ Q (.bl (anyEq d ds)) H) ∨
  (∃ (H0 : Hp) (d : D) (ds : List D), Same H0 H ∧ Rep K H0 d x ∧ Rep K H0 (.tup ds) y ∧ d.isData n = true ∧ allData n ds = true ∧ Q (.bl (anyEq d ds)) H) ∨
  (∃ (c : Nat) (z : Str), x = .str ⟨#[c]⟩ ∧ y = .str z ∧ Q (.bl (decide (c ∈ z.cps.toList))) H)
def rNotInN (K : PySem.W.Frag) (n : Nat) : R2 := fun x y H Q => rInN K n x y H fun z H' => match z with
  | .bl b => Q (.bl (!b)) H'
  | _ => False
theorem in_fun {pins : List (Addr × Obj)} {σ : L2.St} {H : Hp} {s : Shared} {n : Nat} {A : Around} {d : D} {ds : List D} {x : V} {vs : List V} {u : Value} {us : List Value} (I : Inv X pins σ H s) (hu : A.units + (n + 1) < cLine) (hd : d.isData n = true) (hds : allData n ds = true)
    (rd : Rep X.K H d x) (rs : Reps X.K H ds vs) (rx : RelV x u) (rv : Vals vs us) : ∃ f : Value → Bool, (∀ y, y ∈ us.toArray → SeqAt.EqAt A.in1 s y u (f y)) ∧ us.toArray.any f = anyEq d ds := by
  classical
  refine ⟨fun w => decide (∃ z c, z ∈ ds ∧ RelV c w ∧ Rep X.K H z c ∧ deq z d = true), fun w hw => ?_, ?_⟩
  · obtain ⟨j, hj⟩ := List.getElem?_of_mem (by simpa using hw)
    have hjl : j < vs.length := by
      rw [rv.length]
      exact (List.getElem?_eq_some_iff.mp hj).1
    obtain ⟨w', e1, r1⟩ := rv.get (List.getElem?_eq_getElem hjl)
    rw [hj] at e1
    cases e1
    obtain ⟨z, hz, rz⟩ := rs.get' (List.getElem?_eq_getElem hjl)
    have zd : z.isData n = true := allData_mem hds (List.mem_of_getElem? hz)
    have at_ := deq_at I n z d _ x w u A.in1 zd hd rz rd r1 rx (room_in1 hu)
    have e : decide (∃ z c, z ∈ ds ∧ RelV c w ∧ Rep X.K H z c ∧ deq z d = true) = deq z d := by
      by_cases q : deq z d = true
      · rw [q]
        exact decide_eq_true ⟨z, _, List.mem_of_getElem? hz, r1, rz, q⟩
      · rw [Bool.not_eq_true] at q
        rw [q]
        refine decide_eq_false fun ⟨z', c, hm, rc, rz', qz⟩ => ?_
        obtain rfl := rc.inj r1
        rw [Rep.inj I n z' z _ (allData_mem hds hm) zd rz' rz, q] at qz
        cases qz
    show SeqAt.EqAt A.in1 s w u (decide _)
    rw [e]
    exact at_
  · rw [Bool.eq_iff_iff, Array.any_eq_true]
    constructor
    · rintro ⟨j, hj, h⟩
      obtain ⟨z, c, hm, _, _, q⟩ := of_decide_eq_true h
      exact List.any_eq_true.mpr ⟨z, hm, q⟩
    · intro h
      obtain ⟨z, hm, q⟩ := List.any_eq_true.mp h
      obtain ⟨j, hj⟩ := List.getElem?_of_mem hm
      obtain ⟨c, hc, rc⟩ := rs.get hj
      obtain ⟨w, hw, rw'⟩ := rv.get hc
      obtain ⟨hl, ew⟩ := List.getElem?_eq_some_iff.mp hw
      refine ⟨j, by simpa using hl, decide_eq_true ⟨z, c, hm, ?_, rc, q⟩⟩
      simpa [ew] using rw'
theorem op_inN {n : Nat} (hu : X.A.units + (n + 1) < cLine) : OpR X (compareOp .In) (rInN X.K n) := by
  intro pins s σ H x y v u Q I rx ry h
  rcases h with ⟨H0, d, ds, sm, rd, ⟨l, vs, rfl, hs, rr⟩, hd, hds, q⟩ | ⟨H0, d, ds, sm, rd, ⟨l, vs, rfl, hs, rr⟩, hd, hds, q⟩ | h
  · obtain ⟨its, rv, hp, _⟩ := I.list (sm.seq hs)
    cases ry
    obtain ⟨f, h1, h2⟩ := in_fun I hu hd hds (Rep.mono sm _ _ rd) (Reps.mono sm _ _ rr) rx rv
    exact SeqAt.in_listAt f hp.isList h1 ⟨.bl _, H, I, rfl, h2 ▸ q⟩
  · obtain ⟨its, rv, hp, _⟩ := I.tuple (sqt_mono sm hs)
    cases ry
    obtain ⟨f, h1, h2⟩ := in_fun I hu hd hds (Rep.mono sm _ _ rd) (Reps.mono sm _ _ rr) rx rv
    exact SeqAt.in_tupleAt f (show s.heap.IsTuple l its.toArray from hp) h1 ⟨.bl _, H, I, rfl, h2 ▸ q⟩
  · exact op_in_sign pins s σ H x y v u Q I rx ry h
theorem op_notInN {n : Nat} (hu : X.A.units + (n + 1) < cLine) : OpR X (compareOp .NotIn) (rNotInN X.K n) := by
  intro pins s σ H x y v u Q I rx ry h
  rcases h with ⟨H0, d, ds, sm, rd, ⟨l, vs, rfl, hs, rr⟩, hd, hds, q⟩ | ⟨H0, d, ds, sm, rd, ⟨l, vs, rfl, hs, rr⟩, hd, hds, q⟩ | h
  · obtain ⟨its, rv, hp, _⟩ := I.list (sm.seq hs)
    cases ry
    obtain ⟨f, h1, h2⟩ := in_fun I hu hd hds (Rep.mono sm _ _ rd) (Reps.mono sm _ _ rr) rx rv
    exact SeqAt.notIn_listAt f hp.isList h1 ⟨.bl _, H, I, rfl, h2 ▸ q⟩
  · obtain ⟨its, rv, hp, _⟩ := I.tuple (sqt_mono sm hs)
    cases ry
    obtain ⟨f, h1, h2⟩ := in_fun I hu hd hds (Rep.mono sm _ _ rd) (Reps.mono sm _ _ rr) rx rv
    exact SeqAt.notIn_tupleAt f (show s.heap.IsTuple l its.toArray from hp) h1 ⟨.bl _, H, I, rfl, h2 ▸ q⟩
  · obtain ⟨c, z, e1, e2, q⟩ := h
    exact op_notIn_sign pins s σ H x y v u Q I rx ry ⟨c, z, e1, e2, q⟩
def dNotInN (n : Nat) (x y : D) (Q : D → Prop) : Prop := dInN n x y fun z => match z with
  | .bl b => Q (.bl (!b))
  | _ => False
theorem s_inN {n : Nat} : SimR2 K (rInN K n) (dInN n) := fun H0 H x y dx dy sm rx ry Qd h Q q => by
  unfold dInN at h
  split at h
  · exact .inl ⟨H0, dx, _, sm, rx, ry, h.1, h.2.1, q (.bl _) _ H0 H (.refl sm) rfl h.2.2⟩
  · exact .inr (.inl ⟨H0, dx, _, sm, rx, ry, h.1, h.2.1, q (.bl _) _ H0 H (.refl sm) rfl h.2.2⟩)
  · obtain ⟨c, rfl, h⟩ := h
    exact .inr (.inr ⟨c, _, rx, ry, q (.bl _) _ H0 H (.refl sm) rfl h⟩)
  · exact h.elim
theorem s_notInN {n : Nat} : SimR2 K (rNotInN K n) (dNotInN n) := fun H0 H x y dx dy sm rx ry Qd h Q q => by
  unfold dNotInN at h
  refine s_inN H0 H x y dx dy sm rx ry _ h _ fun z v H0' H' g r k => ?_
  cases z with
  | bl b =>
    cases (show v = _ from r)
    exact q (.bl (!b)) _ H0' H' g rfl k
  | _ => exact k.elim
abbrev dIn := dInN 100
abbrev dNotIn := dNotInN 100
theorem room101 {k : Nat} (hr : Room k X.A) : X.A.units + (100 + 1) < cLine := by have := hr.un; omega
theorem e_in {k : Nat} (hr : Room k X.A) (ha : JE X Ed E a ta da) (hb : JE X Ed E b tb db) (hm : behindInMarks .In b = false := by rfl) : JE X Ed E (.Compare a [.In] [b] pos) (tOp (rInN X.K 100) ta tb) (dOp dIn da db) := e_cmp (op_inN (room101 hr)) s_inN ha hb hm
theorem e_notIn {k : Nat} (hr : Room k X.A) (ha : JE X Ed E a ta da) (hb : JE X Ed E b tb db) (hm : behindInMarks .NotIn b = false := by rfl) : JE X Ed E (.Compare a [.NotIn] [b] pos) (tOp (rNotInN X.K 100) ta tb) (dOp dNotIn da db) := e_cmp (op_notInN (room101 hr)) s_notInN ha hb hm
theorem t_in {k : Nat} (hr : Room k X.A) (ha : JE X Ed E a ta da) (hb : JE X Ed E b tb db) (hm : behindInMarks .In b = false := by rfl) : JT X Ed E (.Compare a [.In] [b] pos) (tB (tOp (rInN X.K 100) ta tb)) (dB (dOp dIn da db)) := t_cmp (op_inN (room101 hr)) s_inN ha hb hm
theorem t_notIn {k : Nat} (hr : Room k X.A) (ha : JE X Ed E a ta da) (hb : JE X Ed E b tb db) (hm : behindInMarks .NotIn b = false := by rfl) : JT X Ed E (.Compare a [.NotIn] [b] pos) (tB (tOp (rNotInN X.K 100) ta tb)) (dB (dOp dNotIn da db)) := t_cmp (op_notInN (room101 hr)) s_notInN ha hb hm
/-- a slice of a text -/
def dSlS (x : D) (lo hi : Option Int) (Q : D → Prop) : Prop := match x with
  | .str z => z.length ≤ sizeLine ∧ Q (.str (cutS z lo hi))
  | _ => False
theorem s_slS : SimSl K rSlS dSlS := by
  intro H0 H x dx lo hi sm rx Qd h Q q
  unfold dSlS at h
  split at h
  · exact ⟨_, rx, h.1, q (.str _) _ H0 H (.refl sm) rfl h.2⟩
  · exact h.elim
theorem e_slS {lo hi : Option Expr} {tl th : TO} {dl dh : DO} {p2 : Pos} (he : JE X Ed E e te de) (hl : JO X Ed E lo tl dl) (hu : JO X Ed E hi th dh) : JE X Ed E (.Subscript e (.Slice lo hi none p2) pos) (tSl rSlS te tl th) (dSl dSlS de dl dh) :=
  e_slice sl_str s_slS he hl hu
/-- a constant of the module that is data -/
structure CD (K : PySem.W.Frag) (mg : Str → Option Value) (x : Str) (d : D) : Prop where
  ex : ∃ (v : V) (u : Value), mg x = some u ∧ RelV v u ∧ ∀ H, Rep K H d v
theorem e_cD {x : Str} {d : D} (h : CD X.K X.mg x d) (hg : Gl X x := by rfl) (hd : (x == ("__debug__" : Str)) = false := by decide) : JE X Ed E (.Name x pos) (tC (Classical.choose h.ex)) (dC d) := by
  obtain ⟨u, h1, h2, h3⟩ := Classical.choose_spec h.ex
  exact e_glob hg h1 h2 h3 hd
end
/-- a written tuple is data -/
theorem rep_tupK {K : PySem.W.Frag} {H : Hp} {T : Addr} {o : Obj} {its : Array Value} {m : Nat} {ds : List D} {vs : List V} (l : K.lookup T = some o) (c : o.cls = .type "tuple") (d : o.data = .seq its m) (hl : its.size ≤ sizeLine) (rv : Vals vs its.toList) (r : Reps K H ds vs) : Rep K H (.tup ds) (.ref T) :=
  ⟨T, vs, rfl, .inr ⟨o, its, m, l, c, d, hl, rv⟩, r⟩
end DL

namespace DL
open PySem PySem.Spec PyProof.Rows L2
/-! ### cls(..): a class held by a name; a list taken apart; C(k = v, ..) -/
section
variable {X : Cx} {Ed : DX → Prop} {E : XK} {K : PySem.W.Frag} {pos p apos : Pos} {a b e o : Expr} {es : List Expr} {te ta tb to : TE} {de da db dob : DE} {tal : TA} {dal : DA} {C : Addr} {wp : WpI} {k i : Nat} {x : Str}
def tMakeV (i : Nat) (C : Addr) (sp : Sp) (dvs : List V) (E : XK) (t : TA) : TE := fun σ H Q => σ[i]? = some (some (.ref C)) ∧ tMake C sp dvs E t σ H Q
theorem pe_makeV {CX : CXT} {f : Addr} {fd : FuncData} {ps : List Str} {sp : Sp} {ds : List Value} {dvs : List V} {t : TA} (M : Mk X.K C f) (F : FnOk X.prog X.w X.K X.mg X.base CX k f fd ps sp) (hr : Room (k + 1) X.A) (hN : X.N[i]? = some x) (hv : Vis X.env.scope x) (hb : Binds X.K fd ps ds) (hd : Vals dvs ds) (hx : Passes CX X E)
    (ha : PA X (e :: es) t) (hdb : (x == ("__debug__" : Str)) = false := by decide) (hcd : (x == ("__classdict__" : Str)) = false := by decide) (he : starEach (e :: es) X.env = (false, eval e X.env) :: starEach es X.env := by rfl) (hpl : (backTo pos (starEach es X.env)).any (·.1) = false := by rfl) :
    PE X (.Call (.Name x p) (e :: es) [] pos) (tMakeV i C sp dvs E t) := by
  refine ⟨fun pins s σ H Q I h => ?_⟩
  obtain ⟨hs, ht⟩ := h
  refine wpAny_Call_Name_kw (thn ((pe_var (pos := p) hN hv hdb hcd).run pins s σ H (fun v H1 => v = .ref C ∧ H1 = H) I ⟨.ref C, hs, rfl, rfl⟩) fun u s1 ⟨v, H1, I1, r1, q1⟩ => ?_)
  obtain ⟨rfl, rfl⟩ := q1
  cases r1
  refine PySem.W.callWith_K (h₀ := X.base) I.ok.mod.kin M.kp (thn (ha.run pos pins s1 σ _ _ I1 ht) fun us s2 ⟨vs, H2, I2, r, q⟩ => ⟨I2.kIn, ?_⟩) he hpl
  exact run_make M F hr hb hd hx I2 r q
theorem pe_makeV0 {CX : CXT} {f : Addr} {fd : FuncData} {ps : List Str} {sp : Sp} {ds : List Value} {dvs : List V} (M : Mk X.K C f) (F : FnOk X.prog X.w X.K X.mg X.base CX k f fd ps sp) (hr : Room (k + 1) X.A) (hN : X.N[i]? = some x) (hv : Vis X.env.scope x) (hb : Binds X.K fd ps ds) (hd : Vals dvs ds) (hx : Passes CX X E)
    (hdb : (x == ("__debug__" : Str)) = false := by decide) (hcd : (x == ("__classdict__" : Str)) = false := by decide) : PE X (.Call (.Name x p) [] [] pos) (tMakeV i C sp dvs E tNil) := by
  refine ⟨fun pins s σ H Q I h => ?_⟩
  obtain ⟨hs, ht⟩ := h
  refine wpAny_Call_Name_kw (thn ((pe_var (pos := p) hN hv hdb hcd).run pins s σ H (fun v H1 => v = .ref C ∧ H1 = H) I ⟨.ref C, hs, rfl, rfl⟩) fun u s1 ⟨v, H1, I1, r1, q1⟩ => ?_)
  obtain ⟨rfl, rfl⟩ := q1
  cases r1
  exact PySem.W.callWith_K0 I1.kIn M.kp (run_make (us := []) M F hr hb hd hx I1 .nil ht)
def dMakeV (i : Nat) (C : Addr) (wp : WpI) (dd : List D) (Ed : DX → Prop) (da : DA) (ρ : Rho) (Q : D → Prop) : Prop := lk i ρ = some (.d (.cls C)) ∧ dMake C wp dd Ed da ρ Q
theorem sim_makeV {dvs : List V} {dd : List D} (hd : ∀ H, Reps K H dd dvs) (ha : SimA K Ed E tal dal) : SimE K Ed E (tMakeV i C (SpI K C wp) dvs E tal) (dMakeV i C wp dd Ed dal) := fun B0 B1 A H0 H σ ρ R X Qd h Q q => by
  obtain ⟨hl, h⟩ := h
  obtain ⟨v, e1, _, u, e2, r⟩ := R.slot i _ (lk_some hl)
  subst e2
  cases (show u = _ from r)
  exact ⟨e1, sim_make hd ha B0 B1 A H0 H σ ρ R X Qd h Q q⟩
theorem e_makeV {y : Str} {dvs : List V} {dd : List D} (i : Nat) (M : Maker X.prog X.w X.K X.mg X.base y C k wp dvs dd) (hr : Room (k + 1) X.A) (hx : Passes (L2.CX X.prog X.w) X E) (ha : JA X Ed E (e :: es) tal dal) (hN : X.N[i]? = some x := by rfl) (hv : Vis X.env.scope x := by first | exact Or.inl rfl | exact Or.inr (Or.inl rfl) | exact Or.inr (Or.inr rfl))
    (hdb : (x == ("__debug__" : Str)) = false := by decide) (hcd : (x == ("__classdict__" : Str)) = false := by decide) (he : starEach (e :: es) X.env = (false, eval e X.env) :: starEach es X.env := by rfl) (hpl : (backTo pos (starEach es X.env)).any (·.1) = false := by rfl) :
    JE X Ed E (.Call (.Name x p) (e :: es) [] pos) (tMakeV i C (SpI X.K C wp) dvs E tal) (dMakeV i C wp dd Ed dal) := by
  obtain ⟨f, fd, ps, ds, h1, h2, h3, h4, h5, h6⟩ := M.ex
  exact ⟨pe_makeV h2 h3 hr hN hv h4 h5 hx ha.pe hdb hcd he hpl, sim_makeV h6 ha.sim⟩
theorem e_makeV0 {y : Str} {dvs : List V} {dd : List D} (i : Nat) (M : Maker X.prog X.w X.K X.mg X.base y C k wp dvs dd) (hr : Room (k + 1) X.A) (hx : Passes (L2.CX X.prog X.w) X E) (hN : X.N[i]? = some x := by rfl) (hv : Vis X.env.scope x := by first | exact Or.inl rfl | exact Or.inr (Or.inl rfl) | exact Or.inr (Or.inr rfl))
    (hdb : (x == ("__debug__" : Str)) = false := by decide) (hcd : (x == ("__classdict__" : Str)) = false := by decide) :
    JE X Ed E (.Call (.Name x p) [] [] pos) (tMakeV i C (SpI X.K C wp) dvs E tNil) (dMakeV i C wp dd Ed dNil) := by
  obtain ⟨f, fd, ps, ds, h1, h2, h3, h4, h5, h6⟩ := M.ex
  exact ⟨pe_makeV0 h2 h3 hr hN hv h4 h5 hx hdb hcd, sim_makeV h6 sim_nil⟩
/-- a list taken apart -/
def dgLst (t : DGs) (x : D) (ρ : Rho) (Q : Rho → Prop) : Prop := match x with
  | .lst xs => t xs ρ Q
  | _ => False
theorem g_lst {gs : TGs} {dgs : DGs} {k : Nat} {n : Nat} (hc : X.calm = true) (h : JGs X es gs dgs) (hd : ∀ xs ρ Q, dgs xs ρ Q → xs.length = n)
    (hn : (assignEach es X.env).length = n := by rfl) (hst : (assignEach es X.env).findIdx? (·.1) = none := by rfl) : JG X (.Tuple es k pos) (gUnl X.K n gs) (dgLst dgs) := ⟨pg_unl hc h.pe hn hst, fun B0 B1 A H0 H σ ρ x v R r Qd hq Q q => by
  unfold dgLst at hq
  split at hq
  · obtain ⟨l, vs, rfl, hs, r1⟩ := r
    exact ⟨l, vs, rfl, R.ex.seq hs, by rw [r1.length]; exact hd _ _ _ hq, h.sim B0 B1 A H0 H σ ρ _ vs R r1 Qd hq Q q⟩
  · exact hq.elim⟩
/-- keywords' values -/
structure JK (X : Cx) (Ed : DX → Prop) (E : XK) (kws : List Keyword) (t : TA) (d : DA) : Prop where
  pe : PK X kws t
  sim : SimA X.K Ed E t d
theorem k_nil : JK X Ed E [] tNil dNil := ⟨pk_nil, sim_nil⟩
theorem k_cons {nm : Option Str} {kpos : Pos} {kws : List Keyword} (ha : JE X Ed E e ta da) (hr : JK X Ed E kws tal dal) : JK X Ed E (⟨nm, e, kpos⟩ :: kws) (tCons ta tal) (dCons da dal) := ⟨pk_cons ha.pe hr.pe, sim_cons ha.sim hr.sim⟩
/-- C(k = v, ..), no other arguments: gd puts them in the parameters' order -/
structure MakerK (P : Program) (w : World) (K : PySem.W.Frag) (mg : Str → Option Value) (base : Heap) (x : Str) (C : Addr) (k : Nat) (wp : WpI) (ks : List Str) (gV : List V → List V → List V) (gd : List D → List D) : Prop where
  ex : ∃ (f : Addr) (fd : FuncData) (ps : List Str) (g : List Value → List Value → List Value), mg x = some (.ref C) ∧ Mk K C f ∧ FnOk P w K mg base (L2.CX P w) k f fd ps (SpI K C wp) ∧ KBn K fd ps 1 ks g gV ∧
    ∀ (H : Hp) (y : Addr) (ds : List D) (zs : List V), ds.length = ks.length → Reps K H ds zs → ∃ ws, gV [.ref y] zs = .ref y :: ws ∧ Reps K H (gd ds) ws
def dMakeK (C : Addr) (n : Nat) (wp : WpI) (gd : List D → List D) (Ed : DX → Prop) (da : DA) (ρ : Rho) (Q : D → Prop) : Prop := da ρ fun ds => ds.length = n ∧ wp (gd ds) (fun fs => Q (.ins C fs)) Ed
theorem e_makeK {kws : List Keyword} {ks : List Str} {gV : List V → List V → List V} {gd : List D → List D} (M : MakerK X.prog X.w X.K X.mg X.base x C k wp ks gV gd) (hr : Room (k + 1) X.A) (hx : Passes (L2.CX X.prog X.w) X E) (ha : JK X Ed E kws tal dal) (hg : Gl X x := by rfl)
    (hall : (backToKw pos (keywordEach kws X.env)).all (·.1.isSome) = true := by rfl) (hks : (backToKw pos (keywordEach kws X.env)).filterMap (·.1) = ks := by rfl)
    (hdb : (x == ("__debug__" : Str)) = false := by decide) (hpl : ((backTo pos (starEach [] X.env)).any (·.1) || (backToKw pos (keywordEach kws X.env)).any (·.1.isNone)) = false := by rfl) :
    JE X Ed E (.Call (.Name x p) [] kws pos) (tMakeK C 0 ks.length (SpI X.K C wp) gV E tNil tal) (dMakeK C ks.length wp gd Ed dal) := by
  obtain ⟨f, fd, ps, g, h1, h2, h3, h4, h5⟩ := M.ex
  refine ⟨pe_makeK0 (E := E) h2 h3 hr hg h1 h4 hx ha.pe hall hks hdb hpl, ?_⟩
  intro B0 B1 A H0 H σ ρ R Xr Qd h Q q
  refine ha.sim B0 B1 A H0 H σ ρ R Xr _ h _ fun ds zs H1 H2 R1 g1 r1 k1 => ?_
  obtain ⟨hn, k1⟩ := k1
  refine ⟨rfl, r1.length.trans hn, fun x dx nx ndx nex => ?_⟩
  obtain ⟨ws, e1, r2⟩ := h5 H1 x ds zs hn r1
  have n0 : H1 x = none := R1.ex.free nx
  have sub : Same H2 (wo (upd (upd H2 dx (.own x)) x (.ins C dx [])) x) := fun b o e => by
    have bx : b ≠ x := ne_of_none e nx
    rw [wo_ne bx, upd_ne bx, upd_ne (ne_of_none e ndx)]
    exact e
  have sm2 : Same H1 (upd (upd H2 dx (.own x)) x (.ins C dx [])) := (R1.ex.trans sub).trans wo_sub
  show SpI X.K C wp (gV [.ref x] zs) _ _ _
  rw [e1]
  refine ⟨x, dx, ws, H1, gd ds, _, Ed, rfl, upd_same, n0, sm2, r2, k1, fun fs dx' fvs H0' H' g n' hx' rf hq => ⟨rfl, ?_⟩, Xr.grow fun H0' H' g => ?_⟩
  · have gx : Grow H1 H2 (upd H0' x (.ins C dx' fvs)) H' := ⟨g.g0.trans (same_upd n'), sub.trans g.g1, fun b o e => by
        by_cases hb : b = x
        · subst hb
          rw [upd_same] at e
          cases e
          exact hx'
        · rw [upd_ne hb] at e
          exact g.g2 b o e, fun p hp => by
        have px : p ≠ x := fun z => hp (by rw [z]; exact nx)
        rw [upd_ne px]
        exact g.nw p (ne_none_of sub hp)⟩
    exact q (.ins C fs) (.ref x) _ H' (R1.grow gx) (g1.trans gx) ⟨x, dx', fvs, rfl, upd_same, Repf.mono (same_upd n') _ _ rf⟩ hq
  · exact R1.gr.trans ⟨g.g0, sub.trans g.g1, g.g2, fun p hp => g.nw p (ne_none_of sub hp)⟩
end
end DL

namespace DL
open PySem PySem.Spec PyProof.Rows L2 PySem.W PySem.Builtin
/-! ### x != y by the class's own == -/
section
variable {prog : Program} {w : World} {A : Around} {E : Value → Shared → Prop} {s : Shared} {K : Frag} {x C L f : Addr} {h₀ : Heap} {m : Str → Option Value} {ox : Obj} {od : Option Obj} {b tb : Value}
theorem ifBound_B {M : Model} {name : Str} {id : String} {args : List Value} {Q : Option Value → Shared → Prop} (X : K.In s.heap) (I : InstAt s.heap x ox C od) (hs : findIn K (.ref C) name = some (some (.builtin id))) (S : PySem.Slot "object" name id)
    (h : wpAny M A (call (.builtin id) (.ref x :: args)) (fun v => Q (some v)) E s) : wpAny M A (callSpecialIfBound? (.ref x) name args) Q E s := by
  simp only [callSpecialIfBound?, bindSpecialIfBound?]
  refine wpAny_holding (wpAny_bind (wpAny_bind (wpAny_bind (I.type.here ((looks_findIn X hs).here ?_)))))
  simp only [S.bind]
  refine wpAny_bind (wpAny_askSetting (wpAny_ite ?_))
  have fin : wpAny M A (call (.builtin id) ([.ref x] ++ args) >>= fun v => pure (some v)) Q E s := wpAny_bind (wpAny_mono h (fun v s' h' => wpAny_pure h') fun _ _ h' => h')
  split
  · exact wpAny_bind (wpAny_pure (wpAny_pure fin))
  · exact wpAny_tryCatch (wpAny_bind (wpAny_pure (wpAny_pure fin)))
theorem ne_entry (hu : A.units < cLine) (X : K.In s.heap) (I : InstAt s.heap x ox C od) (hs : findIn K (.ref C) "__eq__" = some (some (.ref f))) (hf : isFn K (.ref f) = true) {Q : Fin → Shared → Prop}
    (hcall : wpAny (model prog w) A (call (.ref f) [.ref x, b]) (fun v s' => ∃ c, v = .bool c ∧ Q (.done (.ret (.bool (!c)))) s') E s) :
    wpAny (model prog w) A (Builtin.«object.__ne__» ⟨[.ref x, b], []⟩) Q E s := by
  unfold Builtin.«object.__ne__»
  repeat (first
    | with_reducible refine wpAny_cRoomFor hu ?_
    | (refine wpAny_bind (m := callSpecialIfBound? (.ref x) (Str.ofString "__eq__") [b])
        (ifBound_K X I hs hf (wpAny_mono hcall (fun r s' hr => by
          obtain ⟨c, rfl, hq⟩ := hr
          repeat (first | exact hq | exact wpAny_pure hq | exact wpAny_truthy_bool hq | (refine wpAny_bind (m := truthy (.bool _)) (wpAny_truthy_bool ?_)) | wp_step)) fun _ _ e => e)))
    | wp_step)
theorem ne_K {Q : Value → Shared → Prop} (hu : A.units + 1 < cLine) (Fr0 : Fr h₀ L s.heap m) (X₀ : K.In h₀) (I : InstAt s.heap x ox C od) (hb : Looks (model prog w) s.heap (typeOf b) tb) (hn : notFirst K C tb = true)
    (hne : findIn K (.ref C) "__ne__" = some (some (.builtin "object.__ne__"))) (hs : findIn K (.ref C) "__eq__" = some (some (.ref f))) (hf : isFn K (.ref f) = true) (ho : mroIn K C (.type "object") = some true)
    (h : wpAny (model prog w) A.in1 (call (.ref f) [.ref x, b]) (fun v s' => ∃ c, v = .bool c ∧ Q (.bool (!c)) s') E s) : wpAny (model prog w) A (richCompare .NotEq (.ref x) b) Q E s := by
  have X := X₀.keeps Fr0.keep
  have sub : Looks (model prog w) s.heap (isInstance (.ref x) (.type "object")) true := I.type.andThen (looks_mroIn X ho)
  have one : wpAny (model prog w) A (tryCompare (.ref x) "__ne__" b) (fun r s' => ∃ v, r = some v ∧ Q v s') E s := by
    unfold tryCompare
    refine wpAny_bind (ifBound_B X I hne PySem.F.cmp_object.ne (wpAny_call (codeAny_call_builtin PySem.F.cmp_object.ne.plain PySem.F.cmpEntry_ne
      (check_slot PySem.F.cmpKind_ne PySem.F.cmpSplit_ne sub (PySem.F.cmpArgs_ne _ _) (ne_entry (A := A.in1) (by show A.units + 1 < cLine; exact hu) X I hs hf (wpAny_mono h (fun v s' hv => ?_) fun _ _ e => e))))))
    obtain ⟨c, rfl, hq⟩ := hv
    first | exact ⟨c, rfl, wpAny_pure ⟨_, rfl, hq⟩⟩ | exact ⟨c, rfl, wpAny_pure (wpAny_pure ⟨_, rfl, hq⟩)⟩
  unfold richCompare
  simp only [oneThing_ref]
  refine wpAny_holding (wpAny_bind (wpAny_cRoomFor (Nat.lt_of_succ_lt hu) ?_))
  rw [cmpInfo_NotEq]
  refine wpAny_bind (I.type.here (wpAny_bind (hb.here ?_)))
  split
  · rename_i q
    have e : subIn K tb (.ref C) = some false := by
      rcases Bool.or_eq_true_iff.mp hn with e | e
      · rw [beq_iff_eq.mp e] at q; simp at q
      · exact beq_iff_eq.mp e
    refine wpAny_bind ((looks_subIn X e).here ?_)
    simp only [Bool.false_eq_true, if_false]
    refine wpAny_bind (wpAny_mono one (fun r s' z => ?_) fun _ _ e => e)
    obtain ⟨v, rfl, hq⟩ := z
    exact wpAny_pure hq
  · refine wpAny_bind (wpAny_pure ?_)
    simp only [Bool.false_eq_true, if_false]
    refine wpAny_bind (wpAny_mono one (fun r s' z => ?_) fun _ _ e => e)
    obtain ⟨v, rfl, hq⟩ := z
    exact wpAny_pure hq
end
section
variable {X : Cx} {Ed : DX → Prop} {E : XK} {K : PySem.W.Frag} {pos : Pos} {a b : Expr} {ta tb : TE} {da db : DE} {k : Nat} {C : Addr} {wp : Wp}
def rOwnNe (C : Addr) (sp : Sp) (E : XK) : R2 := fun x y H Q => (∃ l m dx dy fs gs, x = .ref l ∧ y = .ref m ∧ H l = some (.ins C dx fs) ∧ H m = some (.ins C dy gs)) ∧ sp [x, y] H (fun v H' => ∃ c, v = .bl c ∧ Q (.bl (!c)) H') E
theorem own_ne {sp : Sp} {f : Addr} {fd : FuncData} {ps : List Str} (F : FnOk X.prog X.w X.K X.mg X.base (L2.CX X.prog X.w) k f fd ps sp) (hr : Room (k + 1) X.A) (hb : Binds X.K fd ps [])
    (hne : findIn X.K (.ref C) "__ne__" = some (some (.builtin "object.__ne__"))) (hs : findIn X.K (.ref C) "__eq__" = some (some (.ref f))) (hf : isFn X.K (.ref f) = true) (ho : mroIn X.K C (.type "object") = some true) (hx : Passes (L2.CX X.prog X.w) X E) : OpR X (compareOp .NotEq) (rOwnNe C sp E) := by
  intro pins s σ H x y v u Q I rx ry q
  obtain ⟨⟨l, m, dx, dy, fs, gs, rfl, rfl, hl, hm⟩, h⟩ := q
  cases rx
  cases ry
  obtain ⟨_, J1, _⟩ := ins_get I.hok hl
  obtain ⟨_, J2, _⟩ := ins_get I.hok hm
  obtain ⟨_, J1, _⟩ := J1.look
  obtain ⟨_, J2, _⟩ := J2.look
  obtain ⟨_, hF⟩ := I.fr
  have r1 : Room k X.A.in1 := hr.in1
  show wpAny _ _ (richCompare .NotEq _ _) _ _ _
  refine ne_K (tb := .ref C) (by have := hr.un; omega) hF I.ok.mod.kin J1 J2.type (by simp [PySem.W.notFirst]) hne hs hf ho ?_
  have e0 : Env0 X.prog X.w X.K X.mg X.base X.A.in1 X.stack s H := by
    have e := I.env0
    exact ⟨e.frames, e.mod, e.bs, e.bsz, e.funs, e.frf, e.hok, e.bare⟩
  have hlen := F.len _ _ _ _ h
  have r2 : Vals [V.ref l, V.ref m] [Value.ref l, Value.ref m] := .cons rfl (.cons rfl .nil)
  refine wpAny_call (codeAny_mono (F.run X.A.in1 X.stack s H ⟨[.ref l, .ref m], []⟩ [.ref l, .ref m] [.ref l, .ref m] _ E r1 e0 (by
    have := hb s [.ref l, .ref m] I.kIn (by simpa using hlen)
    simpa using this) r2 h) fun r s' hq => ?_)
  cases r with
  | error e => exact hx pins σ H s e s' I hq
  | ok fl =>
    cases fl with
    | ret w =>
      obtain ⟨z, H', I', rz, c, ez, q⟩ := I.after hq
      subst ez
      cases rz
      exact ⟨c, rfl, .bl (!c), H', I', rfl, q⟩
    | next => exact False.elim hq
    | brk => exact False.elim hq
    | cont => exact False.elim hq
def dOwnNe (C : Addr) (wp : Wp) (Ed : DX → Prop) (da db : DE) (ρ : Rho) (Q : D → Prop) : Prop := da ρ fun x => db ρ fun y => match x, y with
  | .ins C1 f1, .ins C2 f2 => C1 = C ∧ C2 = C ∧ wp [.ins C1 f1, .ins C2 f2] (fun z => ∃ c, z = .bl c ∧ Q (.bl (!c))) Ed
  | _, _ => False
theorem sim_ownNe (ha : SimE K Ed E ta da) (hb : SimE K Ed E tb db) : SimE K Ed E (tOp (rOwnNe C (SpW K wp) E) ta tb) (dOwnNe C wp Ed da db) := fun B0 B1 A H0 H σ ρ R X Qd h Q q =>
  ha B0 B1 A H0 H σ ρ R X _ h _ fun x v H1 H2 R1 g1 r1 k1 => hb B0 B1 A H1 H2 σ ρ R1 X _ k1 _ fun y u H3 H4 R2 g2 r2 k2 => by
    split at k2
    · obtain ⟨rfl, rfl, k2⟩ := k2
      have r1' := Rep.mono g2.g0 _ _ r1
      have rr : Reps K H3 [.ins _ _, .ins _ _] [v, u] := ⟨v, [u], rfl, r1', u, [], rfl, r2, rfl⟩
      obtain ⟨l, dx, fvs, rfl, hl, rf⟩ := r1'
      obtain ⟨m, dy, gvs, rfl, hm, rg⟩ := r2
      refine ⟨⟨l, m, dx, dy, fvs, gvs, rfl, rfl, R2.ex _ _ hl, R2.ex _ _ hm⟩, sp_of R2 X rr k2 fun x v H5 H6 R3 g3 r3 k3 => ?_⟩
      obtain ⟨c, rfl, k3⟩ := k3
      cases (show v = _ from r3)
      exact ⟨c, rfl, q (.bl (!c)) _ H5 H6 R3 ((g1.trans g2).trans g3) rfl k3⟩
    · exact k2.elim
structure CmrNe (P : Program) (w : World) (K : PySem.W.Frag) (mg : Str → Option Value) (base : Heap) (C : Addr) (k : Nat) (wp : Wp) : Prop where
  ex : ∃ (f : Addr) (fd : FuncData) (ps : List Str), findIn K (.ref C) "__ne__" = some (some (.builtin "object.__ne__")) ∧ findIn K (.ref C) "__eq__" = some (some (.ref f)) ∧ PySem.W.isFn K (.ref f) = true ∧ mroIn K C (.type "object") = some true ∧ FnOk P w K mg base (L2.CX P w) k f fd ps (SpW K wp) ∧ Binds K fd ps []
theorem e_ownNe (M : CmrNe X.prog X.w X.K X.mg X.base C k wp) (hr : Room (k + 1) X.A) (hx : Passes (L2.CX X.prog X.w) X E) (ha : JE X Ed E a ta da) (hb : JE X Ed E b tb db) (hm : behindInMarks .NotEq b = false := by rfl) : JE X Ed E (.Compare a [.NotEq] [b] pos) (tOp (rOwnNe C (SpW X.K wp) E) ta tb) (dOwnNe C wp Ed da db) := by
  obtain ⟨f, fd, ps, h1, h2, h3, h4, h5, h6⟩ := M.ex
  exact ⟨pe_cmpR (own_ne h5 hr h6 h1 h2 h3 h4 hx) ha.pe hb.pe hm, sim_ownNe ha.sim hb.sim⟩
end
section
/-- keywords in another order, all of them given -/
theorem kbX {K : Frag} {x qual : Str} {st : Stmt} {kV doc pm : Value} {an : Option Addr} {cdv ct : Value} {ps ks : List Str} {T : Addr} {o : Obj} {its : List Value} {m : Nat} (n : Nat) (g : {α : Type} → List α → List α → List α) (lT : K.lookup T = some o) (oT : o.data = .seq its.toArray m)
    (hrel : ∀ {vs zs : List V} {us ws : List Value}, Vals vs us → Vals zs ws → Vals (g vs zs) (g us ws))
    (h : ∀ us ws : List Value, us.length = n → ws.length = ks.length → ∃ k, bindArgs (PySem.W.fnOf x qual (defArgs st) (defBody st) (defScope st) (.ref T) kV doc pm an cdv ct) ⟨us, ks.zip ws⟩ = seqItems? (.ref T) >>= k ∧ k (some its.toArray) = pure (ps.zip (g us ws))) :
    KBn K (PySem.W.fnOf x qual (defArgs st) (defBody st) (defScope st) (.ref T) kV doc pm an cdv ct) ps n ks g g := by
  refine ⟨fun s us ws X l1 l2 => ?_, fun r1 r2 => hrel r1 r2⟩
  obtain ⟨k, e1, e2⟩ := h us ws l1 l2
  refine BindsTo.of_looks fun M => ?_
  rw [e1]
  exact looks_items X lT oT (.of_pure e2)
/-- Move(mirrored=, turns=, dy=, dx=) -/
def kwMove {α : Type} : List α → List α → List α
  | [s], [m, t, y, x] => [s, x, y, t, m]
  | _, _ => []
def kwMoveD : List D → List D
  | [m, t, y, x] => [x, y, t, m]
  | _ => []
theorem kwMove_rel {vs zs : List V} {us ws : List Value} (r1 : Vals vs us) (r2 : Vals zs ws) : Vals (kwMove vs zs) (kwMove us ws) := by
  cases r1 with
  | nil => exact .nil
  | cons a r1 =>
    cases r1 with
    | cons _ _ => exact .nil
    | nil =>
      cases r2 with
      | nil => exact .nil
      | cons b r2 =>
        cases r2 with
        | nil => exact .nil
        | cons c r2 =>
          cases r2 with
          | nil => exact .nil
          | cons d r2 =>
            cases r2 with
            | nil => exact .nil
            | cons e r2 =>
              cases r2 with
              | nil => exact .cons a (.cons e (.cons d (.cons c (.cons b .nil))))
              | cons _ _ => exact .nil
theorem kwMove_rep {K : Frag} (H : Hp) (y : Addr) (ds : List D) (zs : List V) (hl : ds.length = 4) (r : Reps K H ds zs) : ∃ ws, kwMove [.ref y] zs = .ref y :: ws ∧ Reps K H (kwMoveD ds) ws := by
  obtain ⟨a, b, c, d, rfl⟩ : ∃ a b c d, ds = [a, b, c, d] := by
    match ds, hl with
    | [a, b, c, d], _ => exact ⟨a, b, c, d, rfl⟩
  obtain ⟨v1, _, rfl, r1, v2, _, rfl, r2, v3, _, rfl, r3, v4, _, rfl, r4, e⟩ := r
  cases (show _ = _ from e)
  exact ⟨_, rfl, v4, _, rfl, r4, v3, _, rfl, r3, v2, _, rfl, r2, v1, _, rfl, r1, rfl⟩
end
end DL

namespace DL
open PySem PySem.Spec PyProof.Rows L2
/-! turned_point -/
def turnP (t m x y : Int) : Int × Int :=
  if t = 1 then (-y, if m = 1 then -x else x) else if t = 2 then (-(if m = 1 then -x else x), -y) else if t = 3 then (y, -(if m = 1 then -x else x)) else (if m = 1 then -x else x, y)
def wp_turned_point (ds : List D) (Q : D → Prop) (Ed : DX → Prop) : Prop := match ds with
  | [.int t, .int m, .tup [.int x, .int y]] => Q (.tup [.int (turnP t m x y).1, .int (turnP t m x y).2])
  | _ => False
/-! is_whole -/
def wp_is_whole (ds : List D) (Q : D → Prop) (Ed : DX → Prop) : Prop := match ds with
  | [.int _] => Q (.bl true)
  | [.bl _] => Q (.bl false)
  | [.str _] => Q (.bl false)
  | [.non] => Q (.bl false)
  | [.tup _] => Q (.bl false)
  | [.lst _] => Q (.bl false)
  | _ => False
/-! Move.__init__ -/
def moveF (x y t m : Int) : List (Str × D) := [("parts", .tup [.int x, .int y, .int t, .int m])]
def bI (b : Bool) : Int := if b then 1 else 0
/-- no part too great -/
def wp_Move_init (ds : List D) (Q : List (Str × D) → Prop) (Ed : DX → Prop) : Prop := match ds with
  | [.int x, .int y, .int t, .bl m] => (-1000000000000 ≤ x ∧ x ≤ 1000000000000 ∧ -1000000000000 ≤ y ∧ y ≤ 1000000000000) ∧ Q (moveF x y (t % 4) (bI m))
  | _ => False
/-! Move.place -/
def wp_Move_place (C : Addr) (ds : List D) (Q : D → Prop) (Ed : DX → Prop) : Prop := ∃ x y t m a b : Int, ds = [.ins C (moveF x y t m), .tup [.int a, .int b]] ∧ Q (.tup [.int ((turnP t m a b).1 + x), .int ((turnP t m a b).2 + y)])
/-! _law_small -/
def wp_small (ds : List D) (Q : D → Prop) (Ed : DX → Prop) : Prop := match ds with
  | [.bag] => ∀ n : Int, -1000003 ≤ n → n ≤ 1000003 → Q (.int n)
  | _ => False
/-! _law_parts -/
def wp_parts (ds : List D) (Q : D → Prop) (Ed : DX → Prop) : Prop := match ds with
  | [.bag] => ∀ x y t m : Int, -1000000000 ≤ x → x ≤ 10000000000 → -1000000000 ≤ y → y ≤ 1000000000 → 0 ≤ t → t < 4 → 0 ≤ m → m < 2 → Q (.tup [.int x, .int y, .int t, .int m])
  | _ => False
/-! _law_move -/
def wp_law_move (C : Addr) (ds : List D) (Q : D → Prop) (Ed : DX → Prop) : Prop := match ds with
  | [.tup [.int x, .int y, .int t, .int m]] => (-1000000000000 ≤ x ∧ x ≤ 1000000000000 ∧ -1000000000000 ≤ y ∧ y ≤ 1000000000000) ∧ Q (.ins C (moveF x y (t % 4) (bI (m == 1))))
  | _ => False
/-! _law_at -/
def wp_law_at (ds : List D) (Q : D → Prop) (Ed : DX → Prop) : Prop := match ds with
  | [.tup [.int x, .int y, .int t, .int m], .tup [.int a, .int b]] => (0 ≤ t ∧ t < 4) ∧ Q (.tup [.int ((turnP t m a b).1 + x), .int ((turnP t m a b).2 + y)])
  | _ => False
/-! combined -/
def cmbP (x y t m x2 y2 t2 m2 : Int) : List D := [.int ((turnP t m x2 y2).1 + x), .int ((turnP t m x2 y2).2 + y), .int ((t + (if m = 0 then t2 else -t2)) % 4), .int ((m + m2) % 2)]
def wp_combined (ds : List D) (Q : D → Prop) (Ed : DX → Prop) : Prop := ∃ x y t m x2 y2 t2 m2 : Int, ds = [.tup [.int x, .int y, .int t, .int m], .tup [.int x2, .int y2, .int t2, .int m2]] ∧ Q (.tup (cmbP x y t m x2 y2 t2 m2))
theorem turnP_b {t m a b B : Int} (h1 : -B ≤ a) (h2 : a ≤ B) (h3 : -B ≤ b) (h4 : b ≤ B) : -B ≤ (turnP t m a b).1 ∧ (turnP t m a b).1 ≤ B ∧ -B ≤ (turnP t m a b).2 ∧ (turnP t m a b).2 ≤ B := by
  unfold turnP
  (repeat' split) <;> refine ⟨?_, ?_, ?_, ?_⟩ <;> dsimp only <;> omega
/-! inverted -/
def bkP (t m : Int) : Int := if m = 1 then t else (-t) % 4
def invP (x y t m : Int) : List D := [.int (-(turnP (bkP t m) m x y).1), .int (-(turnP (bkP t m) m x y).2), .int (bkP t m), .int m]
def wp_inverted (ds : List D) (Q : D → Prop) (Ed : DX → Prop) : Prop := ∃ x y t m : Int, ds = [.tup [.int x, .int y, .int t, .int m]] ∧ Q (.tup (invP x y t m))
/-! Move.inverse -/
theorem bI_01 {m : Int} (h0 : 0 ≤ m) (h1 : m < 2) : bI (m == 1) = m := by
  have z : m = 0 ∨ m = 1 := by omega
  rcases z with rfl | rfl <;> rfl
theorem bkP_b {t m : Int} (h0 : 0 ≤ t) (h1 : t < 4) : 0 ≤ bkP t m ∧ bkP t m < 4 := by
  unfold bkP
  split <;> omega
def wp_Move_inverse (C : Addr) (ds : List D) (Q : D → Prop) (Ed : DX → Prop) : Prop := ∃ x y t m : Int, ds = [.ins C (moveF x y t m)] ∧ ((-1000000000000 ≤ x ∧ x ≤ 1000000000000 ∧ -1000000000000 ≤ y ∧ y ≤ 1000000000000) ∧ 0 ≤ t ∧ t < 4 ∧ 0 ≤ m ∧ m < 2) ∧ Q (.ins C [("parts", .tup (invP x y t m))])
/-! Move.__mul__ -/
def mulF (x y t m x2 y2 t2 m2 : Int) : List (Str × D) := [("parts", .tup (cmbP x y t m x2 y2 t2 m2))]
def wp_Move_mul (C : Addr) (ds : List D) (Q : D → Prop) (Ed : DX → Prop) : Prop := ∃ x y t m x2 y2 t2 m2 : Int, ds = [.ins C (moveF x y t m), .ins C (moveF x2 y2 t2 m2)] ∧ ((-400000000000 ≤ x ∧ x ≤ 400000000000 ∧ -400000000000 ≤ y ∧ y ≤ 400000000000) ∧ -400000000000 ≤ x2 ∧ x2 ≤ 400000000000 ∧ -400000000000 ≤ y2 ∧ y2 ≤ 400000000000) ∧ Q (.ins C (mulF x y t m x2 y2 t2 m2))
/-! _law_back -/
def wp_law_back (ds : List D) (Q : D → Prop) (Ed : DX → Prop) : Prop := ∃ x y t m : Int, ds = [.tup [.int x, .int y, .int t, .int m]] ∧ (0 ≤ t ∧ t < 4) ∧ Q (.tup (invP x y t m))
/-! _law_after -/
def wp_law_after (ds : List D) (Q : D → Prop) (Ed : DX → Prop) : Prop := ∃ x y t m x2 y2 t2 m2 : Int, ds = [.tup [.int x, .int y, .int t, .int m], .tup [.int x2, .int y2, .int t2, .int m2]] ∧ (0 ≤ t ∧ t < 4 ∧ 0 ≤ m ∧ m < 2 ∧ 0 ≤ t2 ∧ t2 < 4 ∧ 0 ≤ m2 ∧ m2 < 2) ∧ Q (.tup (cmbP x y t m x2 y2 t2 m2))
theorem q4 {t : Int} (h0 : 0 ≤ t) (h1 : t < 4) : t = 0 ∨ t = 1 ∨ t = 2 ∨ t = 3 := by omega
theorem q2 {m : Int} (h0 : 0 ≤ m) (h1 : m < 2) : m = 0 ∨ m = 1 := by omega
theorem turnP_0 {t m : Int} : turnP t m 0 0 = (0, 0) := by
  unfold turnP
  (repeat' split) <;> simp
theorem unit_k {x y t m x2 y2 t2 m2 : Int} (t0 : 0 ≤ t) (t1 : t < 4) (m0 : 0 ≤ m) (m1 : m < 2) (s0 : 0 ≤ t2) (s1 : t2 < 4) (n0 : 0 ≤ m2) (n1 : m2 < 2) :
    ((t + (if m = 0 then t2 else -t2)) % 4 = 0 ∧ (1 - 2 * ((m + m2) % 2)) * ((turnP t m ((turnP t2 m2 1 0).1 + x2) ((turnP t2 m2 1 0).2 + y2)).1 + x - ((turnP t m ((turnP t2 m2 0 0).1 + x2) ((turnP t2 m2 0 0).2 + y2)).1 + x)) = 1 ∧ (1 - 2 * ((m + m2) % 2)) * ((turnP t m ((turnP t2 m2 1 0).1 + x2) ((turnP t2 m2 1 0).2 + y2)).2 + y - ((turnP t m ((turnP t2 m2 0 0).1 + x2) ((turnP t2 m2 0 0).2 + y2)).2 + y)) = 0) ∨ ((t + (if m = 0 then t2 else -t2)) % 4 = 1 ∧ (1 - 2 * ((m + m2) % 2)) * ((turnP t m ((turnP t2 m2 1 0).1 + x2) ((turnP t2 m2 1 0).2 + y2)).1 + x - ((turnP t m ((turnP t2 m2 0 0).1 + x2) ((turnP t2 m2 0 0).2 + y2)).1 + x)) = 0 ∧ (1 - 2 * ((m + m2) % 2)) * ((turnP t m ((turnP t2 m2 1 0).1 + x2) ((turnP t2 m2 1 0).2 + y2)).2 + y - ((turnP t m ((turnP t2 m2 0 0).1 + x2) ((turnP t2 m2 0 0).2 + y2)).2 + y)) = 1) ∨ ((t + (if m = 0 then t2 else -t2)) % 4 = 2 ∧ (1 - 2 * ((m + m2) % 2)) * ((turnP t m ((turnP t2 m2 1 0).1 + x2) ((turnP t2 m2 1 0).2 + y2)).1 + x - ((turnP t m ((turnP t2 m2 0 0).1 + x2) ((turnP t2 m2 0 0).2 + y2)).1 + x)) = -1 ∧ (1 - 2 * ((m + m2) % 2)) * ((turnP t m ((turnP t2 m2 1 0).1 + x2) ((turnP t2 m2 1 0).2 + y2)).2 + y - ((turnP t m ((turnP t2 m2 0 0).1 + x2) ((turnP t2 m2 0 0).2 + y2)).2 + y)) = 0) ∨ ((t + (if m = 0 then t2 else -t2)) % 4 = 3 ∧ (1 - 2 * ((m + m2) % 2)) * ((turnP t m ((turnP t2 m2 1 0).1 + x2) ((turnP t2 m2 1 0).2 + y2)).1 + x - ((turnP t m ((turnP t2 m2 0 0).1 + x2) ((turnP t2 m2 0 0).2 + y2)).1 + x)) = 0 ∧ (1 - 2 * ((m + m2) % 2)) * ((turnP t m ((turnP t2 m2 1 0).1 + x2) ((turnP t2 m2 1 0).2 + y2)).2 + y - ((turnP t m ((turnP t2 m2 0 0).1 + x2) ((turnP t2 m2 0 0).2 + y2)).2 + y)) = -1) := by
  rcases q4 t0 t1 with rfl | rfl | rfl | rfl <;> rcases q4 s0 s1 with rfl | rfl | rfl | rfl <;> rcases q2 m0 m1 with rfl | rfl <;> rcases q2 n0 n1 with rfl | rfl <;> simp [turnP] <;> omega
/-! law/k04 -/
theorem mul_place {x y t m p r s n a b : Int} (t0 : 0 ≤ t) (t1 : t < 4) (m0 : 0 ≤ m) (m1 : m < 2) (s0 : 0 ≤ s) (s1 : s < 4) (n0 : 0 ≤ n) (n1 : n < 2) :
    (turnP t m ((turnP s n a b).1 + p) ((turnP s n a b).2 + r)).1 + x = (turnP ((t + (if m = 0 then s else -s)) % 4) ((m + n) % 2) a b).1 + ((turnP t m p r).1 + x) ∧ (turnP t m ((turnP s n a b).1 + p) ((turnP s n a b).2 + r)).2 + y = (turnP ((t + (if m = 0 then s else -s)) % 4) ((m + n) % 2) a b).2 + ((turnP t m p r).2 + y) := by
  rcases q4 t0 t1 with rfl | rfl | rfl | rfl <;> rcases q4 s0 s1 with rfl | rfl | rfl | rfl <;> rcases q2 m0 m1 with rfl | rfl <;> rcases q2 n0 n1 with rfl | rfl <;> simp [turnP] <;> omega
theorem inv_place {x y t m a b : Int} (t0 : 0 ≤ t) (t1 : t < 4) (m0 : 0 ≤ m) (m1 : m < 2) :
    (turnP (bkP t m) m ((turnP t m a b).1 + x) ((turnP t m a b).2 + y)).1 + -(turnP (bkP t m) m x y).1 = a ∧ (turnP (bkP t m) m ((turnP t m a b).1 + x) ((turnP t m a b).2 + y)).2 + -(turnP (bkP t m) m x y).2 = b := by
  rcases q4 t0 t1 with rfl | rfl | rfl | rfl <;> rcases q2 m0 m1 with rfl | rfl <;> simp [turnP, bkP] <;> omega
/-! _law_of -/
def wp_law_of (ds : List D) (Q : D → Prop) (Ed : DX → Prop) : Prop := ∃ xs, ds = [.bag, .lst xs] ∧ 0 < xs.length ∧ xs.length ≤ 1000 ∧ ∀ x, x ∈ xs → Q x
/-! _law_name -/
def wordsL : List Str := ["call", "curve", "cut", "define", "end", "keep", "let", "m", "mirror", "move", "never", "none", "nothing", "odd", "outline", "paint", "plain", "repeat", "solid", "stain", "turn", "wipe"]
/-- a name: 1 to 8 small letters and no word -/
def NameOk (s : Str) : Prop := ∃ l : List Nat, s = ⟨l.toArray⟩ ∧ 1 ≤ l.length ∧ l.length ≤ 8 ∧ (∀ c, c ∈ l → 97 ≤ c ∧ c ≤ 122) ∧ s ∉ wordsL
def wp_law_name (ds : List D) (Q : D → Prop) (Ed : DX → Prop) : Prop := match ds with
  | [.bag] => ∀ s : Str, NameOk s → Q (.str s)
  | _ => False
/-- a text that may become a name -/
def PreName (n : Nat) (s : Str) : Prop := ∃ l : List Nat, s = ⟨l.toArray⟩ ∧ 1 ≤ l.length ∧ l.length ≤ n + 1 ∧ (∀ c, c ∈ l → 97 ≤ c ∧ c ≤ 122) ∧ (∃ c r, l = c :: r ∧ (c = 97 ∨ c = 98 ∨ c = 99 ∨ c = 113 ∨ c = 122))
theorem letters_cps : (("abcdefghijklmnopqrstuvwxyz" : Str)).cps.toList = [97, 98, 99, 100, 101, 102, 103, 104, 105, 106, 107, 108, 109, 110, 111, 112, 113, 114, 115, 116, 117, 118, 119, 120, 121, 122] := by decide +kernel
theorem letter_of {c : Nat} (h : c ∈ (("abcdefghijklmnopqrstuvwxyz" : Str)).cps.toList) : 97 ≤ c ∧ c ≤ 122 := by
  rw [letters_cps] at h
  simp at h
  omega
theorem PreName.grow {n : Nat} {s : Str} {c : Nat} (h : PreName n s) (hc : 97 ≤ c ∧ c ≤ 122) : PreName (n + 1) (s ++ ⟨#[c]⟩) := by
  obtain ⟨l, rfl, h1, h2, h3, d, r, rfl, hd⟩ := h
  refine ⟨d :: r ++ [c], ?_, by simp, by simp at h2 ⊢; omega, fun x hx => ?_, d, r ++ [c], rfl, hd⟩
  · show Str.mk ((d :: r).toArray ++ #[c]) = _
    simp
  · rcases List.mem_append.mp hx with hx | hx
    · exact h3 x hx
    · simp at hx
      subst hx
      exact hc
theorem PreName.mono {n m : Nat} {s : Str} (h : PreName n s) (hm : n ≤ m) : PreName m s := by
  obtain ⟨l, e, h1, h2, h3, h4⟩ := h
  exact ⟨l, e, h1, by omega, h3, h4⟩
theorem PreName.len {n : Nat} {s : Str} (h : PreName n s) : s.length ≤ n + 1 := by
  obtain ⟨l, rfl, h1, h2, _⟩ := h
  show (l.toArray).size ≤ _
  simpa using h2
def takenL : List Str := ["call", "curve", "cut", "define", "end", "keep", "let", "mirror", "move", "never", "none", "nothing"]
theorem PreName.name {s : Str} (h : PreName 7 s) (hn : s ∉ takenL) : NameOk s := by
  obtain ⟨l, rfl, h1, h2, h3, c, r, rfl, hc⟩ := h
  refine ⟨c :: r, rfl, h1, h2, h3, fun hw => ?_⟩
  have hd : ∀ w : Str, w ∈ wordsL → w ∈ takenL ∨ ∃ x, w.cps.toList.head? = some x ∧ ¬ (x = 97 ∨ x = 98 ∨ x = 99 ∨ x = 113 ∨ x = 122) := by decide +kernel
  rcases hd _ hw with h | ⟨x, hx, hy⟩
  · exact hn h
  · simp at hx
    subst hx
    exact hy hc
theorem taken_name {s : Str} (h : s ∈ takenL) (hp : PreName 7 s) : NameOk ("q" ++ cutS s (some 1) (some 3)) := by
  have hd : ∀ w : Str, w ∈ takenL → (∃ l : List Nat, ("q" ++ cutS w (some 1) (some 3) : Str) = ⟨l.toArray⟩ ∧ 1 ≤ l.length ∧ l.length ≤ 8 ∧ (∀ c, c ∈ l → 97 ≤ c ∧ c ≤ 122) ∧ ("q" ++ cutS w (some 1) (some 3) : Str) ∉ wordsL) := by
    intro w hw
    refine ⟨("q" ++ cutS w (some 1) (some 3) : Str).cps.toList, by simp, ?_⟩
    revert w
    decide +kernel
  exact hd s h
/-! spot_of -/
/-- the spot that the inverse of a move leads to -/
def spotP (x y t m a b : Int) : List D := [.int ((turnP (bkP t m) m a b).1 + -(turnP (bkP t m) m x y).1 * 32), .int ((turnP (bkP t m) m a b).2 + -(turnP (bkP t m) m x y).2 * 32)]
def wp_spot_of (ds : List D) (Q : D → Prop) (Ed : DX → Prop) : Prop := ∃ (nm : D) (x y t m a b : Int), ds = [.tup [nm, .int x, .int y, .int t, .int m], .tup [.int a, .int b]] ∧ Q (.tup (spotP x y t m a b))
/-! _law_spot -/
theorem turnP_32 {t m x y : Int} : turnP t m (32 * x) (32 * y) = (32 * (turnP t m x y).1, 32 * (turnP t m x y).2) := by
  unfold turnP
  (repeat' split) <;> simp <;> omega
def wp_law_spot (ds : List D) (Q : D → Prop) (Ed : DX → Prop) : Prop := ∃ x y t m a b : Int, ds = [.tup [.int x, .int y, .int t, .int m], .tup [.int a, .int b]] ∧ (0 ≤ t ∧ t < 4 ∧ 0 ≤ m ∧ m < 2) ∧ Q (.tup (spotP x y t m a b))
/-! law/k48 -/
theorem spot_back {x y t m a b : Int} (t0 : 0 ≤ t) (t1 : t < 4) (m0 : 0 ≤ m) (m1 : m < 2) :
    (turnP t m ((turnP (bkP t m) m a b).1 + -(turnP (bkP t m) m x y).1 * 32) ((turnP (bkP t m) m a b).2 + -(turnP (bkP t m) m x y).2 * 32)).1 + 32 * x = a ∧ (turnP t m ((turnP (bkP t m) m a b).1 + -(turnP (bkP t m) m x y).1 * 32) ((turnP (bkP t m) m a b).2 + -(turnP (bkP t m) m x y).2 * 32)).2 + 32 * y = b := by
  rcases q4 t0 t1 with rfl | rfl | rfl | rfl <;> rcases q2 m0 m1 with rfl | rfl <;> simp [turnP, bkP] <;> omega
/-! combined/m -/
/-- a move's parts -/
structure Mv where
  x : Int
  y : Int
  t : Int
  m : Int
def Mv.l (f : Mv) : List D := [.int f.x, .int f.y, .int f.t, .int f.m]
def Mv.fs (f : Mv) : List (Str × D) := [("parts", .tup f.l)]
structure Mv.Ok (f : Mv) : Prop where
  t0 : 0 ≤ f.t
  t1 : f.t < 4
  m0 : 0 ≤ f.m
  m1 : f.m < 2
def Mv.one : Mv := ⟨0, 0, 0, 0⟩
def Mv.mul (f g : Mv) : Mv := ⟨(turnP f.t f.m g.x g.y).1 + f.x, (turnP f.t f.m g.x g.y).2 + f.y, (f.t + (if f.m = 0 then g.t else -g.t)) % 4, (f.m + g.m) % 2⟩
def Mv.inv (f : Mv) : Mv := ⟨-(turnP (bkP f.t f.m) f.m f.x f.y).1, -(turnP (bkP f.t f.m) f.m f.x f.y).2, bkP f.t f.m, f.m⟩
theorem Mv.one_ok : Mv.one.Ok := ⟨by decide, by decide, by decide, by decide⟩
theorem Mv.Ok.mul {f g : Mv} (_ : f.Ok) (_ : g.Ok) : (f.mul g).Ok := ⟨Int.emod_nonneg _ (by decide), Int.emod_lt_of_pos _ (by decide), Int.emod_nonneg _ (by decide), Int.emod_lt_of_pos _ (by decide)⟩
theorem Mv.Ok.inv {f : Mv} (h : f.Ok) : f.inv.Ok := by
  obtain ⟨t0, t1, m0, m1⟩ := h
  obtain ⟨h1, h2⟩ := bkP_b (m := f.m) t0 t1
  exact ⟨h1, h2, m0, m1⟩
theorem turnP_add {t m a b c d : Int} : turnP t m (a + c) (b + d) = ((turnP t m a b).1 + (turnP t m c d).1, (turnP t m a b).2 + (turnP t m c d).2) := by
  unfold turnP
  (repeat' split) <;> simp <;> omega
theorem turnP_turn {t m s n a b : Int} (t0 : 0 ≤ t) (t1 : t < 4) (m0 : 0 ≤ m) (m1 : m < 2) (s0 : 0 ≤ s) (s1 : s < 4) (n0 : 0 ≤ n) (n1 : n < 2) :
    turnP t m (turnP s n a b).1 (turnP s n a b).2 = turnP ((t + (if m = 0 then s else -s)) % 4) ((m + n) % 2) a b := by
  rcases q4 t0 t1 with rfl | rfl | rfl | rfl <;> rcases q4 s0 s1 with rfl | rfl | rfl | rfl <;> rcases q2 m0 m1 with rfl | rfl <;> rcases q2 n0 n1 with rfl | rfl <;> simp [turnP]
theorem Mv.ext {f g : Mv} (h1 : f.x = g.x) (h2 : f.y = g.y) (h3 : f.t = g.t) (h4 : f.m = g.m) : f = g := by
  cases f
  cases g
  simp_all
instance : DecidableEq Mv := fun f g => decidable_of_iff (f.x = g.x ∧ f.y = g.y ∧ f.t = g.t ∧ f.m = g.m) ⟨fun h => Mv.ext h.1 h.2.1 h.2.2.1 h.2.2.2, fun h => by subst h; exact ⟨rfl, rfl, rfl, rfl⟩⟩
theorem Mv.assoc {f g h : Mv} (hf : f.Ok) (hg : g.Ok) : (f.mul g).mul h = f.mul (g.mul h) := by
  have e := turnP_turn (a := h.x) (b := h.y) hf.t0 hf.t1 hf.m0 hf.m1 hg.t0 hg.t1 hg.m0 hg.m1
  refine Mv.ext ?_ ?_ ?_ ?_
  · simp only [Mv.mul, turnP_add, e]
    omega
  · simp only [Mv.mul, turnP_add, e]
    omega
  · obtain ⟨fx, fy, ft, fm⟩ := f
    obtain ⟨gx, gy, gt, gm⟩ := g
    have m0 : 0 ≤ fm := hf.m0
    have m1 : fm < 2 := hf.m1
    have n0 : 0 ≤ gm := hg.m0
    have n1 : gm < 2 := hg.m1
    clear e hf hg
    rcases q2 m0 m1 with rfl | rfl <;> rcases q2 n0 n1 with rfl | rfl <;> simp [Mv.mul] <;> omega
  · simp only [Mv.mul]
    omega
theorem turnP_one {a b : Int} : turnP 0 0 a b = (a, b) := rfl
theorem Mv.one_mul {f : Mv} (h : f.Ok) : Mv.one.mul f = f := by
  obtain ⟨t0, t1, m0, m1⟩ := h
  refine Mv.ext ?_ ?_ ?_ ?_ <;> simp only [Mv.mul, Mv.one, turnP_one, if_true] <;> omega
theorem Mv.mul_one {f : Mv} (h : f.Ok) : f.mul Mv.one = f := by
  obtain ⟨t0, t1, m0, m1⟩ := h
  refine Mv.ext ?_ ?_ ?_ ?_ <;> simp only [Mv.mul, Mv.one, turnP_0] <;> (try split) <;> omega
theorem Mv.inv_mul {f : Mv} (h : f.Ok) : f.inv.mul f = Mv.one := by
  obtain ⟨x, y, t, m⟩ := f
  obtain ⟨t0, t1, m0, m1⟩ := h
  simp only at t0 t1 m0 m1
  rcases q4 t0 t1 with rfl | rfl | rfl | rfl <;> rcases q2 m0 m1 with rfl | rfl <;> (refine Mv.ext ?_ ?_ ?_ ?_ <;> simp [Mv.mul, Mv.inv, Mv.one, turnP, bkP] <;> omega)
theorem Mv.mul_inv {f : Mv} (h : f.Ok) : f.mul f.inv = Mv.one := by
  obtain ⟨x, y, t, m⟩ := f
  obtain ⟨t0, t1, m0, m1⟩ := h
  simp only at t0 t1 m0 m1
  rcases q4 t0 t1 with rfl | rfl | rfl | rfl <;> rcases q2 m0 m1 with rfl | rfl <;> (refine Mv.ext ?_ ?_ ?_ ?_ <;> simp [Mv.mul, Mv.inv, Mv.one, turnP, bkP] <;> omega)
def Mv.pow (f : Mv) : Nat → Mv
  | 0 => Mv.one
  | n + 1 => f.mul (f.pow n)
theorem Mv.Ok.pow {f : Mv} (h : f.Ok) : ∀ n : Nat, (f.pow n).Ok
  | 0 => Mv.one_ok
  | n + 1 => h.mul (h.pow n)
theorem Mv.pow_add {f : Mv} (h : f.Ok) : ∀ a b : Nat, f.pow (a + b) = (f.pow a).mul (f.pow b)
  | 0, b => by
    rw [Nat.zero_add]
    exact (Mv.one_mul (h.pow b)).symm
  | a + 1, b => by
    rw [show a + 1 + b = (a + b) + 1 by omega]
    show f.mul (f.pow (a + b)) = (f.mul (f.pow a)).mul (f.pow b)
    rw [Mv.pow_add h a b, Mv.assoc h (h.pow a)]
theorem Mv.pow_mul {f : Mv} (h : f.Ok) (a : Nat) : ∀ b : Nat, f.pow (a * b) = (f.pow a).pow b
  | 0 => rfl
  | b + 1 => by
    rw [Nat.mul_succ, Nat.add_comm, Mv.pow_add h]
    show (f.pow a).mul (f.pow (a * b)) = (f.pow a).mul ((f.pow a).pow b)
    rw [Mv.pow_mul h a b]
theorem Mv.pow_one {f : Mv} (h : f.Ok) : f.pow 1 = f := Mv.mul_one h
theorem Mv.mul4 {f : Mv} (h : f.Ok) : (f.mul f).mul (f.mul f) = f.pow 4 := by
  have e2 : f.pow 2 = f.mul f := by
    show f.mul (f.mul Mv.one) = _
    rw [Mv.mul_one h]
  rw [show (4 : Nat) = 2 + 2 by rfl, Mv.pow_add h, e2]
/-- four times any move are a shift -/
theorem Mv.pow4 {f : Mv} (h : f.Ok) : (f.pow 4).t = 0 ∧ (f.pow 4).m = 0 := by
  obtain ⟨x, y, t, m⟩ := f
  obtain ⟨t0, t1, m0, m1⟩ := h
  simp only at t0 t1 m0 m1
  rcases q4 t0 t1 with rfl | rfl | rfl | rfl <;> rcases q2 m0 m1 with rfl | rfl <;> simp [Mv.pow, Mv.mul, Mv.one]
theorem Mv.pow_shift {a b : Int} : ∀ n : Nat, (Mv.mk a b 0 0).pow n = ⟨a * n, b * n, 0, 0⟩
  | 0 => by simp [Mv.pow, Mv.one]
  | n + 1 => by
    show (Mv.mk a b 0 0).mul ((Mv.mk a b 0 0).pow n) = _
    rw [Mv.pow_shift n]
    refine Mv.ext ?_ ?_ rfl rfl
    · show a * (n : Int) + a = a * ((n + 1 : Nat) : Int)
      push_cast
      rw [Int.mul_add, Int.mul_one]
    · show b * (n : Int) + b = b * ((n + 1 : Nat) : Int)
      push_cast
      rw [Int.mul_add, Int.mul_one]
/-- a power by fours -/
theorem Mv.pow_four {f : Mv} (h : f.Ok) (n : Nat) : f.pow n = (Mv.mk ((f.pow 4).x * (n / 4 : Nat)) ((f.pow 4).y * (n / 4 : Nat)) 0 0).mul (f.pow (n % 4)) := by
  have e : n = 4 * (n / 4) + n % 4 := by omega
  have e4 : f.pow 4 = ⟨(f.pow 4).x, (f.pow 4).y, 0, 0⟩ := Mv.ext rfl rfl (Mv.pow4 h).1 (Mv.pow4 h).2
  have e2 : f.pow (4 * (n / 4)) = Mv.mk ((f.pow 4).x * (n / 4 : Nat)) ((f.pow 4).y * (n / 4 : Nat)) 0 0 := by
    rw [Mv.pow_mul h, e4, Mv.pow_shift]
  calc f.pow n = f.pow (4 * (n / 4) + n % 4) := by rw [← e]
    _ = (f.pow (4 * (n / 4))).mul (f.pow (n % 4)) := Mv.pow_add h _ _
    _ = _ := by rw [e2]
theorem Mv.mul_b {f g : Mv} {A B : Int} (h1 : -A ≤ f.x ∧ f.x ≤ A) (h2 : -A ≤ f.y ∧ f.y ≤ A) (h3 : -B ≤ g.x ∧ g.x ≤ B) (h4 : -B ≤ g.y ∧ g.y ≤ B) : (-(A + B) ≤ (f.mul g).x ∧ (f.mul g).x ≤ A + B) ∧ (-(A + B) ≤ (f.mul g).y ∧ (f.mul g).y ≤ A + B) := by
  obtain ⟨b1, b2, b3, b4⟩ := turnP_b (t := f.t) (m := f.m) h3.1 h3.2 h4.1 h4.2
  simp only [Mv.mul]
  omega
theorem Mv.inv_b {f : Mv} {A : Int} (h1 : -A ≤ f.x ∧ f.x ≤ A) (h2 : -A ≤ f.y ∧ f.y ≤ A) : (-A ≤ f.inv.x ∧ f.inv.x ≤ A) ∧ (-A ≤ f.inv.y ∧ f.inv.y ≤ A) := by
  obtain ⟨b1, b2, b3, b4⟩ := turnP_b (t := bkP f.t f.m) (m := f.m) h1.1 h1.2 h2.1 h2.2
  simp only [Mv.inv]
  omega
theorem Mv.pow_b {f : Mv} {A : Int} (h1 : -A ≤ f.x ∧ f.x ≤ A) (h2 : -A ≤ f.y ∧ f.y ≤ A) : ∀ n : Nat, (-(A * n) ≤ (f.pow n).x ∧ (f.pow n).x ≤ A * n) ∧ (-(A * n) ≤ (f.pow n).y ∧ (f.pow n).y ≤ A * n)
  | 0 => by simp [Mv.pow, Mv.one]
  | n + 1 => by
    obtain ⟨i1, i2⟩ := Mv.pow_b h1 h2 n
    have e : A * ((n + 1 : Nat) : Int) = A + A * (n : Int) := by
      push_cast
      rw [Int.mul_add, Int.mul_one, Int.add_comm]
    rw [e]
    exact Mv.mul_b h1 h2 i1 i2
/-- a power, also a negative one -/
def Mv.zpow (f : Mv) (n : Int) : Mv := if 0 ≤ n then f.pow n.toNat else f.inv.pow (-n).toNat
theorem Mv.Ok.zpow {f : Mv} (h : f.Ok) (n : Int) : (f.zpow n).Ok := by
  unfold Mv.zpow
  split
  · exact h.pow _
  · exact h.inv.pow _
theorem Mv.pow_succ' {f : Mv} (h : f.Ok) (n : Nat) : f.pow (n + 1) = (f.pow n).mul f := by
  rw [Mv.pow_add h, Mv.pow_one h]
theorem Mv.inv_cancel {f g : Mv} (hf : f.Ok) (hg : g.Ok) : f.inv.mul (f.mul g) = g := by
  rw [← Mv.assoc hf.inv hf, Mv.inv_mul hf, Mv.one_mul hg]
theorem Mv.mul_cancel {f g : Mv} (hf : f.Ok) (hg : g.Ok) : f.mul (f.inv.mul g) = g := by
  rw [← Mv.assoc hf hf.inv, Mv.mul_inv hf, Mv.one_mul hg]
theorem Mv.zpow_succ {f : Mv} (h : f.Ok) (n : Int) : f.zpow (n + 1) = f.mul (f.zpow n) := by
  unfold Mv.zpow
  by_cases h0 : 0 ≤ n
  · rw [if_pos h0, if_pos (by omega), show (n + 1).toNat = n.toNat + 1 by omega]
    rfl
  · rw [if_neg h0]
    by_cases h1 : n = -1
    · subst h1
      show f.pow 0 = f.mul (f.inv.pow 1)
      rw [Mv.pow_one h.inv, Mv.mul_inv h]
      rfl
    · rw [if_neg (by omega), show (-n).toNat = (-(n + 1)).toNat + 1 by omega]
      show _ = f.mul (f.inv.mul (f.inv.pow _))
      rw [Mv.mul_cancel h (h.inv.pow _)]
theorem Mv.zpow_pred {f : Mv} (h : f.Ok) (n : Int) : f.zpow (n - 1) = f.inv.mul (f.zpow n) := by
  have e := Mv.zpow_succ h (n - 1)
  rw [show n - 1 + 1 = n by omega] at e
  rw [e, Mv.inv_cancel h (h.zpow _)]
theorem int_ind {P : Int → Prop} (h0 : P 0) (hs : ∀ n, P n → P (n + 1)) (hp : ∀ n, P n → P (n - 1)) (n : Int) : P n := by
  have up : ∀ k : Nat, P (k : Int) := fun k => by
    induction k with
    | zero => exact h0
    | succ k ih => exact_mod_cast hs _ ih
  have dn : ∀ k : Nat, P (-(k : Int)) := fun k => by
    induction k with
    | zero => exact h0
    | succ k ih =>
      have e : (-((k + 1 : Nat) : Int)) = -(k : Int) - 1 := by omega
      rw [e]
      exact hp _ ih
  by_cases h : 0 ≤ n
  · obtain ⟨k, rfl⟩ := Int.eq_ofNat_of_zero_le h
    exact up k
  · obtain ⟨k, hk⟩ := Int.eq_ofNat_of_zero_le (show 0 ≤ -n by omega)
    have : n = -(k : Int) := by omega
    rw [this]
    exact dn k
theorem Mv.zpow_zero {f : Mv} : f.zpow 0 = Mv.one := rfl
theorem Mv.zpow_add {f : Mv} (h : f.Ok) (m n : Int) : f.zpow (m + n) = (f.zpow m).mul (f.zpow n) := by
  refine int_ind (P := fun m => f.zpow (m + n) = (f.zpow m).mul (f.zpow n)) ?_ (fun m ih => ?_) (fun m ih => ?_) m
  · rw [Int.zero_add, Mv.zpow_zero, Mv.one_mul (h.zpow _)]
  · rw [show m + 1 + n = (m + n) + 1 by omega, Mv.zpow_succ h, Mv.zpow_succ h, ih, Mv.assoc h (h.zpow _)]
  · rw [show m - 1 + n = (m + n) - 1 by omega, Mv.zpow_pred h, Mv.zpow_pred h, ih, Mv.assoc h.inv (h.zpow _)]
theorem Mv.zpow_one {f : Mv} (h : f.Ok) : f.zpow 1 = f := Mv.pow_one h
theorem Mv.inv_unique {f g : Mv} (hf : f.Ok) (hg : g.Ok) (e : f.mul g = Mv.one) : g = f.inv := by
  have := Mv.inv_cancel hf hg
  rw [e, Mv.mul_one hf.inv] at this
  exact this.symm
theorem Mv.zpow_neg {f : Mv} (h : f.Ok) (n : Int) : f.zpow (-n) = (f.zpow n).inv := by
  refine Mv.inv_unique (h.zpow _) (h.zpow _) ?_
  rw [← Mv.zpow_add h, show n + -n = 0 by omega, Mv.zpow_zero]
theorem Mv.zpow_mul {f : Mv} (h : f.Ok) (m n : Int) : (f.zpow m).zpow n = f.zpow (m * n) := by
  refine int_ind (P := fun n => (f.zpow m).zpow n = f.zpow (m * n)) ?_ (fun n ih => ?_) (fun n ih => ?_) n
  · rw [Int.mul_zero]
    rfl
  · rw [Mv.zpow_succ (h.zpow m), ih, ← Mv.zpow_add h]
    congr 1
    rw [Int.mul_add, Int.mul_one]
    omega
  · rw [Mv.zpow_pred (h.zpow m), ih, ← Mv.zpow_neg h, ← Mv.zpow_add h]
    congr 1
    rw [Int.mul_sub, Int.mul_one]
    omega
theorem Mv.inv_mul_rev {f g : Mv} (hf : f.Ok) (hg : g.Ok) : (f.mul g).inv = g.inv.mul f.inv := by
  refine (Mv.inv_unique (hf.mul hg) (hg.inv.mul hf.inv) ?_).symm
  rw [Mv.assoc hf hg, ← Mv.assoc hg hg.inv, Mv.mul_inv hg, Mv.one_mul hf.inv, Mv.mul_inv hf]
theorem Mv.eta (f : Mv) : Mv.mk f.x f.y f.t f.m = f := rfl
def Mv.In (f : Mv) (B : Int) : Prop := (-B ≤ f.x ∧ f.x ≤ B) ∧ (-B ≤ f.y ∧ f.y ≤ B)
abbrev BM : Int := 1000000000000
def wp_cmb (ds : List D) (Q : D → Prop) (Ed : DX → Prop) : Prop := ∃ f g : Mv, ds = [.tup f.l, .tup g.l] ∧ Q (.tup (f.mul g).l)
/-! inverted/m -/
def wp_inv (ds : List D) (Q : D → Prop) (Ed : DX → Prop) : Prop := ∃ f : Mv, ds = [.tup f.l] ∧ Q (.tup f.inv.l)
/-! repeated/m -/
def wp_rep (ds : List D) (Q : D → Prop) (Ed : DX → Prop) : Prop := ∃ (f : Mv) (n : Nat), ds = [.tup f.l, .int n] ∧ (f.Ok ∧ f.In 10000000000000) ∧ Q (.tup (f.pow n).l)
/-! Move.__mul__/m -/
theorem Mv.fs_eta {f : Mv} (h : f.Ok) : moveF f.x f.y (f.t % 4) (bI (f.m == 1)) = f.fs := by
  rw [bI_01 h.m0 h.m1, Int.emod_eq_of_lt h.t0 h.t1]
  rfl
theorem Mv.In.le {f : Mv} {A B : Int} (h : f.In A) (e : A ≤ B) : f.In B := by
  obtain ⟨⟨h1, h2⟩, h3, h4⟩ := h
  exact ⟨⟨by omega, by omega⟩, by omega, by omega⟩
theorem Mv.In.four {f : Mv} (h : f.In BM) : -1000000000000 ≤ f.x ∧ f.x ≤ 1000000000000 ∧ -1000000000000 ≤ f.y ∧ f.y ≤ 1000000000000 := by
  obtain ⟨⟨h1, h2⟩, h3, h4⟩ := h
  exact ⟨h1, h2, h3, h4⟩
theorem Mv.In.inv {f : Mv} {A : Int} (h : f.In A) : f.inv.In A := Mv.inv_b h.1 h.2
theorem Mv.In.mul {f g : Mv} {A B : Int} (h : f.In A) (h' : g.In B) : (f.mul g).In (A + B) := Mv.mul_b h.1 h.2 h'.1 h'.2
theorem Mv.In.pow {f : Mv} {A : Int} (h : f.In A) (n : Nat) : (f.pow n).In (A * n) := Mv.pow_b h.1 h.2 n
theorem Mv.In.zpow {f : Mv} {A : Int} (h : f.In A) (n : Int) : (f.zpow n).In (A * n.natAbs) := by
  unfold Mv.zpow
  split
  · rw [show n.natAbs = n.toNat by omega]
    exact h.pow _
  · rw [show n.natAbs = (-n).toNat by omega]
    exact h.inv.pow _
def wp_Mmul (C : Addr) (ds : List D) (Q : D → Prop) (Ed : DX → Prop) : Prop := ∃ f g : Mv, ds = [.ins C f.fs, .ins C g.fs] ∧ (f.Ok ∧ g.Ok ∧ (f.mul g).In BM) ∧ Q (.ins C (f.mul g).fs)
/-! Move.inverse/m -/
def wp_Minv (C : Addr) (ds : List D) (Q : D → Prop) (Ed : DX → Prop) : Prop := ∃ f : Mv, ds = [.ins C f.fs] ∧ (f.Ok ∧ f.In BM) ∧ Q (.ins C f.inv.fs)
/-! Move.sign/m -/
def wp_Msign (C : Addr) (ds : List D) (Q : D → Prop) (Ed : DX → Prop) : Prop := ∃ f : Mv, ds = [.ins C f.fs] ∧ Q (.int (1 - 2 * f.m))
/-! Move.power/m -/
def wp_Mpow (C : Addr) (ds : List D) (Q : D → Prop) (Ed : DX → Prop) : Prop := ∃ (f : Mv) (n : Int), ds = [.ins C f.fs, .int n] ∧ (f.Ok ∧ f.In BM ∧ (f.zpow n).In BM) ∧ Q (.ins C (f.zpow n).fs)
/-! _law_after/m -/
def wp_aft (ds : List D) (Q : D → Prop) (Ed : DX → Prop) : Prop := ∃ f g : Mv, ds = [.tup f.l, .tup g.l] ∧ (f.Ok ∧ g.Ok) ∧ Q (.tup (f.mul g).l)
/-! _law_back/m -/
def wp_bk (ds : List D) (Q : D → Prop) (Ed : DX → Prop) : Prop := ∃ f : Mv, ds = [.tup f.l] ∧ f.Ok ∧ Q (.tup f.inv.l)
/-! _law_move/m -/
def wp_lmv (C : Addr) (ds : List D) (Q : D → Prop) (Ed : DX → Prop) : Prop := ∃ f : Mv, ds = [.tup f.l] ∧ (f.Ok ∧ f.In BM) ∧ Q (.ins C f.fs)
/-! Move.flipped/m -/
def wp_flip (C : Addr) (ds : List D) (Q : D → Prop) (Ed : DX → Prop) : Prop := ds = [.cls C] ∧ Q (.ins C (Mv.mk 0 0 0 1).fs)
/-! Move.turned/m -/
def wp_turned (C : Addr) (ds : List D) (Q : D → Prop) (Ed : DX → Prop) : Prop := ∃ n : Int, ds = [.cls C, .int n] ∧ Q (.ins C (Mv.mk 0 0 (n % 4) 0).fs)
/-! law/k05 -/
theorem Mv.one_zpow (n : Int) : Mv.one.zpow n = Mv.one := by
  refine int_ind (P := fun n => Mv.one.zpow n = Mv.one) rfl (fun n ih => ?_) (fun n ih => ?_) n
  · rw [Mv.zpow_succ Mv.one_ok, ih]
    rfl
  · rw [Mv.zpow_pred Mv.one_ok, ih]
    rfl
theorem Mv.zpow_nat {f : Mv} (n : Nat) : f.zpow n = f.pow n := by
  unfold Mv.zpow
  rw [if_pos (by omega), Int.toNat_natCast]
theorem Mv.zpow_mod {f : Mv} (h : f.Ok) {k : Nat} (hk : 0 < k) (e : f.pow k = Mv.one) (n : Int) : f.zpow n = f.pow (n % k).toNat := by
  have hn : n = (k : Int) * (n / k) + n % k := (Int.mul_ediv_add_emod n k).symm
  have hr : 0 ≤ n % (k : Int) := Int.emod_nonneg _ (by omega)
  have e2 : f.zpow ((k : Int) * (n / k) + n % k) = f.pow (n % k).toNat := by
    rw [Mv.zpow_add h, ← Mv.zpow_mul h, Mv.zpow_nat, e, Mv.one_zpow, Mv.one_mul (h.zpow _)]
    conv => lhs; rw [← Int.toNat_of_nonneg hr]
    exact Mv.zpow_nat _
  rw [← e2, ← hn]
theorem Mv.turn4 {a b t : Int} (h0 : 1 ≤ t) (h1 : t < 4) : (Mv.mk a b t 0).pow 4 = Mv.one := by
  have h : t = 1 ∨ t = 2 ∨ t = 3 := by omega
  rcases h with rfl | rfl | rfl <;> refine Mv.ext ?_ ?_ ?_ ?_ <;> simp [Mv.pow, Mv.mul, Mv.one, turnP] <;> omega
theorem Mv.zpow_shift {a b n : Int} : (Mv.mk a b 0 0).zpow n = ⟨a * n, b * n, 0, 0⟩ := by
  unfold Mv.zpow
  split
  · rw [Mv.pow_shift, Int.toNat_of_nonneg (by omega)]
  · have e : (Mv.mk a b 0 0).inv = ⟨-a, -b, 0, 0⟩ := rfl
    rw [e, Mv.pow_shift, Int.toNat_of_nonneg (by omega), Int.neg_mul_neg, Int.neg_mul_neg]
theorem Mv.zpow_flip {n : Int} : (Mv.mk 0 0 0 1).zpow n = ⟨0, 0, 0, n % 2⟩ := by
  rw [Mv.zpow_mod (k := 2) ⟨by decide, by decide, by decide, by decide⟩ (by decide) rfl]
  have h : n % 2 = 0 ∨ n % 2 = 1 := by omega
  have c : ((2 : Nat) : Int) = 2 := rfl
  rcases h with h | h <;> rw [c, h] <;> rfl
/-- the steps of a power -/
def Mv.base (f : Mv) (n : Int) : Mv := if 0 ≤ n then f else f.inv
theorem Mv.base_pow {f : Mv} (n : Int) : (f.base n).pow n.natAbs = f.zpow n := by
  unfold Mv.base Mv.zpow
  split
  · rw [show n.natAbs = n.toNat by omega]
  · rw [show n.natAbs = (-n).toNat by omega]
theorem Mv.Ok.base {f : Mv} (h : f.Ok) (n : Int) : (f.base n).Ok := by
  unfold Mv.base
  split
  · exact h
  · exact h.inv
/-! Move.__eq__/m -/
theorem Mv.deq (f g : Mv) : deq (.tup f.l) (.tup g.l) = decide (f = g) := by
  rw [Bool.eq_iff_iff, decide_eq_true_eq]
  constructor
  · intro h
    simp [DL.deq, DL.deqs, Mv.l] at h
    exact Mv.ext h.1 h.2.1 h.2.2.1 h.2.2.2
  · rintro rfl
    simp [DL.deq, DL.deqs, Mv.l]
def wp_Meq (C : Addr) (ds : List D) (Q : D → Prop) (Ed : DX → Prop) : Prop := ∃ f g : Mv, ds = [.ins C f.fs, .ins C g.fs] ∧ Q (.bl (decide (f = g)))
/-! Move.still/m -/
def wp_still (C : Addr) (ds : List D) (Q : D → Prop) (Ed : DX → Prop) : Prop := ds = [] ∧ Q (.ins C Mv.one.fs)
/-! law/k07 -/
theorem nsame {b : Bool} (h : b = true) : ¬ ((!sameD (.bl b) (.bl true)) = true) := by
  subst h
  decide
theorem nsame_int {i j : Int} (h : i = j) : ¬ ((!sameD (.int i) (.int j)) = true) := by
  subst h
  simp [sameD]
theorem Mv.sign_mul {f g : Mv} (okf : f.Ok) (okg : g.Ok) : 1 - 2 * (f.mul g).m = (1 - 2 * f.m) * (1 - 2 * g.m) := by
  obtain ⟨fx, fy, ft, fm⟩ := f
  obtain ⟨gx, gy, gt, gm⟩ := g
  have m0 : 0 ≤ fm := okf.m0
  have m1 : fm < 2 := okf.m1
  have n0 : 0 ≤ gm := okg.m0
  have n1 : gm < 2 := okg.m1
  rcases q2 m0 m1 with rfl | rfl <;> rcases q2 n0 n1 with rfl | rfl <;> simp [Mv.mul]
theorem Mv.one_in {A : Int} (h : 0 ≤ A) : Mv.one.In A := ⟨⟨by show -A ≤ 0; omega, h⟩, by show -A ≤ 0; omega, h⟩
theorem Mv.sign_b {f : Mv} (h : f.Ok) : -(2 ^ 64) < 1 - 2 * f.m ∧ 1 - 2 * f.m < 2 ^ 64 := by
  have := h.m0
  have := h.m1
  omega
/-! Move.shifted/m -/
def wp_shifted (C : Addr) (ds : List D) (Q : D → Prop) (Ed : DX → Prop) : Prop := ∃ x y : Int, ds = [.cls C, .int x, .int y] ∧ (-1000000000000 ≤ x ∧ x ≤ 1000000000000 ∧ -1000000000000 ≤ y ∧ y ≤ 1000000000000) ∧ Q (.ins C (Mv.mk x y 0 0).fs)
/-! _law_move/l -/
def wp_lmv2 (C : Addr) (ds : List D) (Q : D → Prop) (Ed : DX → Prop) : Prop := ∃ (f : Mv) (a : D), ds = [a] ∧ (a = .tup f.l ∨ a = .lst f.l) ∧ (f.Ok ∧ f.In BM) ∧ Q (.ins C f.fs)
/-! law/k02 -/
theorem frz_lst {i : Nat} {ds : DS} {d : DEnds} {ρ : Rho} {a : Addr} {xs : List D} (h : lk i ρ = some (.lst a xs)) (k : ds d (ρ.set i (some (.d (.lst xs))))) : dFrz i ds d ρ := by
  unfold dFrz
  rw [h]
  exact k
end DL

namespace DL
open PySem PySem.Spec PyProof.Rows L2
def topS (i : Nat) : Stmt := PySem.Challenge.pw_unseencurves_k02_moves_made.main.body.getD i (.Pass ⟨0, 0, 0, 0⟩)
local macro_rules | `(tactic| walk_at "dl") => `(tactic| ((try simp -implicitDefEqProofs only [startD]); simp -implicitDefEqProofs only [dInN, dNotInN, anyEq, List.any_cons, List.any_nil, dSlS, dVar, dC, lk, dOp, dUn, dI2, dI0, dI1, dAdd, dEqN, dNeN, dB, dAnd, dOr, dNot, dAndV, dOrV, dNotV, dIf, dNil, dCons, dTup, dLst, dIx, onS, dNext, dSeq, dBrk, dCnt, dDrop, dRet, dRetN, dIfS, dName, dgNil, dgCons, dgTup, dAsg, dPar, dSeqI, dLstI, dTupI, dStrI, dRng1, dRng2, dFor, dCall, dCallD, dCB, dFld, dFldO, dPutO, dMeth, dMake, fget, fput, dIsi, dIsiT, dIsiC, dProp, dOwn, dBM, tyD, kitAnyB, dAbs, dIntC, dLen, dList, dTuple, dAllB, dAnyB, dSum, dComp, wipeD, dTs1, dZip, dEnum, dNewL, dOwnL, dSetL, dIxO, dApp, dLenO, dFrz, dIsN, dNotN, isNonD, dChain, dSl, dSlL, dPart, dNoPart, List.set_cons_zero, List.set_cons_succ, List.cons_append, List.nil_append, List.append_nil, List.length_cons, List.length_nil, deq, deqs, D.isData, allData, true_and, and_true, beq_iff_eq, bne_iff_ne, decide_eq_true_eq, Bool.not_true, Bool.not_false, Bool.false_eq_true, Bool.true_eq_false, if_true, if_false, Bool.and_true, Bool.true_and, Bool.and_false, Bool.false_and, Bool.or_true, Bool.true_or, Bool.or_false, Bool.false_or, Nat.reduceAdd, Nat.reduceSub, Nat.reduceLeDiff, Nat.reduceLT, kb_NoneType_int, kb_NoneType_bool, kb_NoneType_str, kb_NoneType_list, kb_NoneType_tuple, kb_bool_int, kb_bool_bool, kb_bool_str, kb_bool_list, kb_bool_tuple, kb_int_int, kb_int_bool, kb_int_str, kb_int_list, kb_int_tuple, kb_str_int, kb_str_bool, kb_str_str, kb_str_list, kb_str_tuple, kb_tuple_int, kb_tuple_bool, kb_tuple_str, kb_tuple_list, kb_tuple_tuple, kb_list_int, kb_list_bool, kb_list_str, kb_list_list, kb_list_tuple, atI_0, atI_1, atI_2, atI_3, atI_4, atI_5, atI_6, atI_7, ixN_1_0, ixN_2_0, ixN_2_1, ixN_3_0, ixN_3_1, ixN_3_2, ixN_4_0, ixN_4_1, ixN_4_2, ixN_4_3, ixN_5_0, ixN_5_1, ixN_5_2, ixN_5_3, ixN_5_4, ixN_6_0, ixN_6_1, ixN_6_2, ixN_6_3, ixN_6_4, ixN_6_5, List.length_set, List.length_map, List.length_append]))
local macro_rules | `(tactic| walk_at "blk") => `(tactic| first | rfl | (dsimp only [Cx.blk]; done) | (dsimp only [Cx.blk]; rfl))
local macro_rules | `(tactic| walk_at "dlh") => `(tactic| ((try simp -implicitDefEqProofs only [startD] at *); simp -implicitDefEqProofs only [dInN, dNotInN, anyEq, List.any_cons, List.any_nil, dSlS, dVar, dC, lk, dOp, dUn, dI2, dI0, dI1, dAdd, dEqN, dNeN, dB, dAnd, dOr, dNot, dAndV, dOrV, dNotV, dIf, dNil, dCons, dTup, dLst, dIx, onS, dNext, dSeq, dBrk, dCnt, dDrop, dRet, dRetN, dIfS, dName, dgNil, dgCons, dgTup, dAsg, dPar, dSeqI, dLstI, dTupI, dStrI, dRng1, dRng2, dFor, dCall, dCallD, dCB, dFld, dFldO, dPutO, dMeth, dMake, fget, fput, dIsi, dIsiT, dIsiC, dProp, dOwn, dBM, tyD, kitAnyB, dAbs, dIntC, dLen, dList, dTuple, dAllB, dAnyB, dSum, dComp, wipeD, dTs1, dZip, dEnum, dNewL, dOwnL, dSetL, dIxO, dApp, dLenO, dFrz, dIsN, dNotN, isNonD, dChain, dSl, dSlL, dPart, dNoPart, List.set_cons_zero, List.set_cons_succ, List.cons_append, List.nil_append, List.append_nil, List.length_cons, List.length_nil, deq, deqs, D.isData, allData, true_and, and_true, beq_iff_eq, bne_iff_ne, decide_eq_true_eq, Bool.not_true, Bool.not_false, Bool.false_eq_true, Bool.true_eq_false, if_true, if_false, Bool.and_true, Bool.true_and, Bool.and_false, Bool.false_and, Bool.or_true, Bool.true_or, Bool.or_false, Bool.false_or, Nat.reduceAdd, Nat.reduceSub, Nat.reduceLeDiff, Nat.reduceLT, kb_NoneType_int, kb_NoneType_bool, kb_NoneType_str, kb_NoneType_list, kb_NoneType_tuple, kb_bool_int, kb_bool_bool, kb_bool_str, kb_bool_list, kb_bool_tuple, kb_int_int, kb_int_bool, kb_int_str, kb_int_list, kb_int_tuple, kb_str_int, kb_str_bool, kb_str_str, kb_str_list, kb_str_tuple, kb_tuple_int, kb_tuple_bool, kb_tuple_str, kb_tuple_list, kb_tuple_tuple, kb_list_int, kb_list_bool, kb_list_str, kb_list_list, kb_list_tuple, atI_0, atI_1, atI_2, atI_3, atI_4, atI_5, atI_6, atI_7, ixN_1_0, ixN_2_0, ixN_2_1, ixN_3_0, ixN_3_1, ixN_3_2, ixN_4_0, ixN_4_1, ixN_4_2, ixN_4_3, ixN_5_0, ixN_5_1, ixN_5_2, ixN_5_3, ixN_5_4, ixN_6_0, ixN_6_1, ixN_6_2, ixN_6_3, ixN_6_4, ixN_6_5, List.length_set, List.length_map, List.length_append] at *))
section
variable {P : Program} {w : World} {K : PySem.W.Frag} {mg : Str → Option Value} {base : Heap} {C_Move : Addr}
structure Txt (K : PySem.W.Frag) (mg : Str → Option Value) (C_Move : Addr) : Prop where
  a_Move_parts : NoAttr K C_Move "parts"
  c_Move : Cls K C_Move
  k_MOST_SHIFT : ∃ t, mg "MOST_SHIFT" = some (.int 1000000000000 t)
  m_Move : mg "Move" = some (.ref C_Move)
  n_abs : mg "abs" = none
  n_all : mg "all" = none
  n_bool : mg "bool" = none
  n_int : mg "int" = none
  n_isinstance : mg "isinstance" = none
  n_len : mg "len" = none
  n_list : mg "list" = none
  n_range : mg "range" = none
  n_str : mg "str" = none
  n_tuple : mg "tuple" = none
  n_zip : mg "zip" = none
  t_Move : InsT K C_Move
abbrev s_turned_point : Stmt := topS 7
abbrev N_turned_point : List Str := ["turns", "mirrored", "point", "x", "y"]
theorem sc_turned_point : FnScope N_turned_point ["turns", "mirrored", "point"] (defScope s_turned_point) := ⟨rfl, rfl, rfl, by decide +kernel, rfl, by decide +kernel, by decide +kernel⟩

theorem ok_turned_point {f : Addr} {fd : FuncData} (T : Txt K mg C_Move) (F : FunX K "turned_point" "turned_point" s_turned_point f fd)  : FnOk P w K mg base (L2.CX P w) 1 f fd ["turns", "mirrored", "point"] (SpW K wp_turned_point) := by
  refine fn_ok (k := 0) (N := N_turned_point) 5 rfl F sc_turned_point (fun ds Q Ed h => ?_) (fun cdv A outer s H E hr ds Qd Ed hw => ⟨_, _,
    (b_cons (st_asg (e_var 2) (g_tup rfl (gs_cons (g_name 3 sc_turned_point.nd) (gs_cons (g_name 4 sc_turned_point.nd) gs_nil)) (len_names [3, 4])))
    (b_cons (st_if (t_eq hr (e_var 1) e_int)
    (b_one (st_set 3 sc_turned_point.nd (e_neg (e_var 3))))
    b_nil)
    (b_cons (st_if (t_eq hr (e_var 0) e_int)
    (b_one (st_ret (e_tup (a_cons (e_neg (e_var 4)) (a_cons (e_var 3) a_nil)))))
    b_nil)
    (b_cons (st_if (t_eq hr (e_var 0) e_int)
    (b_one (st_ret (e_tup (a_cons (e_neg (e_var 3)) (a_cons (e_neg (e_var 4)) a_nil)))))
    b_nil)
    (b_cons (st_if (t_eq hr (e_var 0) e_int)
    (b_one (st_ret (e_tup (a_cons (e_var 4) (a_cons (e_neg (e_var 3)) a_nil)))))
    b_nil)
    (b_one (st_ret (e_tup (a_cons (e_var 3) (a_cons (e_var 4) a_nil)))))))))), ?_⟩)
  · unfold wp_turned_point at h
    split at h
    · rfl
    · exact h.elim
  · unfold wp_turned_point at hw
    split at hw
    · rename_i t m x y
      walk_at "dl"
      unfold turnP at hw
      by_cases h1 : m = 1 <;> by_cases h2 : t = 1 <;> by_cases h3 : t = 2 <;> by_cases h4 : t = 3 <;> simp_all
    · exact hw.elim
abbrev s_is_whole : Stmt := topS 9
abbrev N_is_whole : List Str := ["value"]
theorem sc_is_whole : FnScope N_is_whole ["value"] (defScope s_is_whole) := ⟨rfl, rfl, rfl, by decide +kernel, rfl, by decide +kernel, by decide +kernel⟩

theorem ok_is_whole {f : Addr} {fd : FuncData} (T : Txt K mg C_Move) (F : FunX K "is_whole" "is_whole" s_is_whole f fd)  : FnOk P w K mg base (L2.CX P w) 1 f fd ["value"] (SpW K wp_is_whole) := by
  refine fn_ok (k := 0) (N := N_is_whole) 1 rfl F sc_is_whole (fun ds Q Ed h => ?_) (fun cdv A outer s H E hr ds Qd Ed hw => ⟨_, _,
    (b_one (st_ret (e_and (e_isi T.n_isinstance (a_cons (e_var 0) (a_cons (b_ty "int" T.n_int) a_nil))) (e_one (e_not (e_isi T.n_isinstance (a_cons (e_var 0) (a_cons (b_ty "bool" T.n_bool) a_nil)))))))), ?_⟩)
  · unfold wp_is_whole at h
    split at h <;> first | rfl | exact h.elim
  · unfold wp_is_whole at hw
    split at hw <;> first | exact hw.elim | (walk_at "dl"; exact hw)
abbrev s_Move___init__ : Stmt := inClass (topS 10) 0
abbrev N_Move___init__ : List Str := ["self", "dx", "dy", "turns", "mirrored", "number"]
theorem sc_Move___init__ : FnScope N_Move___init__ ["self", "dx", "dy", "turns", "mirrored"] (defScope s_Move___init__) := ⟨rfl, rfl, rfl, by decide +kernel, rfl, by decide +kernel, by decide +kernel⟩

theorem ok_Move_init {f : Addr} {fd : FuncData} (T : Txt K mg C_Move) (F : FunX K "__init__" "Move.__init__" s_Move___init__ f fd) (c_is_whole : Callee P w K mg base "is_whole" 1 wp_is_whole [] []) : FnOk P w K mg base (L2.CX P w) 2 f fd ["self", "dx", "dy", "turns", "mirrored"] (SpI K C_Move wp_Move_init) := by
  refine init_ok (k := 1) (N := N_Move___init__) 5 rfl F sc_Move___init__ (fun ds Q Ed h => ?_) (fun cdv A outer s H E hr x ds Qf Ed hw => ⟨_, _,
    (b_cons (st_for (passes_of rfl) rfl (i_seq (e_tup (a_cons (e_var 1) (a_cons (e_var 2) (a_cons (e_var 3) a_nil))))) (g_name 5 sc_Move___init__.nd)
    (b_one (st_if (t_not (t_val (e_call c_is_whole (hr.mono (by first | decide | omega)) passE (a_cons (e_var 5) a_nil))))
    (b_one st_never)
    b_nil)))
    (b_cons (st_for (passes_of rfl) rfl (i_seq (e_tup (a_cons (e_var 1) (a_cons (e_var 2) a_nil)))) (g_name 5 sc_Move___init__.nd)
    (b_one (st_if (t_gt (e_abs T.n_abs (a_cons (e_var 5) a_nil)) (e_cInt T.k_MOST_SHIFT))
    (b_one st_never)
    b_nil)))
    (b_one (st_putO 0 T.c_Move T.a_Move_parts (e_tup (a_cons (e_var 1) (a_cons (e_var 2) (a_cons (e_mod (e_int_ T.n_int (a_cons (e_var 3) a_nil)) e_int) (a_cons (e_if (t_val (e_var 4)) e_int e_int) a_nil))))))))), ?_⟩)
  · unfold wp_Move_init at h
    split at h
    · rfl
    · exact h.elim
  · unfold wp_Move_init at hw
    split at hw
    · rename_i dx dy t m
      obtain ⟨hb, hw⟩ := hw
      simp -implicitDefEqProofs only [startD, List.set_cons_zero, List.cons_append, List.nil_append]
      refine seq_eq [some (.ins x C_Move []), some (.d (.int dx)), some (.d (.int dy)), some (.d (.int t)), some (.d (.bl m)), some (.d (.int t))] (fun N hN => for_of [.int dx, .int dy, .int t] (fun N h => by walk_at "dl"; exact h) (loop_cons _ (fun N hN => by walk_at "dl"; simp only [wp_is_whole]; walk_at "dl"; exact hN) (loop_cons _ (fun N hN => by walk_at "dl"; simp only [wp_is_whole]; walk_at "dl"; exact hN) (loop_cons _ (fun N hN => by walk_at "dl"; simp only [wp_is_whole]; walk_at "dl"; exact hN) (loop_nil hN))))) ?_
      refine seq_eq [some (.ins x C_Move []), some (.d (.int dx)), some (.d (.int dy)), some (.d (.int t)), some (.d (.bl m)), some (.d (.int dy))] (fun N hN => for_of [.int dx, .int dy] (fun N h => by walk_at "dl"; exact h) (loop_cons _ (fun N hN => by walk_at "dl"; rw [if_neg (by split <;> omega)]; exact hN) (loop_cons _ (fun N hN => by walk_at "dl"; rw [if_neg (by split <;> omega)]; exact hN) (loop_nil hN)))) ?_
      walk_at "dl"
      refine ⟨by omega, ?_⟩
      cases m <;> simpa only [moveF, bI, Bool.false_eq_true, if_true, if_false] using hw
    · exact hw.elim
abbrev s_Move_sign : Stmt := inClass (topS 10) 5
abbrev N_Move_sign : List Str := ["self"]
theorem sc_Move_sign : FnScope N_Move_sign ["self"] (defScope s_Move_sign) := ⟨rfl, rfl, rfl, by decide +kernel, rfl, by decide +kernel, by decide +kernel⟩

theorem ok_Move_sign {f : Addr} {fd : FuncData} (T : Txt K mg C_Move) (F : FunX K "sign" "Move.sign" s_Move_sign f fd)  : FnOk P w K mg base (L2.CX P w) 1 f fd ["self"] (SpW K (wp_Msign C_Move)) := by
  refine fn_ok (k := 0) (N := N_Move_sign) 1 rfl F sc_Move_sign (fun ds Q Ed h => ?_) (fun cdv A outer s H E hr ds Qd Ed hw => ⟨_, _,
    (b_one (st_ret (e_sub e_int (e_mul e_int (e_ix (e_fld T.c_Move T.a_Move_parts (e_var 0)) e_int))))), ?_⟩)
  · obtain ⟨_, rfl, _⟩ := h
    rfl
  · obtain ⟨f, rfl, hw⟩ := hw
    simp -implicitDefEqProofs only [startD]
    simp only [Mv.fs, Mv.l]
    simp -implicitDefEqProofs only [fget, if_true, dInN, dNotInN, anyEq, List.any_cons, List.any_nil, dSlS, dVar, dC, lk, dOp, dUn, dI2, dI0, dI1, dAdd, dEqN, dNeN, dB, dAnd, dOr, dNot, dAndV, dOrV, dNotV, dIf, dNil, dCons, dTup, dLst, dIx, onS, dNext, dSeq, dBrk, dCnt, dDrop, dRet, dRetN, dIfS, dName, dgNil, dgCons, dgTup, dAsg, dPar, dSeqI, dLstI, dTupI, dStrI, dRng1, dRng2, dFor, dCall, dCallD, dCB, dFld, dFldO, dPutO, dMeth, dMake, fget, fput, dIsi, dIsiT, dIsiC, dProp, dOwn, dBM, tyD, kitAnyB, dAbs, dIntC, dLen, dList, dTuple, dAllB, dAnyB, dSum, dComp, wipeD, dTs1, dZip, dEnum, dNewL, dOwnL, dSetL, dIxO, dApp, dLenO, dFrz, dIsN, dNotN, isNonD, dChain, dSl, dSlL, dPart, dNoPart, List.set_cons_zero, List.set_cons_succ, List.cons_append, List.nil_append, List.append_nil, List.length_cons, List.length_nil, deq, deqs, D.isData, allData, true_and, and_true, beq_iff_eq, bne_iff_ne, decide_eq_true_eq, Bool.not_true, Bool.not_false, Bool.false_eq_true, Bool.true_eq_false, if_true, if_false, Bool.and_true, Bool.true_and, Bool.and_false, Bool.false_and, Bool.or_true, Bool.true_or, Bool.or_false, Bool.false_or, Nat.reduceAdd, Nat.reduceSub, Nat.reduceLeDiff, Nat.reduceLT, kb_NoneType_int, kb_NoneType_bool, kb_NoneType_str, kb_NoneType_list, kb_NoneType_tuple, kb_bool_int, kb_bool_bool, kb_bool_str, kb_bool_list, kb_bool_tuple, kb_int_int, kb_int_bool, kb_int_str, kb_int_list, kb_int_tuple, kb_str_int, kb_str_bool, kb_str_str, kb_str_list, kb_str_tuple, kb_tuple_int, kb_tuple_bool, kb_tuple_str, kb_tuple_list, kb_tuple_tuple, kb_list_int, kb_list_bool, kb_list_str, kb_list_list, kb_list_tuple, atI_0, atI_1, atI_2, atI_3, atI_4, atI_5, atI_6, atI_7, ixN_1_0, ixN_2_0, ixN_2_1, ixN_3_0, ixN_3_1, ixN_3_2, ixN_4_0, ixN_4_1, ixN_4_2, ixN_4_3, ixN_5_0, ixN_5_1, ixN_5_2, ixN_5_3, ixN_5_4, ixN_6_0, ixN_6_1, ixN_6_2, ixN_6_3, ixN_6_4, ixN_6_5, List.length_set, List.length_map, List.length_append]
    exact ⟨.inl ⟨by decide, by decide⟩, hw⟩
abbrev s_Move___eq__ : Stmt := inClass (topS 10) 10
abbrev N_Move___eq__ : List Str := ["self", "other"]
theorem sc_Move___eq__ : FnScope N_Move___eq__ ["self", "other"] (defScope s_Move___eq__) := ⟨rfl, rfl, rfl, by decide +kernel, rfl, by decide +kernel, by decide +kernel⟩

theorem ok_Move___eq__ {f : Addr} {fd : FuncData} (T : Txt K mg C_Move) (F : FunX K "__eq__" "Move.__eq__" s_Move___eq__ f fd)  : FnOk P w K mg base (L2.CX P w) 2 f fd ["self", "other"] (SpW K (wp_Meq C_Move)) := by
  refine fn_ok (k := 1) (N := N_Move___eq__) 2 rfl F sc_Move___eq__ (fun ds Q Ed h => ?_) (fun cdv A outer s H E hr ds Qd Ed hw => ⟨_, _,
    (b_one (st_ret (e_and (e_isiC T.t_Move T.n_isinstance (a_cons (e_var 1) (a_cons (e_cls T.m_Move) a_nil))) (e_one (e_eq hr (e_fld T.c_Move T.a_Move_parts (e_var 0)) (e_fld T.c_Move T.a_Move_parts (e_var 1))))))), ?_⟩)
  · obtain ⟨_, _, rfl, _⟩ := h
    rfl
  · obtain ⟨f, g, rfl, hw⟩ := hw
    simp -implicitDefEqProofs only [startD]
    simp only [Mv.fs]
    simp -implicitDefEqProofs only [dIsiC, fget, if_true, dInN, dNotInN, anyEq, List.any_cons, List.any_nil, dSlS, dVar, dC, lk, dOp, dUn, dI2, dI0, dI1, dAdd, dEqN, dNeN, dB, dAnd, dOr, dNot, dAndV, dOrV, dNotV, dIf, dNil, dCons, dTup, dLst, dIx, onS, dNext, dSeq, dBrk, dCnt, dDrop, dRet, dRetN, dIfS, dName, dgNil, dgCons, dgTup, dAsg, dPar, dSeqI, dLstI, dTupI, dStrI, dRng1, dRng2, dFor, dCall, dCallD, dCB, dFld, dFldO, dPutO, dMeth, dMake, fget, fput, dIsi, dIsiT, dIsiC, dProp, dOwn, dBM, tyD, kitAnyB, dAbs, dIntC, dLen, dList, dTuple, dAllB, dAnyB, dSum, dComp, wipeD, dTs1, dZip, dEnum, dNewL, dOwnL, dSetL, dIxO, dApp, dLenO, dFrz, dIsN, dNotN, isNonD, dChain, dSl, dSlL, dPart, dNoPart, List.set_cons_zero, List.set_cons_succ, List.cons_append, List.nil_append, List.append_nil, List.length_cons, List.length_nil, deq, deqs, D.isData, allData, true_and, and_true, beq_iff_eq, bne_iff_ne, decide_eq_true_eq, Bool.not_true, Bool.not_false, Bool.false_eq_true, Bool.true_eq_false, if_true, if_false, Bool.and_true, Bool.true_and, Bool.and_false, Bool.false_and, Bool.or_true, Bool.true_or, Bool.or_false, Bool.false_or, Nat.reduceAdd, Nat.reduceSub, Nat.reduceLeDiff, Nat.reduceLT, kb_NoneType_int, kb_NoneType_bool, kb_NoneType_str, kb_NoneType_list, kb_NoneType_tuple, kb_bool_int, kb_bool_bool, kb_bool_str, kb_bool_list, kb_bool_tuple, kb_int_int, kb_int_bool, kb_int_str, kb_int_list, kb_int_tuple, kb_str_int, kb_str_bool, kb_str_str, kb_str_list, kb_str_tuple, kb_tuple_int, kb_tuple_bool, kb_tuple_str, kb_tuple_list, kb_tuple_tuple, kb_list_int, kb_list_bool, kb_list_str, kb_list_list, kb_list_tuple, atI_0, atI_1, atI_2, atI_3, atI_4, atI_5, atI_6, atI_7, ixN_1_0, ixN_2_0, ixN_2_1, ixN_3_0, ixN_3_1, ixN_3_2, ixN_4_0, ixN_4_1, ixN_4_2, ixN_4_3, ixN_5_0, ixN_5_1, ixN_5_2, ixN_5_3, ixN_5_4, ixN_6_0, ixN_6_1, ixN_6_2, ixN_6_3, ixN_6_4, ixN_6_5, List.length_set, List.length_map, List.length_append]
    rw [show deqs f.l g.l = decide (f = g) from Mv.deq f g]
    exact ⟨rfl, rfl, hw⟩
abbrev s_Move_still : Stmt := inClass (topS 10) 1
abbrev N_Move_still : List Str := []
theorem sc_Move_still : FnScope N_Move_still [] (defScope s_Move_still) := ⟨rfl, rfl, rfl, by decide +kernel, rfl, by decide +kernel, by decide +kernel⟩

theorem ok_Move_still {f : Addr} {fd : FuncData} (T : Txt K mg C_Move) (F : FunX K "still" "Move.still" s_Move_still f fd) (c_Move_0 : Maker P w K mg base "Move" C_Move 2 wp_Move_init [.int (0), .int (0), .int (0), .bl false] [.int (0), .int (0), .int (0), .bl false]) : FnOk P w K mg base (L2.CX P w) 4 f fd [] (SpW K (wp_still C_Move)) := by
  refine fn_ok (k := 3) (N := N_Move_still) 0 rfl F sc_Move_still (fun ds Q Ed h => ?_) (fun cdv A outer s H E hr ds Qd Ed hw => ⟨_, _,
    (b_one (st_ret (e_make0 c_Move_0 (hr.mono (by first | decide | omega)) passE))), ?_⟩)
  · obtain ⟨rfl, _⟩ := h
    rfl
  · obtain ⟨rfl, hw⟩ := hw
    simp -implicitDefEqProofs only [startD]
    simp -implicitDefEqProofs only [wp_Move_init, dInN, dNotInN, anyEq, List.any_cons, List.any_nil, dSlS, dVar, dC, lk, dOp, dUn, dI2, dI0, dI1, dAdd, dEqN, dNeN, dB, dAnd, dOr, dNot, dAndV, dOrV, dNotV, dIf, dNil, dCons, dTup, dLst, dIx, onS, dNext, dSeq, dBrk, dCnt, dDrop, dRet, dRetN, dIfS, dName, dgNil, dgCons, dgTup, dAsg, dPar, dSeqI, dLstI, dTupI, dStrI, dRng1, dRng2, dFor, dCall, dCallD, dCB, dFld, dFldO, dPutO, dMeth, dMake, fget, fput, dIsi, dIsiT, dIsiC, dProp, dOwn, dBM, tyD, kitAnyB, dAbs, dIntC, dLen, dList, dTuple, dAllB, dAnyB, dSum, dComp, wipeD, dTs1, dZip, dEnum, dNewL, dOwnL, dSetL, dIxO, dApp, dLenO, dFrz, dIsN, dNotN, isNonD, dChain, dSl, dSlL, dPart, dNoPart, List.set_cons_zero, List.set_cons_succ, List.cons_append, List.nil_append, List.append_nil, List.length_cons, List.length_nil, deq, deqs, D.isData, allData, true_and, and_true, beq_iff_eq, bne_iff_ne, decide_eq_true_eq, Bool.not_true, Bool.not_false, Bool.false_eq_true, Bool.true_eq_false, if_true, if_false, Bool.and_true, Bool.true_and, Bool.and_false, Bool.false_and, Bool.or_true, Bool.true_or, Bool.or_false, Bool.false_or, Nat.reduceAdd, Nat.reduceSub, Nat.reduceLeDiff, Nat.reduceLT, kb_NoneType_int, kb_NoneType_bool, kb_NoneType_str, kb_NoneType_list, kb_NoneType_tuple, kb_bool_int, kb_bool_bool, kb_bool_str, kb_bool_list, kb_bool_tuple, kb_int_int, kb_int_bool, kb_int_str, kb_int_list, kb_int_tuple, kb_str_int, kb_str_bool, kb_str_str, kb_str_list, kb_str_tuple, kb_tuple_int, kb_tuple_bool, kb_tuple_str, kb_tuple_list, kb_tuple_tuple, kb_list_int, kb_list_bool, kb_list_str, kb_list_list, kb_list_tuple, atI_0, atI_1, atI_2, atI_3, atI_4, atI_5, atI_6, atI_7, ixN_1_0, ixN_2_0, ixN_2_1, ixN_3_0, ixN_3_1, ixN_3_2, ixN_4_0, ixN_4_1, ixN_4_2, ixN_4_3, ixN_5_0, ixN_5_1, ixN_5_2, ixN_5_3, ixN_5_4, ixN_6_0, ixN_6_1, ixN_6_2, ixN_6_3, ixN_6_4, ixN_6_5, List.length_set, List.length_map, List.length_append]
    exact ⟨by decide, hw⟩
abbrev s_Move_shifted : Stmt := inClass (topS 10) 2
abbrev N_Move_shifted : List Str := ["cls", "dx", "dy"]
theorem sc_Move_shifted : FnScope N_Move_shifted ["cls", "dx", "dy"] (defScope s_Move_shifted) := ⟨rfl, rfl, rfl, by decide +kernel, rfl, by decide +kernel, by decide +kernel⟩

theorem ok_Move_shifted {f : Addr} {fd : FuncData} (T : Txt K mg C_Move) (F : FunX K "shifted" "Move.shifted" s_Move_shifted f fd) (c_Move_2 : Maker P w K mg base "Move" C_Move 2 wp_Move_init [.int (0), .bl false] [.int (0), .bl false]) : FnOk P w K mg base (L2.CX P w) 4 f fd ["cls", "dx", "dy"] (SpW K (wp_shifted C_Move)) := by
  refine fn_ok (k := 3) (N := N_Move_shifted) 3 rfl F sc_Move_shifted (fun ds Q Ed h => ?_) (fun cdv A outer s H E hr ds Qd Ed hw => ⟨_, _,
    (b_one (st_ret (e_makeV 0 c_Move_2 (hr.mono (by first | decide | omega)) passE (a_cons (e_var 1) (a_cons (e_var 2) a_nil))))), ?_⟩)
  · obtain ⟨_, _, rfl, _⟩ := h
    rfl
  · obtain ⟨x, y, rfl, hb, hw⟩ := hw
    simp -implicitDefEqProofs only [startD]
    simp -implicitDefEqProofs only [dMakeV, wp_Move_init, dInN, dNotInN, anyEq, List.any_cons, List.any_nil, dSlS, dVar, dC, lk, dOp, dUn, dI2, dI0, dI1, dAdd, dEqN, dNeN, dB, dAnd, dOr, dNot, dAndV, dOrV, dNotV, dIf, dNil, dCons, dTup, dLst, dIx, onS, dNext, dSeq, dBrk, dCnt, dDrop, dRet, dRetN, dIfS, dName, dgNil, dgCons, dgTup, dAsg, dPar, dSeqI, dLstI, dTupI, dStrI, dRng1, dRng2, dFor, dCall, dCallD, dCB, dFld, dFldO, dPutO, dMeth, dMake, fget, fput, dIsi, dIsiT, dIsiC, dProp, dOwn, dBM, tyD, kitAnyB, dAbs, dIntC, dLen, dList, dTuple, dAllB, dAnyB, dSum, dComp, wipeD, dTs1, dZip, dEnum, dNewL, dOwnL, dSetL, dIxO, dApp, dLenO, dFrz, dIsN, dNotN, isNonD, dChain, dSl, dSlL, dPart, dNoPart, List.set_cons_zero, List.set_cons_succ, List.cons_append, List.nil_append, List.append_nil, List.length_cons, List.length_nil, deq, deqs, D.isData, allData, true_and, and_true, beq_iff_eq, bne_iff_ne, decide_eq_true_eq, Bool.not_true, Bool.not_false, Bool.false_eq_true, Bool.true_eq_false, if_true, if_false, Bool.and_true, Bool.true_and, Bool.and_false, Bool.false_and, Bool.or_true, Bool.true_or, Bool.or_false, Bool.false_or, Nat.reduceAdd, Nat.reduceSub, Nat.reduceLeDiff, Nat.reduceLT, kb_NoneType_int, kb_NoneType_bool, kb_NoneType_str, kb_NoneType_list, kb_NoneType_tuple, kb_bool_int, kb_bool_bool, kb_bool_str, kb_bool_list, kb_bool_tuple, kb_int_int, kb_int_bool, kb_int_str, kb_int_list, kb_int_tuple, kb_str_int, kb_str_bool, kb_str_str, kb_str_list, kb_str_tuple, kb_tuple_int, kb_tuple_bool, kb_tuple_str, kb_tuple_list, kb_tuple_tuple, kb_list_int, kb_list_bool, kb_list_str, kb_list_list, kb_list_tuple, atI_0, atI_1, atI_2, atI_3, atI_4, atI_5, atI_6, atI_7, ixN_1_0, ixN_2_0, ixN_2_1, ixN_3_0, ixN_3_1, ixN_3_2, ixN_4_0, ixN_4_1, ixN_4_2, ixN_4_3, ixN_5_0, ixN_5_1, ixN_5_2, ixN_5_3, ixN_5_4, ixN_6_0, ixN_6_1, ixN_6_2, ixN_6_3, ixN_6_4, ixN_6_5, List.length_set, List.length_map, List.length_append]
    exact ⟨hb, hw⟩
abbrev s_Move_turned : Stmt := inClass (topS 10) 3
abbrev N_Move_turned : List Str := ["cls", "quarters"]
theorem sc_Move_turned : FnScope N_Move_turned ["cls", "quarters"] (defScope s_Move_turned) := ⟨rfl, rfl, rfl, by decide +kernel, rfl, by decide +kernel, by decide +kernel⟩

theorem ok_Move_turned {f : Addr} {fd : FuncData} (T : Txt K mg C_Move) (F : FunX K "turned" "Move.turned" s_Move_turned f fd) (c_Move_3 : Maker P w K mg base "Move" C_Move 2 wp_Move_init [.bl false] [.bl false]) : FnOk P w K mg base (L2.CX P w) 4 f fd ["cls", "quarters"] (SpW K (wp_turned C_Move)) := by
  refine fn_ok (k := 3) (N := N_Move_turned) 2 rfl F sc_Move_turned (fun ds Q Ed h => ?_) (fun cdv A outer s H E hr ds Qd Ed hw => ⟨_, _,
    (b_one (st_ret (e_makeV 0 c_Move_3 (hr.mono (by first | decide | omega)) passE (a_cons e_int (a_cons e_int (a_cons (e_var 1) a_nil)))))), ?_⟩)
  · obtain ⟨_, rfl, _⟩ := h
    rfl
  · obtain ⟨n, rfl, hw⟩ := hw
    simp -implicitDefEqProofs only [startD]
    simp -implicitDefEqProofs only [dMakeV, wp_Move_init, dInN, dNotInN, anyEq, List.any_cons, List.any_nil, dSlS, dVar, dC, lk, dOp, dUn, dI2, dI0, dI1, dAdd, dEqN, dNeN, dB, dAnd, dOr, dNot, dAndV, dOrV, dNotV, dIf, dNil, dCons, dTup, dLst, dIx, onS, dNext, dSeq, dBrk, dCnt, dDrop, dRet, dRetN, dIfS, dName, dgNil, dgCons, dgTup, dAsg, dPar, dSeqI, dLstI, dTupI, dStrI, dRng1, dRng2, dFor, dCall, dCallD, dCB, dFld, dFldO, dPutO, dMeth, dMake, fget, fput, dIsi, dIsiT, dIsiC, dProp, dOwn, dBM, tyD, kitAnyB, dAbs, dIntC, dLen, dList, dTuple, dAllB, dAnyB, dSum, dComp, wipeD, dTs1, dZip, dEnum, dNewL, dOwnL, dSetL, dIxO, dApp, dLenO, dFrz, dIsN, dNotN, isNonD, dChain, dSl, dSlL, dPart, dNoPart, List.set_cons_zero, List.set_cons_succ, List.cons_append, List.nil_append, List.append_nil, List.length_cons, List.length_nil, deq, deqs, D.isData, allData, true_and, and_true, beq_iff_eq, bne_iff_ne, decide_eq_true_eq, Bool.not_true, Bool.not_false, Bool.false_eq_true, Bool.true_eq_false, if_true, if_false, Bool.and_true, Bool.true_and, Bool.and_false, Bool.false_and, Bool.or_true, Bool.true_or, Bool.or_false, Bool.false_or, Nat.reduceAdd, Nat.reduceSub, Nat.reduceLeDiff, Nat.reduceLT, kb_NoneType_int, kb_NoneType_bool, kb_NoneType_str, kb_NoneType_list, kb_NoneType_tuple, kb_bool_int, kb_bool_bool, kb_bool_str, kb_bool_list, kb_bool_tuple, kb_int_int, kb_int_bool, kb_int_str, kb_int_list, kb_int_tuple, kb_str_int, kb_str_bool, kb_str_str, kb_str_list, kb_str_tuple, kb_tuple_int, kb_tuple_bool, kb_tuple_str, kb_tuple_list, kb_tuple_tuple, kb_list_int, kb_list_bool, kb_list_str, kb_list_list, kb_list_tuple, atI_0, atI_1, atI_2, atI_3, atI_4, atI_5, atI_6, atI_7, ixN_1_0, ixN_2_0, ixN_2_1, ixN_3_0, ixN_3_1, ixN_3_2, ixN_4_0, ixN_4_1, ixN_4_2, ixN_4_3, ixN_5_0, ixN_5_1, ixN_5_2, ixN_5_3, ixN_5_4, ixN_6_0, ixN_6_1, ixN_6_2, ixN_6_3, ixN_6_4, ixN_6_5, List.length_set, List.length_map, List.length_append]
    exact ⟨by decide, hw⟩
abbrev s_Move_flipped : Stmt := inClass (topS 10) 4
abbrev N_Move_flipped : List Str := ["cls"]
theorem sc_Move_flipped : FnScope N_Move_flipped ["cls"] (defScope s_Move_flipped) := ⟨rfl, rfl, rfl, by decide +kernel, rfl, by decide +kernel, by decide +kernel⟩

theorem ok_Move_flipped {f : Addr} {fd : FuncData} (T : Txt K mg C_Move) (F : FunX K "flipped" "Move.flipped" s_Move_flipped f fd) (c_Move : Maker P w K mg base "Move" C_Move 2 wp_Move_init [] []) : FnOk P w K mg base (L2.CX P w) 4 f fd ["cls"] (SpW K (wp_flip C_Move)) := by
  refine fn_ok (k := 3) (N := N_Move_flipped) 1 rfl F sc_Move_flipped (fun ds Q Ed h => ?_) (fun cdv A outer s H E hr ds Qd Ed hw => ⟨_, _,
    (b_one (st_ret (e_makeV 0 c_Move (hr.mono (by first | decide | omega)) passE (a_cons e_int (a_cons e_int (a_cons e_int (a_cons e_bl a_nil))))))), ?_⟩)
  · obtain ⟨rfl, _⟩ := h
    rfl
  · obtain ⟨rfl, hw⟩ := hw
    simp -implicitDefEqProofs only [startD]
    simp -implicitDefEqProofs only [dMakeV, wp_Move_init, dInN, dNotInN, anyEq, List.any_cons, List.any_nil, dSlS, dVar, dC, lk, dOp, dUn, dI2, dI0, dI1, dAdd, dEqN, dNeN, dB, dAnd, dOr, dNot, dAndV, dOrV, dNotV, dIf, dNil, dCons, dTup, dLst, dIx, onS, dNext, dSeq, dBrk, dCnt, dDrop, dRet, dRetN, dIfS, dName, dgNil, dgCons, dgTup, dAsg, dPar, dSeqI, dLstI, dTupI, dStrI, dRng1, dRng2, dFor, dCall, dCallD, dCB, dFld, dFldO, dPutO, dMeth, dMake, fget, fput, dIsi, dIsiT, dIsiC, dProp, dOwn, dBM, tyD, kitAnyB, dAbs, dIntC, dLen, dList, dTuple, dAllB, dAnyB, dSum, dComp, wipeD, dTs1, dZip, dEnum, dNewL, dOwnL, dSetL, dIxO, dApp, dLenO, dFrz, dIsN, dNotN, isNonD, dChain, dSl, dSlL, dPart, dNoPart, List.set_cons_zero, List.set_cons_succ, List.cons_append, List.nil_append, List.append_nil, List.length_cons, List.length_nil, deq, deqs, D.isData, allData, true_and, and_true, beq_iff_eq, bne_iff_ne, decide_eq_true_eq, Bool.not_true, Bool.not_false, Bool.false_eq_true, Bool.true_eq_false, if_true, if_false, Bool.and_true, Bool.true_and, Bool.and_false, Bool.false_and, Bool.or_true, Bool.true_or, Bool.or_false, Bool.false_or, Nat.reduceAdd, Nat.reduceSub, Nat.reduceLeDiff, Nat.reduceLT, kb_NoneType_int, kb_NoneType_bool, kb_NoneType_str, kb_NoneType_list, kb_NoneType_tuple, kb_bool_int, kb_bool_bool, kb_bool_str, kb_bool_list, kb_bool_tuple, kb_int_int, kb_int_bool, kb_int_str, kb_int_list, kb_int_tuple, kb_str_int, kb_str_bool, kb_str_str, kb_str_list, kb_str_tuple, kb_tuple_int, kb_tuple_bool, kb_tuple_str, kb_tuple_list, kb_tuple_tuple, kb_list_int, kb_list_bool, kb_list_str, kb_list_list, kb_list_tuple, atI_0, atI_1, atI_2, atI_3, atI_4, atI_5, atI_6, atI_7, ixN_1_0, ixN_2_0, ixN_2_1, ixN_3_0, ixN_3_1, ixN_3_2, ixN_4_0, ixN_4_1, ixN_4_2, ixN_4_3, ixN_5_0, ixN_5_1, ixN_5_2, ixN_5_3, ixN_5_4, ixN_6_0, ixN_6_1, ixN_6_2, ixN_6_3, ixN_6_4, ixN_6_5, List.length_set, List.length_map, List.length_append]
    exact ⟨by decide, hw⟩
abbrev s_law_bag : Stmt := topS 12
abbrev N_law_bag : List Str := ["_law_script"]
theorem sc_law_bag : FnScope N_law_bag ["_law_script"] (defScope s_law_bag) := ⟨rfl, rfl, rfl, by decide +kernel, rfl, by decide +kernel, by decide +kernel⟩

theorem ok_law_bag {f : Addr} {fd : FuncData} (T : Txt K mg C_Move) (F : FunX K "_law_bag" "_law_bag" s_law_bag f fd) : FnOk P w K mg base (L2.CX P w) 1 f fd ["_law_script"] (SpW K wpBag) := by
  refine bag_new (F.okX (k := 0) (N := N_law_bag) sc_law_bag (fun vs H Q E h => ?_) (fun cdv A outer s H vs Q E hr h => ⟨_, (show JB (bx P w K mg base N_law_bag "_law_bag" s_law_bag f cdv A outer s H E) (fun _ => False) E (defBody s_law_bag) _ _ from
    (b_one (st_ret (e_lst (a_cons (e_list T.n_list (a_cons (e_slL (e_var 0) o_none (o_some e_int)) a_nil)) (a_cons e_int (a_cons e_int (a_cons e_int (a_cons e_int a_nil))))))))).pe, ?_⟩)) rfl
  · obtain ⟨a, ns, rfl, _⟩ := h
    rfl
  · obtain ⟨a, ns, rfl, ha, hq⟩ := h
    have hc : cutV (ns.map V.int) none (some 63) = (ns.take 63).map V.int := by
      unfold cutV
      simp only [HT.sIx, List.length_map, ← List.map_drop, ← List.map_take]
      congr 1
      simp only [List.drop_zero]
      rw [if_neg (by decide), Nat.sub_zero, ← List.take_take, List.take_length]
      rfl
    exact ⟨.ref a, rfl, 63, rfl, a, _, rfl, ha, fun p1 h1 => ⟨p1, _, rfl, .inl (SqL.of upd_same), fun l hl => ⟨(show 5 ≤ sizeLine by decide), fun p hp => hq p l _ ((same_upd h1).trans ((same_upd hl).trans (same_upd hp))) ((same_upd h1).trans (same_upd hl) |>.free hp) ((same_upd h1).free hl) (by rw [upd_ne (ne_of_none upd_same hp), upd_same, hc]) (by rw [upd_same]; rfl)⟩⟩⟩
abbrev s_law_pull : Stmt := topS 13
abbrev N_law_pull : List Str := ["_law_bag_here", "_law_many", "_law_cell", "_law_small_here", "_law_digit", "_law_seed", "_law_step"]
theorem sc_law_pull : FnScope N_law_pull ["_law_bag_here", "_law_many"] (defScope s_law_pull) := ⟨rfl, rfl, rfl, by decide +kernel, rfl, by decide +kernel, by decide +kernel⟩

theorem ok_law_pull {f : Addr} {fd : FuncData} (T : Txt K mg C_Move) (F : FunX K "_law_pull" "_law_pull" s_law_pull f fd) : FnOk P w K mg base (L2.CX P w) 1 f fd ["_law_bag_here", "_law_many"] (SpW K wpPull) := by
  refine bag_fn (fnO_ok (k := 0) (N := N_law_pull) 6 rfl F sc_law_pull (fun xs ds Q Ed h => ?_) (fun cdv A outer s H E hr q xs ds Qf Ed hw => ⟨_, _,
    (b_cons (st_setL 0 (e_add (e_ixO 0 e_int) e_int) e_int)
    (b_cons (st_if (t_w (w_and (t_eq hr (e_ixO 0 e_int) e_int) (w_and1 (t_lt (e_ixO 0 e_int) (e_len T.n_len (a_cons (e_ixO 0 e_int) a_nil))))))
    (b_cons (st_set 2 sc_law_pull.nd (e_ix (e_ixO 0 e_int) (e_ixO 0 e_int)))
    (b_cons (st_setL 0 (e_add (e_ixO 0 e_int) e_int) e_int)
    (b_one (st_if (t_ge (e_abs T.n_abs (a_cons (e_var 2) a_nil)) (e_pow e_int e_int))
    (b_one (st_setL 0 (e_abs T.n_abs (a_cons (e_var 2) a_nil)) e_int))
    (b_cons (st_set 3 sc_law_pull.nd (e_add (e_mul (e_mod (e_int_ T.n_int (a_cons (e_var 2) a_nil)) e_int) e_int) e_int))
    (b_one (st_setL 0 (e_mod (e_int_ T.n_int (a_cons (e_add (e_mul (e_ixO 0 e_int) e_int) (e_var 3)) a_nil)) e_int) e_int)))))))
    b_nil)
    (b_cons (st_if (t_gt (e_ixO 0 e_int) e_int)
    (b_cons (st_set 4 sc_law_pull.nd (e_mod (e_int_ T.n_int (a_cons (e_ixO 0 e_int) a_nil)) (e_var 1)))
    (b_cons (st_setL 0 (e_div (e_ixO 0 e_int) (e_var 1)) e_int)
    (b_one (st_ret (e_var 4)))))
    b_nil)
    (b_cons (st_set 5 sc_law_pull.nd (e_ixO 0 e_int))
    (b_cons (st_set 6 sc_law_pull.nd (e_add (e_add (e_mul (e_var 5) e_int) (e_mul (e_ixO 0 e_int) e_int)) e_int))
    (b_cons (st_setL 0 (e_mod (e_int_ T.n_int (a_cons (e_add (e_mul (e_mul (e_var 5) (e_var 5)) e_int) (e_var 6)) a_nil)) e_int) e_int)
    (b_one (st_ret (e_mod (e_int_ T.n_int (a_cons (e_add (e_div (e_ixO 0 e_int) e_int) (e_mul (e_mod (e_int_ T.n_int (a_cons (e_ixO 0 e_int) a_nil)) e_int) e_int)) a_nil)) (e_var 1)))))))))), ?_⟩)) rfl
  · obtain ⟨_, _, _, _, _, _, _, _, rfl, _⟩ := h
    rfl
  · obtain ⟨c, ns, i, g, sd, n, m, rfl, rfl, hl, i0, i1, g0, s0, s1, m0, m1, hq⟩ := hw
    simp -implicitDefEqProofs only [startD, List.set_cons_zero, List.cons_append, List.nil_append, bagD]
    refine seq_eq [some (.lst q (bagD c ns i g sd (n + 1))), some (.d (.int m)), none, none, none, none, none] (fun N hN => by walk_at "dl"; exact hN) ?_
    refine seq_of (fun ρ => ∃ i g s n u v, 0 ≤ i ∧ i ≤ (ns.length : Int) ∧ 0 ≤ g ∧ 0 ≤ s ∧ s < 2147483587 ∧ ρ = [some (.lst q (bagD c ns i g s n)), some (.d (.int m)), u, v, none, none, none]) (fun N hN => ?_) (fun ρ hρ => ?_)
    · simp only [bagD]
      by_cases hg : g = 0
      · by_cases hi : i < (ns.length : Int)
        · obtain ⟨v, hv⟩ := atI_map (f := D.int) i0 hi
          subst hg
          simp -implicitDefEqProofs only [hv, hi, dInN, dNotInN, anyEq, List.any_cons, List.any_nil, dSlS, dVar, dC, lk, dOp, dUn, dI2, dI0, dI1, dAdd, dEqN, dNeN, dB, dAnd, dOr, dNot, dAndV, dOrV, dNotV, dIf, dNil, dCons, dTup, dLst, dIx, onS, dNext, dSeq, dBrk, dCnt, dDrop, dRet, dRetN, dIfS, dName, dgNil, dgCons, dgTup, dAsg, dPar, dSeqI, dLstI, dTupI, dStrI, dRng1, dRng2, dFor, dCall, dCallD, dCB, dFld, dFldO, dPutO, dMeth, dMake, fget, fput, dIsi, dIsiT, dIsiC, dProp, dOwn, dBM, tyD, kitAnyB, dAbs, dIntC, dLen, dList, dTuple, dAllB, dAnyB, dSum, dComp, wipeD, dTs1, dZip, dEnum, dNewL, dOwnL, dSetL, dIxO, dApp, dLenO, dFrz, dIsN, dNotN, isNonD, dChain, dSl, dSlL, dPart, dNoPart, List.set_cons_zero, List.set_cons_succ, List.cons_append, List.nil_append, List.append_nil, List.length_cons, List.length_nil, deq, deqs, D.isData, allData, true_and, and_true, beq_iff_eq, bne_iff_ne, decide_eq_true_eq, Bool.not_true, Bool.not_false, Bool.false_eq_true, Bool.true_eq_false, if_true, if_false, Bool.and_true, Bool.true_and, Bool.and_false, Bool.false_and, Bool.or_true, Bool.true_or, Bool.or_false, Bool.false_or, Nat.reduceAdd, Nat.reduceSub, Nat.reduceLeDiff, Nat.reduceLT, kb_NoneType_int, kb_NoneType_bool, kb_NoneType_str, kb_NoneType_list, kb_NoneType_tuple, kb_bool_int, kb_bool_bool, kb_bool_str, kb_bool_list, kb_bool_tuple, kb_int_int, kb_int_bool, kb_int_str, kb_int_list, kb_int_tuple, kb_str_int, kb_str_bool, kb_str_str, kb_str_list, kb_str_tuple, kb_tuple_int, kb_tuple_bool, kb_tuple_str, kb_tuple_list, kb_tuple_tuple, kb_list_int, kb_list_bool, kb_list_str, kb_list_list, kb_list_tuple, atI_0, atI_1, atI_2, atI_3, atI_4, atI_5, atI_6, atI_7, ixN_1_0, ixN_2_0, ixN_2_1, ixN_3_0, ixN_3_1, ixN_3_2, ixN_4_0, ixN_4_1, ixN_4_2, ixN_4_3, ixN_5_0, ixN_5_1, ixN_5_2, ixN_5_3, ixN_5_4, ixN_6_0, ixN_6_1, ixN_6_2, ixN_6_3, ixN_6_4, ixN_6_5, List.length_set, List.length_map, List.length_append]
          exact ⟨⟨by decide, by decide, by decide⟩, if_c (fun h => hN _ ⟨i + 1, _, sd, n + 1, _, _, by omega, by omega, by split <;> omega, s0, s1, rfl⟩) fun h => ⟨by decide, .inr ⟨by decide, by decide⟩, .inr ⟨by decide, by decide⟩, by decide, hN _ ⟨i + 1, 0, _, n + 1, _, _, by omega, by omega, by omega, Int.emod_nonneg _ (by decide), Int.emod_lt_of_pos _ (by decide), rfl⟩⟩⟩
        · subst hg
          simp -implicitDefEqProofs only [hi, dInN, dNotInN, anyEq, List.any_cons, List.any_nil, dSlS, dVar, dC, lk, dOp, dUn, dI2, dI0, dI1, dAdd, dEqN, dNeN, dB, dAnd, dOr, dNot, dAndV, dOrV, dNotV, dIf, dNil, dCons, dTup, dLst, dIx, onS, dNext, dSeq, dBrk, dCnt, dDrop, dRet, dRetN, dIfS, dName, dgNil, dgCons, dgTup, dAsg, dPar, dSeqI, dLstI, dTupI, dStrI, dRng1, dRng2, dFor, dCall, dCallD, dCB, dFld, dFldO, dPutO, dMeth, dMake, fget, fput, dIsi, dIsiT, dIsiC, dProp, dOwn, dBM, tyD, kitAnyB, dAbs, dIntC, dLen, dList, dTuple, dAllB, dAnyB, dSum, dComp, wipeD, dTs1, dZip, dEnum, dNewL, dOwnL, dSetL, dIxO, dApp, dLenO, dFrz, dIsN, dNotN, isNonD, dChain, dSl, dSlL, dPart, dNoPart, List.set_cons_zero, List.set_cons_succ, List.cons_append, List.nil_append, List.append_nil, List.length_cons, List.length_nil, deq, deqs, D.isData, allData, true_and, and_true, beq_iff_eq, bne_iff_ne, decide_eq_true_eq, Bool.not_true, Bool.not_false, Bool.false_eq_true, Bool.true_eq_false, if_true, if_false, Bool.and_true, Bool.true_and, Bool.and_false, Bool.false_and, Bool.or_true, Bool.true_or, Bool.or_false, Bool.false_or, Nat.reduceAdd, Nat.reduceSub, Nat.reduceLeDiff, Nat.reduceLT, kb_NoneType_int, kb_NoneType_bool, kb_NoneType_str, kb_NoneType_list, kb_NoneType_tuple, kb_bool_int, kb_bool_bool, kb_bool_str, kb_bool_list, kb_bool_tuple, kb_int_int, kb_int_bool, kb_int_str, kb_int_list, kb_int_tuple, kb_str_int, kb_str_bool, kb_str_str, kb_str_list, kb_str_tuple, kb_tuple_int, kb_tuple_bool, kb_tuple_str, kb_tuple_list, kb_tuple_tuple, kb_list_int, kb_list_bool, kb_list_str, kb_list_list, kb_list_tuple, atI_0, atI_1, atI_2, atI_3, atI_4, atI_5, atI_6, atI_7, ixN_1_0, ixN_2_0, ixN_2_1, ixN_3_0, ixN_3_1, ixN_3_2, ixN_4_0, ixN_4_1, ixN_4_2, ixN_4_3, ixN_5_0, ixN_5_1, ixN_5_2, ixN_5_3, ixN_5_4, ixN_6_0, ixN_6_1, ixN_6_2, ixN_6_3, ixN_6_4, ixN_6_5, List.length_set, List.length_map, List.length_append]
          exact hN _ ⟨i, 0, sd, n + 1, _, _, i0, i1, g0, s0, s1, rfl⟩
      · simp -implicitDefEqProofs only [hg, dInN, dNotInN, anyEq, List.any_cons, List.any_nil, dSlS, dVar, dC, lk, dOp, dUn, dI2, dI0, dI1, dAdd, dEqN, dNeN, dB, dAnd, dOr, dNot, dAndV, dOrV, dNotV, dIf, dNil, dCons, dTup, dLst, dIx, onS, dNext, dSeq, dBrk, dCnt, dDrop, dRet, dRetN, dIfS, dName, dgNil, dgCons, dgTup, dAsg, dPar, dSeqI, dLstI, dTupI, dStrI, dRng1, dRng2, dFor, dCall, dCallD, dCB, dFld, dFldO, dPutO, dMeth, dMake, fget, fput, dIsi, dIsiT, dIsiC, dProp, dOwn, dBM, tyD, kitAnyB, dAbs, dIntC, dLen, dList, dTuple, dAllB, dAnyB, dSum, dComp, wipeD, dTs1, dZip, dEnum, dNewL, dOwnL, dSetL, dIxO, dApp, dLenO, dFrz, dIsN, dNotN, isNonD, dChain, dSl, dSlL, dPart, dNoPart, List.set_cons_zero, List.set_cons_succ, List.cons_append, List.nil_append, List.append_nil, List.length_cons, List.length_nil, deq, deqs, D.isData, allData, true_and, and_true, beq_iff_eq, bne_iff_ne, decide_eq_true_eq, Bool.not_true, Bool.not_false, Bool.false_eq_true, Bool.true_eq_false, if_true, if_false, Bool.and_true, Bool.true_and, Bool.and_false, Bool.false_and, Bool.or_true, Bool.true_or, Bool.or_false, Bool.false_or, Nat.reduceAdd, Nat.reduceSub, Nat.reduceLeDiff, Nat.reduceLT, kb_NoneType_int, kb_NoneType_bool, kb_NoneType_str, kb_NoneType_list, kb_NoneType_tuple, kb_bool_int, kb_bool_bool, kb_bool_str, kb_bool_list, kb_bool_tuple, kb_int_int, kb_int_bool, kb_int_str, kb_int_list, kb_int_tuple, kb_str_int, kb_str_bool, kb_str_str, kb_str_list, kb_str_tuple, kb_tuple_int, kb_tuple_bool, kb_tuple_str, kb_tuple_list, kb_tuple_tuple, kb_list_int, kb_list_bool, kb_list_str, kb_list_list, kb_list_tuple, atI_0, atI_1, atI_2, atI_3, atI_4, atI_5, atI_6, atI_7, ixN_1_0, ixN_2_0, ixN_2_1, ixN_3_0, ixN_3_1, ixN_3_2, ixN_4_0, ixN_4_1, ixN_4_2, ixN_4_3, ixN_5_0, ixN_5_1, ixN_5_2, ixN_5_3, ixN_5_4, ixN_6_0, ixN_6_1, ixN_6_2, ixN_6_3, ixN_6_4, ixN_6_5, List.length_set, List.length_map, List.length_append]
        exact hN _ ⟨i, g, sd, n + 1, _, _, i0, i1, g0, s0, s1, rfl⟩
    · obtain ⟨i, g, s, n, u, v, i0, i1, g0, s0, s1, rfl⟩ := hρ
      simp only [bagD]
      walk_at "dl"
      exact if_c (fun hg => ⟨m0, cdiv_ok m0 m1, hq i (g / m) s n _ i0 i1 (Int.ediv_nonneg g0 (by omega)) s0 s1 (Int.emod_nonneg _ (by omega)) (Int.emod_lt_of_pos _ m0)⟩) fun hg => ⟨.inr ⟨by decide, by decide⟩, .inr ⟨by decide, by decide⟩, .inl ⟨by omega, by omega⟩, .inr ⟨by decide, by decide⟩, by decide, cdiv_ok (by decide) (by decide), by decide, .inr ⟨by decide, by decide⟩, m0, hq i g _ n _ i0 i1 g0 (Int.emod_nonneg _ (by decide)) (Int.emod_lt_of_pos _ (by decide)) (Int.emod_nonneg _ (by omega)) (Int.emod_lt_of_pos _ m0)⟩
abbrev s_law_small : Stmt := topS 14
abbrev N_law_small : List Str := ["_law_bag_here", "_law_way"]
theorem sc_law_small : FnScope N_law_small ["_law_bag_here"] (defScope s_law_small) := ⟨rfl, rfl, rfl, by decide +kernel, rfl, by decide +kernel, by decide +kernel⟩

theorem ok_law_small {f : Addr} {fd : FuncData} (T : Txt K mg C_Move) (F : FunX K "_law_small" "_law_small" s_law_small f fd) (c_law_pull : Callee P w K mg base "_law_pull" 1 wpPull [] []) : FnOk P w K mg base (L2.CX P w) 2 f fd ["_law_bag_here"] (SpW K wp_small) := by
  refine fn_ok (k := 1) (N := N_law_small) 2 rfl F sc_law_small (fun ds Q Ed h => ?_) (fun cdv A outer s H E hr ds Qd Ed hw => ⟨_, _,
    (b_cons (st_set 1 sc_law_small.nd (e_call c_law_pull (hr.mono (by first | decide | omega)) passE (a_cons (e_var 0) (a_cons e_int a_nil))))
    (b_cons (st_if (t_lt (e_var 1) e_int)
    (b_one (st_ret (e_sub (e_var 1) e_int)))
    b_nil)
    (b_one (st_ret (e_mul (e_sub e_int (e_mul e_int (e_mod (e_var 1) e_int))) (e_add e_int (e_call c_law_pull (hr.mono (by first | decide | omega)) passE (a_cons (e_var 0) (a_cons e_int a_nil))))))))), ?_⟩)
  · unfold wp_small at h
    split at h
    · rfl
    · exact h.elim
  · unfold wp_small at hw
    split at hw
    · simp -implicitDefEqProofs only [startD]
      simp -implicitDefEqProofs only [wpPull, dInN, dNotInN, anyEq, List.any_cons, List.any_nil, dSlS, dVar, dC, lk, dOp, dUn, dI2, dI0, dI1, dAdd, dEqN, dNeN, dB, dAnd, dOr, dNot, dAndV, dOrV, dNotV, dIf, dNil, dCons, dTup, dLst, dIx, onS, dNext, dSeq, dBrk, dCnt, dDrop, dRet, dRetN, dIfS, dName, dgNil, dgCons, dgTup, dAsg, dPar, dSeqI, dLstI, dTupI, dStrI, dRng1, dRng2, dFor, dCall, dCallD, dCB, dFld, dFldO, dPutO, dMeth, dMake, fget, fput, dIsi, dIsiT, dIsiC, dProp, dOwn, dBM, tyD, kitAnyB, dAbs, dIntC, dLen, dList, dTuple, dAllB, dAnyB, dSum, dComp, wipeD, dTs1, dZip, dEnum, dNewL, dOwnL, dSetL, dIxO, dApp, dLenO, dFrz, dIsN, dNotN, isNonD, dChain, dSl, dSlL, dPart, dNoPart, List.set_cons_zero, List.set_cons_succ, List.cons_append, List.nil_append, List.append_nil, List.length_cons, List.length_nil, deq, deqs, D.isData, allData, true_and, and_true, beq_iff_eq, bne_iff_ne, decide_eq_true_eq, Bool.not_true, Bool.not_false, Bool.false_eq_true, Bool.true_eq_false, if_true, if_false, Bool.and_true, Bool.true_and, Bool.and_false, Bool.false_and, Bool.or_true, Bool.true_or, Bool.or_false, Bool.false_or, Nat.reduceAdd, Nat.reduceSub, Nat.reduceLeDiff, Nat.reduceLT, kb_NoneType_int, kb_NoneType_bool, kb_NoneType_str, kb_NoneType_list, kb_NoneType_tuple, kb_bool_int, kb_bool_bool, kb_bool_str, kb_bool_list, kb_bool_tuple, kb_int_int, kb_int_bool, kb_int_str, kb_int_list, kb_int_tuple, kb_str_int, kb_str_bool, kb_str_str, kb_str_list, kb_str_tuple, kb_tuple_int, kb_tuple_bool, kb_tuple_str, kb_tuple_list, kb_tuple_tuple, kb_list_int, kb_list_bool, kb_list_str, kb_list_list, kb_list_tuple, atI_0, atI_1, atI_2, atI_3, atI_4, atI_5, atI_6, atI_7, ixN_1_0, ixN_2_0, ixN_2_1, ixN_3_0, ixN_3_1, ixN_3_2, ixN_4_0, ixN_4_1, ixN_4_2, ixN_4_3, ixN_5_0, ixN_5_1, ixN_5_2, ixN_5_3, ixN_5_4, ixN_6_0, ixN_6_1, ixN_6_2, ixN_6_3, ixN_6_4, ixN_6_5, List.length_set, List.length_map, List.length_append]
      exact ⟨⟨by decide, by decide⟩, fun d d0 d1 => if_c (fun h => hw _ (by omega) (by omega)) fun h => ⟨by decide, .inl ⟨by decide, by decide⟩, ⟨by decide, by decide⟩, fun e e0 e1 => ⟨.inl ⟨by omega, by omega⟩, by
        have z : d % 2 = 0 ∨ d % 2 = 1 := by omega
        rcases z with z | z <;> rw [z] <;> exact hw _ (by omega) (by omega)⟩⟩⟩
    · exact hw.elim
abbrev s_law_same : Stmt := topS 15
abbrev N_law_same : List Str := ["_law_found", "_law_due", "_law_a", "_law_b"]
theorem sc_law_same : FnScope N_law_same ["_law_found", "_law_due"] (defScope s_law_same) := ⟨rfl, rfl, rfl, by decide +kernel, rfl, by decide +kernel, by decide +kernel⟩

theorem step_law_same {f : Addr} {fd : FuncData} (T : Txt K mg C_Move) (F : FunX K "_law_same" "_law_same" s_law_same f fd) {n k : Nat} {wpc : Wp} (c : Callee P w K mg base "_law_same" k wpc [] []) (hc : ∀ m, n = m + 1 → wpc = wpSame m) : FnOk P w K mg base (L2.CX P w) (k + 1) f fd ["_law_found", "_law_due"] (SpW K (wpSame n)) := by
  refine fn_ok (k := k) (N := N_law_same) 4 rfl F sc_law_same (fun ds Q Ed h => ?_) (fun cdv A outer s H E hr ds Qd Ed hw => ⟨_, _,
    (b_cons (st_if (t_w (w_or (t_isN (e_var 1)) (w_or1 (t_isN (e_var 0)))))
    (b_one (st_ret (e_and (e_isN (e_var 1)) (e_one (e_isN (e_var 0))))))
    b_nil)
    (b_cons (st_if (t_w (w_or (t_val (e_isi T.n_isinstance (a_cons (e_var 1) (a_cons (b_ty "bool" T.n_bool) a_nil)))) (w_or1 (t_val (e_isi T.n_isinstance (a_cons (e_var 0) (a_cons (b_ty "bool" T.n_bool) a_nil)))))))
    (b_one (st_ret (e_and (e_isi T.n_isinstance (a_cons (e_var 1) (a_cons (b_ty "bool" T.n_bool) a_nil))) (e_and (e_isi T.n_isinstance (a_cons (e_var 0) (a_cons (b_ty "bool" T.n_bool) a_nil))) (e_one (e_eq hr (e_var 0) (e_var 1)))))))
    b_nil)
    (b_cons (st_if (t_w (w_or (t_val (e_isiT T.n_isinstance (e_var 1) (a_cons (b_ty "list" T.n_list) (a_cons (b_ty "tuple" T.n_tuple) a_nil)))) (w_or1 (t_val (e_isiT T.n_isinstance (e_var 0) (a_cons (b_ty "list" T.n_list) (a_cons (b_ty "tuple" T.n_tuple) a_nil)))))))
    (b_cons (st_if (t_ne hr (e_isi T.n_isinstance (a_cons (e_var 1) (a_cons (b_ty "list" T.n_list) a_nil))) (e_isi T.n_isinstance (a_cons (e_var 0) (a_cons (b_ty "list" T.n_list) a_nil))))
    (b_one (st_ret e_bl))
    b_nil)
    (b_cons (st_if (t_w (w_or (t_ne hr (e_isi T.n_isinstance (a_cons (e_var 1) (a_cons (b_ty "tuple" T.n_tuple) a_nil))) (e_isi T.n_isinstance (a_cons (e_var 0) (a_cons (b_ty "tuple" T.n_tuple) a_nil)))) (w_or1 (t_ne hr (e_len T.n_len (a_cons (e_var 0) a_nil)) (e_len T.n_len (a_cons (e_var 1) a_nil))))))
    (b_one (st_ret e_bl))
    b_nil)
    (b_one (st_ret (e_all rfl T.n_all (a_cons (e_comp rfl sc_law_same.nd (i_zip T.n_zip (a_cons (e_var 0) (a_cons (e_var 1) a_nil))) (blkOk_by (own := [("_law_a", 2), ("_law_b", 3)]) (N := N_law_same) (sc := defScope s_law_same) (by decide +kernel)) (own_tup (own_cons' (own_cons' own_nil))) (fun _ _ _ _ _ => (g_tup rfl (gs_cons (g_name 2 sc_law_same.nd) (gs_cons (g_name 3 sc_law_same.nd) gs_nil)) (len_names [2, 3]))) (fun _ _ _ _ _ => castTs ts_nil (by walk_at "blk")) (fun _ _ _ _ _ => castE (e_call c (hr.mono (by first | decide | omega)) passB (a_cons (e_var 2) (a_cons (e_var 3) a_nil))) (by walk_at "blk"))) a_nil))))))
    b_nil)
    (b_cons (st_if (t_ne hr (e_isi T.n_isinstance (a_cons (e_var 1) (a_cons (b_ty "int" T.n_int) a_nil))) (e_isi T.n_isinstance (a_cons (e_var 0) (a_cons (b_ty "int" T.n_int) a_nil))))
    (b_one (st_ret e_bl))
    b_nil)
    (b_one (st_ret (e_and (e_eq hr (e_isi T.n_isinstance (a_cons (e_var 1) (a_cons (b_ty "str" T.n_str) a_nil))) (e_isi T.n_isinstance (a_cons (e_var 0) (a_cons (b_ty "str" T.n_str) a_nil)))) (e_one (e_eq hr (e_var 0) (e_var 1)))))))))), ?_⟩)
  · unfold wpSame at h
    split at h
    · rfl
    · exact h.elim
  · unfold wpSame at hw
    split at hw
    · rename_i x y
      obtain ⟨hx, hy, hf, hq⟩ := hw
      have px : (x = .non ∨ (∃ b, x = .bl b) ∨ (∃ i, x = .int i) ∨ (∃ s, x = .str s)) ∨ (∃ xs, x = .tup xs) ∨ ∃ xs, x = .lst xs := by
        cases x <;> simp [D.isData] at hx ⊢
      have py : (y = .non ∨ (∃ b, y = .bl b) ∨ (∃ i, y = .int i) ∨ (∃ s, y = .str s)) ∨ (∃ xs, y = .tup xs) ∨ ∃ xs, y = .lst xs := by
        cases y <;> simp [D.isData] at hy ⊢
      rcases px with px | ⟨xs, rfl⟩ | ⟨xs, rfl⟩
      · rcases px with rfl | ⟨b, rfl⟩ | ⟨i, rfl⟩ | ⟨t, rfl⟩ <;> rcases py with (rfl | ⟨b2, rfl⟩ | ⟨i2, rfl⟩ | ⟨t2, rfl⟩) | ⟨ys, rfl⟩ | ⟨ys, rfl⟩ <;> (walk_at "dl"; first | exact hq | (simp_all [sameD]; done))
      · rcases py with py | ⟨ys, rfl⟩ | ⟨ys, rfl⟩
        · rcases py with rfl | ⟨b2, rfl⟩ | ⟨i2, rfl⟩ | ⟨t2, rfl⟩ <;> (walk_at "dl"; first | exact hq | (simp_all [sameD]; done))
        ·
          walk_at "dl"
          cases n with
          | zero => exact absurd hx (by simp [D.isData])
          | succ n =>
            obtain ⟨f1, f2⟩ := Bool.and_eq_true_iff.mp (show (decide (xs.length ≤ 90000) && fewAll xs) = true from hf)
            refine if_n (by decide) (if_n (by decide) (if_c (fun hl => ?_) fun hl => ?_))
            · rw [show sameD (.tup xs) (.tup ys) = false from sameDs_other (fun z => by rw [z] at hl; simp at hl)] at hq
              exact hq
            · exact same_comp (hc n rfl) hx hy (of_decide_eq_true f1) f2 (by simp at hl; omega) hq
        · (walk_at "dl"; first | exact hq | (simp_all [sameD]; done))
      · rcases py with py | ⟨ys, rfl⟩ | ⟨ys, rfl⟩
        · rcases py with rfl | ⟨b2, rfl⟩ | ⟨i2, rfl⟩ | ⟨t2, rfl⟩ <;> (walk_at "dl"; first | exact hq | (simp_all [sameD]; done))
        · (walk_at "dl"; first | exact hq | (simp_all [sameD]; done))
        ·
          walk_at "dl"
          cases n with
          | zero => exact absurd hx (by simp [D.isData])
          | succ n =>
            obtain ⟨f1, f2⟩ := Bool.and_eq_true_iff.mp (show (decide (xs.length ≤ 90000) && fewAll xs) = true from hf)
            refine if_n (by decide) (if_n (by decide) (if_c (fun hl => ?_) fun hl => ?_))
            · rw [show sameD (.lst xs) (.lst ys) = false from sameDs_other (fun z => by rw [z] at hl; simp at hl)] at hq
              exact hq
            · exact same_comp (hc n rfl) hx hy (of_decide_eq_true f1) f2 (by simp at hl; omega) hq
    · exact hw.elim
theorem ok_law_same {f : Addr} {fd : FuncData} (T : Txt K mg C_Move) (F : FunX K "_law_same" "_law_same" s_law_same f fd) (g : mg "_law_same" = some (.ref f)) (b : Binds K fd ["_law_found", "_law_due"] []) : ∀ n : Nat, FnOk P w K mg base (L2.CX P w) (n + 1) f fd ["_law_found", "_law_due"] (SpW K (wpSame n))
  | 0 => step_law_same T F (callee_no F g b) fun m e => nomatch e
  | n + 1 => step_law_same T F (callee_mk F g (ok_law_same T F g b n) b) fun m e => by
    cases e
    rfl
abbrev s_law_parts : Stmt := topS 16
abbrev N_law_parts : List Str := ["_law_bag_here", "_law_way"]
theorem sc_law_parts : FnScope N_law_parts ["_law_bag_here"] (defScope s_law_parts) := ⟨rfl, rfl, rfl, by decide +kernel, rfl, by decide +kernel, by decide +kernel⟩

theorem ok_law_parts {f : Addr} {fd : FuncData} (T : Txt K mg C_Move) (F : FunX K "_law_parts" "_law_parts" s_law_parts f fd) (c_law_pull : Callee P w K mg base "_law_pull" 1 wpPull [] []) : FnOk P w K mg base (L2.CX P w) 2 f fd ["_law_bag_here"] (SpW K wp_parts) := by
  refine fn_ok (k := 1) (N := N_law_parts) 2 rfl F sc_law_parts (fun ds Q Ed h => ?_) (fun cdv A outer s H E hr ds Qd Ed hw => ⟨_, _,
    (b_cons (st_set 1 sc_law_parts.nd (e_call c_law_pull (hr.mono (by first | decide | omega)) passE (a_cons (e_var 0) (a_cons e_int a_nil))))
    (b_cons (st_if (t_eq hr (e_var 1) e_int)
    (b_one (st_ret (e_tup (a_cons e_int (a_cons e_int (a_cons e_int (a_cons e_int a_nil)))))))
    b_nil)
    (b_cons (st_if (t_eq hr (e_var 1) e_int)
    (b_one (st_ret (e_tup (a_cons (e_sub (e_call c_law_pull (hr.mono (by first | decide | omega)) passE (a_cons (e_var 0) (a_cons (e_pow e_int e_int) a_nil))) (e_pow e_int e_int)) (a_cons (e_sub e_int (e_call c_law_pull (hr.mono (by first | decide | omega)) passE (a_cons (e_var 0) (a_cons (e_pow e_int e_int) a_nil)))) (a_cons (e_call c_law_pull (hr.mono (by first | decide | omega)) passE (a_cons (e_var 0) (a_cons e_int a_nil))) (a_cons (e_call c_law_pull (hr.mono (by first | decide | omega)) passE (a_cons (e_var 0) (a_cons e_int a_nil))) a_nil)))))))
    b_nil)
    (b_one (st_ret (e_tup (a_cons (e_sub (e_call c_law_pull (hr.mono (by first | decide | omega)) passE (a_cons (e_var 0) (a_cons e_int a_nil))) e_int) (a_cons (e_sub (e_call c_law_pull (hr.mono (by first | decide | omega)) passE (a_cons (e_var 0) (a_cons e_int a_nil))) e_int) (a_cons (e_call c_law_pull (hr.mono (by first | decide | omega)) passE (a_cons (e_var 0) (a_cons e_int a_nil))) (a_cons (e_call c_law_pull (hr.mono (by first | decide | omega)) passE (a_cons (e_var 0) (a_cons e_int a_nil))) a_nil)))))))))), ?_⟩)
  · unfold wp_parts at h
    split at h
    · rfl
    · exact h.elim
  · unfold wp_parts at hw
    split at hw
    · simp -implicitDefEqProofs only [startD]
      simp -implicitDefEqProofs only [wpPull, dInN, dNotInN, anyEq, List.any_cons, List.any_nil, dSlS, dVar, dC, lk, dOp, dUn, dI2, dI0, dI1, dAdd, dEqN, dNeN, dB, dAnd, dOr, dNot, dAndV, dOrV, dNotV, dIf, dNil, dCons, dTup, dLst, dIx, onS, dNext, dSeq, dBrk, dCnt, dDrop, dRet, dRetN, dIfS, dName, dgNil, dgCons, dgTup, dAsg, dPar, dSeqI, dLstI, dTupI, dStrI, dRng1, dRng2, dFor, dCall, dCallD, dCB, dFld, dFldO, dPutO, dMeth, dMake, fget, fput, dIsi, dIsiT, dIsiC, dProp, dOwn, dBM, tyD, kitAnyB, dAbs, dIntC, dLen, dList, dTuple, dAllB, dAnyB, dSum, dComp, wipeD, dTs1, dZip, dEnum, dNewL, dOwnL, dSetL, dIxO, dApp, dLenO, dFrz, dIsN, dNotN, isNonD, dChain, dSl, dSlL, dPart, dNoPart, List.set_cons_zero, List.set_cons_succ, List.cons_append, List.nil_append, List.append_nil, List.length_cons, List.length_nil, deq, deqs, D.isData, allData, true_and, and_true, beq_iff_eq, bne_iff_ne, decide_eq_true_eq, Bool.not_true, Bool.not_false, Bool.false_eq_true, Bool.true_eq_false, if_true, if_false, Bool.and_true, Bool.true_and, Bool.and_false, Bool.false_and, Bool.or_true, Bool.true_or, Bool.or_false, Bool.false_or, Nat.reduceAdd, Nat.reduceSub, Nat.reduceLeDiff, Nat.reduceLT, kb_NoneType_int, kb_NoneType_bool, kb_NoneType_str, kb_NoneType_list, kb_NoneType_tuple, kb_bool_int, kb_bool_bool, kb_bool_str, kb_bool_list, kb_bool_tuple, kb_int_int, kb_int_bool, kb_int_str, kb_int_list, kb_int_tuple, kb_str_int, kb_str_bool, kb_str_str, kb_str_list, kb_str_tuple, kb_tuple_int, kb_tuple_bool, kb_tuple_str, kb_tuple_list, kb_tuple_tuple, kb_list_int, kb_list_bool, kb_list_str, kb_list_list, kb_list_tuple, atI_0, atI_1, atI_2, atI_3, atI_4, atI_5, atI_6, atI_7, ixN_1_0, ixN_2_0, ixN_2_1, ixN_3_0, ixN_3_1, ixN_3_2, ixN_4_0, ixN_4_1, ixN_4_2, ixN_4_3, ixN_5_0, ixN_5_1, ixN_5_2, ixN_5_3, ixN_5_4, ixN_6_0, ixN_6_1, ixN_6_2, ixN_6_3, ixN_6_4, ixN_6_5, List.length_set, List.length_map, List.length_append]
      simp only [show (10 : Int) ^ Int.toNat 10 = 10000000000 from by decide, show (10 : Int) ^ Int.toNat 9 = 1000000000 from by decide]
      exact ⟨⟨by decide, by decide⟩, fun d _ _ => if_c (fun h => hw _ _ _ _ (by decide) (by decide) (by decide) (by decide) (by decide) (by decide) (by decide) (by decide)) fun h => if_c (fun h =>
        ⟨⟨by decide, by decide, by decide⟩, ⟨by decide, by decide⟩, fun d _ _ => ⟨⟨by decide, by decide, by decide⟩, ⟨by decide, by decide, by decide⟩, ⟨by decide, by decide⟩, fun d1 _ _ => ⟨⟨by decide, by decide⟩, fun d2 _ _ => ⟨⟨by decide, by decide⟩, fun d3 _ _ => hw _ _ _ _ (by omega) (by omega) (by omega) (by omega) (by omega) (by omega) (by omega) (by omega)⟩⟩⟩⟩) fun h =>
        ⟨⟨by decide, by decide⟩, fun d _ _ => ⟨⟨by decide, by decide⟩, fun d1 _ _ => ⟨⟨by decide, by decide⟩, fun d2 _ _ => ⟨⟨by decide, by decide⟩, fun d3 _ _ => hw _ _ _ _ (by omega) (by omega) (by omega) (by omega) (by omega) (by omega) (by omega) (by omega)⟩⟩⟩⟩⟩
    · exact hw.elim
abbrev s_law_move : Stmt := topS 17
abbrev N_law_move : List Str := ["_law_parts_here"]
theorem sc_law_move : FnScope N_law_move ["_law_parts_here"] (defScope s_law_move) := ⟨rfl, rfl, rfl, by decide +kernel, rfl, by decide +kernel, by decide +kernel⟩

theorem ok_law_move {f : Addr} {fd : FuncData} (T : Txt K mg C_Move) (F : FunX K "_law_move" "_law_move" s_law_move f fd) (c_Move : Maker P w K mg base "Move" C_Move 2 wp_Move_init [] []) : FnOk P w K mg base (L2.CX P w) 4 f fd ["_law_parts_here"] (SpW K (wp_lmv2 C_Move)) := by
  refine fn_ok (k := 3) (N := N_law_move) 1 rfl F sc_law_move (fun ds Q Ed h => ?_) (fun cdv A outer s H E hr ds Qd Ed hw => ⟨_, _,
    (b_one (st_ret (e_make c_Move (hr.mono (by first | decide | omega)) passE (a_cons (e_ix (e_var 0) e_int) (a_cons (e_ix (e_var 0) e_int) (a_cons (e_ix (e_var 0) e_int) (a_cons (e_eq hr (e_ix (e_var 0) e_int) e_int) a_nil))))))), ?_⟩)
  · obtain ⟨_, _, rfl, _⟩ := h
    rfl
  · obtain ⟨f, a, rfl, ha, ⟨okf, hb⟩, hw⟩ := hw
    simp -implicitDefEqProofs only [startD]
    rcases ha with rfl | rfl <;> simp only [Mv.l]
    · simp -implicitDefEqProofs only [wp_Move_init, dInN, dNotInN, anyEq, List.any_cons, List.any_nil, dSlS, dVar, dC, lk, dOp, dUn, dI2, dI0, dI1, dAdd, dEqN, dNeN, dB, dAnd, dOr, dNot, dAndV, dOrV, dNotV, dIf, dNil, dCons, dTup, dLst, dIx, onS, dNext, dSeq, dBrk, dCnt, dDrop, dRet, dRetN, dIfS, dName, dgNil, dgCons, dgTup, dAsg, dPar, dSeqI, dLstI, dTupI, dStrI, dRng1, dRng2, dFor, dCall, dCallD, dCB, dFld, dFldO, dPutO, dMeth, dMake, fget, fput, dIsi, dIsiT, dIsiC, dProp, dOwn, dBM, tyD, kitAnyB, dAbs, dIntC, dLen, dList, dTuple, dAllB, dAnyB, dSum, dComp, wipeD, dTs1, dZip, dEnum, dNewL, dOwnL, dSetL, dIxO, dApp, dLenO, dFrz, dIsN, dNotN, isNonD, dChain, dSl, dSlL, dPart, dNoPart, List.set_cons_zero, List.set_cons_succ, List.cons_append, List.nil_append, List.append_nil, List.length_cons, List.length_nil, deq, deqs, D.isData, allData, true_and, and_true, beq_iff_eq, bne_iff_ne, decide_eq_true_eq, Bool.not_true, Bool.not_false, Bool.false_eq_true, Bool.true_eq_false, if_true, if_false, Bool.and_true, Bool.true_and, Bool.and_false, Bool.false_and, Bool.or_true, Bool.true_or, Bool.or_false, Bool.false_or, Nat.reduceAdd, Nat.reduceSub, Nat.reduceLeDiff, Nat.reduceLT, kb_NoneType_int, kb_NoneType_bool, kb_NoneType_str, kb_NoneType_list, kb_NoneType_tuple, kb_bool_int, kb_bool_bool, kb_bool_str, kb_bool_list, kb_bool_tuple, kb_int_int, kb_int_bool, kb_int_str, kb_int_list, kb_int_tuple, kb_str_int, kb_str_bool, kb_str_str, kb_str_list, kb_str_tuple, kb_tuple_int, kb_tuple_bool, kb_tuple_str, kb_tuple_list, kb_tuple_tuple, kb_list_int, kb_list_bool, kb_list_str, kb_list_list, kb_list_tuple, atI_0, atI_1, atI_2, atI_3, atI_4, atI_5, atI_6, atI_7, ixN_1_0, ixN_2_0, ixN_2_1, ixN_3_0, ixN_3_1, ixN_3_2, ixN_4_0, ixN_4_1, ixN_4_2, ixN_4_3, ixN_5_0, ixN_5_1, ixN_5_2, ixN_5_3, ixN_5_4, ixN_6_0, ixN_6_1, ixN_6_2, ixN_6_3, ixN_6_4, ixN_6_5, List.length_set, List.length_map, List.length_append]
      refine ⟨hb.four, ?_⟩
      rw [Mv.fs_eta okf]
      exact hw
    · simp -implicitDefEqProofs only [wp_Move_init, dInN, dNotInN, anyEq, List.any_cons, List.any_nil, dSlS, dVar, dC, lk, dOp, dUn, dI2, dI0, dI1, dAdd, dEqN, dNeN, dB, dAnd, dOr, dNot, dAndV, dOrV, dNotV, dIf, dNil, dCons, dTup, dLst, dIx, onS, dNext, dSeq, dBrk, dCnt, dDrop, dRet, dRetN, dIfS, dName, dgNil, dgCons, dgTup, dAsg, dPar, dSeqI, dLstI, dTupI, dStrI, dRng1, dRng2, dFor, dCall, dCallD, dCB, dFld, dFldO, dPutO, dMeth, dMake, fget, fput, dIsi, dIsiT, dIsiC, dProp, dOwn, dBM, tyD, kitAnyB, dAbs, dIntC, dLen, dList, dTuple, dAllB, dAnyB, dSum, dComp, wipeD, dTs1, dZip, dEnum, dNewL, dOwnL, dSetL, dIxO, dApp, dLenO, dFrz, dIsN, dNotN, isNonD, dChain, dSl, dSlL, dPart, dNoPart, List.set_cons_zero, List.set_cons_succ, List.cons_append, List.nil_append, List.append_nil, List.length_cons, List.length_nil, deq, deqs, D.isData, allData, true_and, and_true, beq_iff_eq, bne_iff_ne, decide_eq_true_eq, Bool.not_true, Bool.not_false, Bool.false_eq_true, Bool.true_eq_false, if_true, if_false, Bool.and_true, Bool.true_and, Bool.and_false, Bool.false_and, Bool.or_true, Bool.true_or, Bool.or_false, Bool.false_or, Nat.reduceAdd, Nat.reduceSub, Nat.reduceLeDiff, Nat.reduceLT, kb_NoneType_int, kb_NoneType_bool, kb_NoneType_str, kb_NoneType_list, kb_NoneType_tuple, kb_bool_int, kb_bool_bool, kb_bool_str, kb_bool_list, kb_bool_tuple, kb_int_int, kb_int_bool, kb_int_str, kb_int_list, kb_int_tuple, kb_str_int, kb_str_bool, kb_str_str, kb_str_list, kb_str_tuple, kb_tuple_int, kb_tuple_bool, kb_tuple_str, kb_tuple_list, kb_tuple_tuple, kb_list_int, kb_list_bool, kb_list_str, kb_list_list, kb_list_tuple, atI_0, atI_1, atI_2, atI_3, atI_4, atI_5, atI_6, atI_7, ixN_1_0, ixN_2_0, ixN_2_1, ixN_3_0, ixN_3_1, ixN_3_2, ixN_4_0, ixN_4_1, ixN_4_2, ixN_4_3, ixN_5_0, ixN_5_1, ixN_5_2, ixN_5_3, ixN_5_4, ixN_6_0, ixN_6_1, ixN_6_2, ixN_6_3, ixN_6_4, ixN_6_5, List.length_set, List.length_map, List.length_append]
      refine ⟨hb.four, ?_⟩
      rw [Mv.fs_eta okf]
      exact hw
abbrev s_law : Stmt := topS 18
abbrev N_law : List Str := ["_law_script", "_law_bag_here", "_law_turn", "_law_parts_here", "_law_spins", "_law_one", "_law_two", "_law_at", "_law_named"]
theorem sc_law : FnScope N_law ["_law_script"] (defScope s_law) := ⟨rfl, rfl, rfl, by decide +kernel, rfl, by decide +kernel, by decide +kernel⟩

theorem ok_law {f : Addr} {fd : FuncData} (T : Txt K mg C_Move) (F : FunX K "law" "law" s_law f fd) (c_law_bag : Callee P w K mg base "_law_bag" 1 wpBag [] []) (c_law_pull : Callee P w K mg base "_law_pull" 1 wpPull [] []) (c_law_small : Callee P w K mg base "_law_small" 2 wp_small [] []) (c_law_same : Callee P w K mg base "_law_same" 4 (wpSame 3) [] []) (c_law_parts : Callee P w K mg base "_law_parts" 2 wp_parts [] []) (c_law_move : Callee P w K mg base "_law_move" 4 (wp_lmv2 C_Move) [] []) (c_Move : Maker P w K mg base "Move" C_Move 2 wp_Move_init [] []) (c_Move_0 : Maker P w K mg base "Move" C_Move 2 wp_Move_init [.int (0), .int (0), .int (0), .bl false] [.int (0), .int (0), .int (0), .bl false]) (c_Move_k : MakerK P w K mg base "Move" C_Move 2 wp_Move_init ["mirrored", "turns", "dy", "dx"] kwMove kwMoveD) (q_Move_sign : Prp P w K mg base C_Move "sign" 1 (wp_Msign C_Move)) (n_Move___eq__ : CmrNe P w K mg base C_Move 2 (wp_Meq C_Move)) (o_Move___eq__ : Cmr P w K mg base .Eq C_Move 2 (wp_Meq C_Move)) (y_Move_still : Stc P w K mg base C_Move "still" 4 (wp_still C_Move)) (z_Move_shifted : CMt P w K mg base C_Move "shifted" 4 (wp_shifted C_Move) [] []) (z_Move_turned : CMt P w K mg base C_Move "turned" 4 (wp_turned C_Move) [] []) (z_Move_turned_0 : CMt P w K mg base C_Move "turned" 4 (wp_turned C_Move) [.int (1)] [.int (1)]) (z_Move_flipped : CMt P w K mg base C_Move "flipped" 4 (wp_flip C_Move) [] []) : FnOk P w K mg base (L2.CX P w) 7 f fd ["_law_script"] (SpW K wpLaw) := by
  refine fn_ok (k := 6) (N := N_law) 9 rfl F sc_law (fun ds Q Ed h => ?_) (fun cdv A outer s H E hr ds Qd Ed hw => ⟨_, _,
    (b_cons (st_set 1 sc_law.nd (e_call c_law_bag (hr.mono (by first | decide | omega)) passE (a_cons (e_var 0) a_nil)))
    (b_cons (st_for (passes_of rfl) rfl (i_rng1 T.n_range (a_cons e_int a_nil)) (g_name 2 sc_law.nd)
    (b_cons (st_set 3 sc_law.nd (e_call c_law_parts (hr.mono (by first | decide | omega)) passE (a_cons (e_var 1) a_nil)))
    (b_cons (st_set 4 sc_law.nd (e_add (e_ix (e_var 3) e_int) (e_mul e_int (e_call c_law_small (hr.mono (by first | decide | omega)) passE (a_cons (e_var 1) a_nil)))))
    (b_cons (st_set 5 sc_law.nd (e_make c_Move (hr.mono (by first | decide | omega)) passE (a_cons (e_ix (e_var 3) e_int) (a_cons (e_ix (e_var 3) e_int) (a_cons (e_var 4) (a_cons (e_eq hr (e_ix (e_var 3) e_int) e_int) a_nil))))))
    (b_cons (st_if (t_w (w_or (t_not (t_val (e_call c_law_same (hr.mono (by first | decide | omega)) passE (a_cons (e_fld T.c_Move T.a_Move_parts (e_var 5)) (a_cons (e_var 3) a_nil))))) (w_or1 (t_not (t_val (e_call c_law_same (hr.mono (by first | decide | omega)) passE (a_cons (e_prop q_Move_sign (hr.mono (by first | decide | omega)) (e_var 5)) (a_cons (e_sub e_int (e_mul e_int (e_ix (e_var 3) e_int))) a_nil))))))))
    (b_one (st_ret e_bl))
    b_nil)
    (b_cons (st_ownL 6 sc_law.nd T.n_list (e_var 3))
    (b_cons (st_set 7 sc_law.nd (e_call c_law_pull (hr.mono (by first | decide | omega)) passE (a_cons (e_var 1) (a_cons e_int a_nil))))
    (b_cons (st_if (t_lt (e_var 7) e_int)
    (b_one (st_setL 6 (e_add (e_add (e_ixO 6 (e_var 7)) e_int) (e_call c_law_pull (hr.mono (by first | decide | omega)) passE (a_cons (e_var 1) (a_cons e_int a_nil)))) (e_var 7)))
    (b_one (st_if (t_lt (e_var 7) e_int)
    (b_one (st_setL 6 (e_mod (e_add (e_ixO 6 (e_var 7)) e_int) (e_if (t_eq hr (e_var 7) e_int) e_int e_int)) (e_var 7)))
    b_nil)))
    (b_frz 6 (b_cons (st_if (t_w (w_or (t_not (t_val (e_call c_law_same (hr.mono (by first | decide | omega)) passE (a_cons (e_ownEq o_Move___eq__ (hr.mono (by first | decide | omega)) passE (e_var 5) (e_call c_law_move (hr.mono (by first | decide | omega)) passE (a_cons (e_var 6) a_nil))) (a_cons (e_eq hr (e_var 7) e_int) a_nil))))) (w_or1 (t_not (t_val (e_call c_law_same (hr.mono (by first | decide | omega)) passE (a_cons (e_ownNe n_Move___eq__ (hr.mono (by first | decide | omega)) passE (e_var 5) (e_call c_law_move (hr.mono (by first | decide | omega)) passE (a_cons (e_var 6) a_nil))) (a_cons (e_ne hr (e_var 7) e_int) a_nil))))))))
    (b_one (st_ret e_bl))
    b_nil)
    (b_cons (st_set 8 sc_law.nd (e_makeK c_Move_k (hr.mono (by first | decide | omega)) passE (k_cons (e_eq hr (e_ix (e_var 3) e_int) e_int) (k_cons (e_var 4) (k_cons (e_ix (e_var 3) e_int) (k_cons (e_ix (e_var 3) e_int) k_nil))))))
    (b_cons (st_if (t_not (t_val (e_call c_law_same (hr.mono (by first | decide | omega)) passE (a_cons (e_ownEq o_Move___eq__ (hr.mono (by first | decide | omega)) passE (e_var 8) (e_var 5)) (a_cons e_bl a_nil)))))
    (b_one (st_ret e_bl))
    b_nil)
    (b_cons (st_if (t_not (t_val (e_call c_law_same (hr.mono (by first | decide | omega)) passE (a_cons (e_fld T.c_Move T.a_Move_parts (e_cm z_Move_shifted (hr.mono (by first | decide | omega)) passE (e_cls T.m_Move) (a_cons (e_ix (e_var 3) e_int) (a_cons (e_ix (e_var 3) e_int) a_nil)))) (a_cons (e_tup (a_cons (e_ix (e_var 3) e_int) (a_cons (e_ix (e_var 3) e_int) (a_cons e_int (a_cons e_int a_nil))))) a_nil)))))
    (b_one (st_ret e_bl))
    b_nil)
    (b_one (st_if (t_not (t_val (e_call c_law_same (hr.mono (by first | decide | omega)) passE (a_cons (e_fld T.c_Move T.a_Move_parts (e_cm z_Move_turned (hr.mono (by first | decide | omega)) passE (e_cls T.m_Move) (a_cons (e_var 4) a_nil))) (a_cons (e_tup (a_cons e_int (a_cons e_int (a_cons (e_ix (e_var 3) e_int) (a_cons e_int a_nil))))) a_nil)))))
    (b_one (st_ret e_bl))
    b_nil)))))))))))))))
    (b_cons (st_if (t_w (w_or (t_not (t_val (e_call c_law_same (hr.mono (by first | decide | omega)) passE (a_cons (e_fld T.c_Move T.a_Move_parts (e_cm0 z_Move_turned_0 (hr.mono (by first | decide | omega)) passE (e_cls T.m_Move))) (a_cons (e_tup (a_cons e_int (a_cons e_int (a_cons e_int (a_cons e_int a_nil))))) a_nil))))) (w_or1 (t_not (t_val (e_call c_law_same (hr.mono (by first | decide | omega)) passE (a_cons (e_fld T.c_Move T.a_Move_parts (e_cm0 z_Move_flipped (hr.mono (by first | decide | omega)) passE (e_cls T.m_Move))) (a_cons (e_tup (a_cons e_int (a_cons e_int (a_cons e_int (a_cons e_int a_nil))))) a_nil))))))))
    (b_one (st_ret e_bl))
    b_nil)
    (b_one (st_ret (e_and (e_call c_law_same (hr.mono (by first | decide | omega)) passE (a_cons (e_fld T.c_Move T.a_Move_parts (e_stat0 y_Move_still (hr.mono (by first | decide | omega)) passE (e_cls T.m_Move))) (a_cons (e_tup (a_cons e_int (a_cons e_int (a_cons e_int (a_cons e_int a_nil))))) a_nil))) (e_one (e_call c_law_same (hr.mono (by first | decide | omega)) passE (a_cons (e_fld T.c_Move T.a_Move_parts (e_make0 c_Move_0 (hr.mono (by first | decide | omega)) passE)) (a_cons (e_tup (a_cons e_int (a_cons e_int (a_cons e_int (a_cons e_int a_nil))))) a_nil)))))))))), ?_⟩)
  · obtain ⟨_, rfl, _⟩ := h
    rfl
  · obtain ⟨ns, rfl, hl, hw⟩ := hw
    simp -implicitDefEqProofs only [startD]
    refine seq_eq [some (.d (.lst (ns.map D.int))), some (.d .bag), none, none, none, none, none, none, none] (fun N hN => by
      simp -implicitDefEqProofs only [wpBag, dInN, dNotInN, anyEq, List.any_cons, List.any_nil, dSlS, dVar, dC, lk, dOp, dUn, dI2, dI0, dI1, dAdd, dEqN, dNeN, dB, dAnd, dOr, dNot, dAndV, dOrV, dNotV, dIf, dNil, dCons, dTup, dLst, dIx, onS, dNext, dSeq, dBrk, dCnt, dDrop, dRet, dRetN, dIfS, dName, dgNil, dgCons, dgTup, dAsg, dPar, dSeqI, dLstI, dTupI, dStrI, dRng1, dRng2, dFor, dCall, dCallD, dCB, dFld, dFldO, dPutO, dMeth, dMake, fget, fput, dIsi, dIsiT, dIsiC, dProp, dOwn, dBM, tyD, kitAnyB, dAbs, dIntC, dLen, dList, dTuple, dAllB, dAnyB, dSum, dComp, wipeD, dTs1, dZip, dEnum, dNewL, dOwnL, dSetL, dIxO, dApp, dLenO, dFrz, dIsN, dNotN, isNonD, dChain, dSl, dSlL, dPart, dNoPart, List.set_cons_zero, List.set_cons_succ, List.cons_append, List.nil_append, List.append_nil, List.length_cons, List.length_nil, deq, deqs, D.isData, allData, true_and, and_true, beq_iff_eq, bne_iff_ne, decide_eq_true_eq, Bool.not_true, Bool.not_false, Bool.false_eq_true, Bool.true_eq_false, if_true, if_false, Bool.and_true, Bool.true_and, Bool.and_false, Bool.false_and, Bool.or_true, Bool.true_or, Bool.or_false, Bool.false_or, Nat.reduceAdd, Nat.reduceSub, Nat.reduceLeDiff, Nat.reduceLT, kb_NoneType_int, kb_NoneType_bool, kb_NoneType_str, kb_NoneType_list, kb_NoneType_tuple, kb_bool_int, kb_bool_bool, kb_bool_str, kb_bool_list, kb_bool_tuple, kb_int_int, kb_int_bool, kb_int_str, kb_int_list, kb_int_tuple, kb_str_int, kb_str_bool, kb_str_str, kb_str_list, kb_str_tuple, kb_tuple_int, kb_tuple_bool, kb_tuple_str, kb_tuple_list, kb_tuple_tuple, kb_list_int, kb_list_bool, kb_list_str, kb_list_list, kb_list_tuple, atI_0, atI_1, atI_2, atI_3, atI_4, atI_5, atI_6, atI_7, ixN_1_0, ixN_2_0, ixN_2_1, ixN_3_0, ixN_3_1, ixN_3_2, ixN_4_0, ixN_4_1, ixN_4_2, ixN_4_3, ixN_5_0, ixN_5_1, ixN_5_2, ixN_5_3, ixN_5_4, ixN_6_0, ixN_6_1, ixN_6_2, ixN_6_3, ixN_6_4, ixN_6_5, List.length_set, List.length_map, List.length_append]
      exact ⟨ns, rfl, hN⟩) ?_
    refine seq_of (fun ρ => ∃ u2 u3 u4 u5 u6 u7 u8, ρ = [some (.d (.lst (ns.map D.int))), some (.d .bag), u2, u3, u4, u5, u6, u7, u8]) (fun N hN => for_of (intsD 0 4) (fun N h => by walk_at "dl"; exact ⟨by decide, h⟩) ?_) ?_
    · refine loopD_inv (fun _ ρ => ∃ u2 u3 u4 u5 u6 u7 u8, ρ = [some (.d (.lst (ns.map D.int))), some (.d .bag), u2, u3, u4, u5, u6, u7, u8]) _ _ ⟨_, _, _, _, _, _, _, rfl⟩ (fun x r ρ hρ N hN => ?_) (fun ρ h => hN _ h)
      obtain ⟨u2, u3, u4, u5, u6, u7, u8, rfl⟩ := hρ
      show dSeq _ _ _ _
      refine seq_of (fun ρ => ∃ f : Mv, f.Ok ∧ f.In 10000000000 ∧ ρ = [some (.d (.lst (ns.map D.int))), some (.d .bag), some (.d x), some (.d (.tup f.l)), u4, u5, u6, u7, u8]) (fun N hN => by
        simp -implicitDefEqProofs only [wp_parts, dInN, dNotInN, anyEq, List.any_cons, List.any_nil, dSlS, dVar, dC, lk, dOp, dUn, dI2, dI0, dI1, dAdd, dEqN, dNeN, dB, dAnd, dOr, dNot, dAndV, dOrV, dNotV, dIf, dNil, dCons, dTup, dLst, dIx, onS, dNext, dSeq, dBrk, dCnt, dDrop, dRet, dRetN, dIfS, dName, dgNil, dgCons, dgTup, dAsg, dPar, dSeqI, dLstI, dTupI, dStrI, dRng1, dRng2, dFor, dCall, dCallD, dCB, dFld, dFldO, dPutO, dMeth, dMake, fget, fput, dIsi, dIsiT, dIsiC, dProp, dOwn, dBM, tyD, kitAnyB, dAbs, dIntC, dLen, dList, dTuple, dAllB, dAnyB, dSum, dComp, wipeD, dTs1, dZip, dEnum, dNewL, dOwnL, dSetL, dIxO, dApp, dLenO, dFrz, dIsN, dNotN, isNonD, dChain, dSl, dSlL, dPart, dNoPart, List.set_cons_zero, List.set_cons_succ, List.cons_append, List.nil_append, List.append_nil, List.length_cons, List.length_nil, deq, deqs, D.isData, allData, true_and, and_true, beq_iff_eq, bne_iff_ne, decide_eq_true_eq, Bool.not_true, Bool.not_false, Bool.false_eq_true, Bool.true_eq_false, if_true, if_false, Bool.and_true, Bool.true_and, Bool.and_false, Bool.false_and, Bool.or_true, Bool.true_or, Bool.or_false, Bool.false_or, Nat.reduceAdd, Nat.reduceSub, Nat.reduceLeDiff, Nat.reduceLT, kb_NoneType_int, kb_NoneType_bool, kb_NoneType_str, kb_NoneType_list, kb_NoneType_tuple, kb_bool_int, kb_bool_bool, kb_bool_str, kb_bool_list, kb_bool_tuple, kb_int_int, kb_int_bool, kb_int_str, kb_int_list, kb_int_tuple, kb_str_int, kb_str_bool, kb_str_str, kb_str_list, kb_str_tuple, kb_tuple_int, kb_tuple_bool, kb_tuple_str, kb_tuple_list, kb_tuple_tuple, kb_list_int, kb_list_bool, kb_list_str, kb_list_list, kb_list_tuple, atI_0, atI_1, atI_2, atI_3, atI_4, atI_5, atI_6, atI_7, ixN_1_0, ixN_2_0, ixN_2_1, ixN_3_0, ixN_3_1, ixN_3_2, ixN_4_0, ixN_4_1, ixN_4_2, ixN_4_3, ixN_5_0, ixN_5_1, ixN_5_2, ixN_5_3, ixN_5_4, ixN_6_0, ixN_6_1, ixN_6_2, ixN_6_3, ixN_6_4, ixN_6_5, List.length_set, List.length_map, List.length_append]
        exact fun x y t m h1 h2 h3 h4 h5 h6 h7 h8 => hN _ ⟨⟨x, y, t, m⟩, ⟨h5, h6, h7, h8⟩, ⟨⟨show -10000000000 ≤ x by omega, h2⟩, show -10000000000 ≤ y ∧ y ≤ 10000000000 by omega⟩, rfl⟩) ?_
      rintro ρ ⟨f, okf, inf, rfl⟩
      refine seq_of (fun ρ => ∃ z : Int, ρ = [some (.d (.lst (ns.map D.int))), some (.d .bag), some (.d x), some (.d (.tup f.l)), some (.d (.int (f.t + 4 * z))), u5, u6, u7, u8]) (fun N hN => by
        simp -implicitDefEqProofs only [Mv.l, wp_small, dInN, dNotInN, anyEq, List.any_cons, List.any_nil, dSlS, dVar, dC, lk, dOp, dUn, dI2, dI0, dI1, dAdd, dEqN, dNeN, dB, dAnd, dOr, dNot, dAndV, dOrV, dNotV, dIf, dNil, dCons, dTup, dLst, dIx, onS, dNext, dSeq, dBrk, dCnt, dDrop, dRet, dRetN, dIfS, dName, dgNil, dgCons, dgTup, dAsg, dPar, dSeqI, dLstI, dTupI, dStrI, dRng1, dRng2, dFor, dCall, dCallD, dCB, dFld, dFldO, dPutO, dMeth, dMake, fget, fput, dIsi, dIsiT, dIsiC, dProp, dOwn, dBM, tyD, kitAnyB, dAbs, dIntC, dLen, dList, dTuple, dAllB, dAnyB, dSum, dComp, wipeD, dTs1, dZip, dEnum, dNewL, dOwnL, dSetL, dIxO, dApp, dLenO, dFrz, dIsN, dNotN, isNonD, dChain, dSl, dSlL, dPart, dNoPart, List.set_cons_zero, List.set_cons_succ, List.cons_append, List.nil_append, List.append_nil, List.length_cons, List.length_nil, deq, deqs, D.isData, allData, true_and, and_true, beq_iff_eq, bne_iff_ne, decide_eq_true_eq, Bool.not_true, Bool.not_false, Bool.false_eq_true, Bool.true_eq_false, if_true, if_false, Bool.and_true, Bool.true_and, Bool.and_false, Bool.false_and, Bool.or_true, Bool.true_or, Bool.or_false, Bool.false_or, Nat.reduceAdd, Nat.reduceSub, Nat.reduceLeDiff, Nat.reduceLT, kb_NoneType_int, kb_NoneType_bool, kb_NoneType_str, kb_NoneType_list, kb_NoneType_tuple, kb_bool_int, kb_bool_bool, kb_bool_str, kb_bool_list, kb_bool_tuple, kb_int_int, kb_int_bool, kb_int_str, kb_int_list, kb_int_tuple, kb_str_int, kb_str_bool, kb_str_str, kb_str_list, kb_str_tuple, kb_tuple_int, kb_tuple_bool, kb_tuple_str, kb_tuple_list, kb_tuple_tuple, kb_list_int, kb_list_bool, kb_list_str, kb_list_list, kb_list_tuple, atI_0, atI_1, atI_2, atI_3, atI_4, atI_5, atI_6, atI_7, ixN_1_0, ixN_2_0, ixN_2_1, ixN_3_0, ixN_3_1, ixN_3_2, ixN_4_0, ixN_4_1, ixN_4_2, ixN_4_3, ixN_5_0, ixN_5_1, ixN_5_2, ixN_5_3, ixN_5_4, ixN_6_0, ixN_6_1, ixN_6_2, ixN_6_3, ixN_6_4, ixN_6_5, List.length_set, List.length_map, List.length_append]
        exact fun n _ _ => ⟨.inl ⟨by decide, by decide⟩, hN _ ⟨n, rfl⟩⟩) ?_
      rintro ρ ⟨z, rfl⟩
      have et : (f.t + 4 * z) % 4 = f.t := by
        have := okf.t0
        have := okf.t1
        omega
      have em : bI (f.m == 1) = f.m := bI_01 okf.m0 okf.m1
      refine seq_eq [some (.d (.lst (ns.map D.int))), some (.d .bag), some (.d x), some (.d (.tup f.l)), some (.d (.int (f.t + 4 * z))), some (.d (.ins C_Move f.fs)), u6, u7, u8] (fun N hN => by
        simp -implicitDefEqProofs only [Mv.l, wp_Move_init, dInN, dNotInN, anyEq, List.any_cons, List.any_nil, dSlS, dVar, dC, lk, dOp, dUn, dI2, dI0, dI1, dAdd, dEqN, dNeN, dB, dAnd, dOr, dNot, dAndV, dOrV, dNotV, dIf, dNil, dCons, dTup, dLst, dIx, onS, dNext, dSeq, dBrk, dCnt, dDrop, dRet, dRetN, dIfS, dName, dgNil, dgCons, dgTup, dAsg, dPar, dSeqI, dLstI, dTupI, dStrI, dRng1, dRng2, dFor, dCall, dCallD, dCB, dFld, dFldO, dPutO, dMeth, dMake, fget, fput, dIsi, dIsiT, dIsiC, dProp, dOwn, dBM, tyD, kitAnyB, dAbs, dIntC, dLen, dList, dTuple, dAllB, dAnyB, dSum, dComp, wipeD, dTs1, dZip, dEnum, dNewL, dOwnL, dSetL, dIxO, dApp, dLenO, dFrz, dIsN, dNotN, isNonD, dChain, dSl, dSlL, dPart, dNoPart, List.set_cons_zero, List.set_cons_succ, List.cons_append, List.nil_append, List.append_nil, List.length_cons, List.length_nil, deq, deqs, D.isData, allData, true_and, and_true, beq_iff_eq, bne_iff_ne, decide_eq_true_eq, Bool.not_true, Bool.not_false, Bool.false_eq_true, Bool.true_eq_false, if_true, if_false, Bool.and_true, Bool.true_and, Bool.and_false, Bool.false_and, Bool.or_true, Bool.true_or, Bool.or_false, Bool.false_or, Nat.reduceAdd, Nat.reduceSub, Nat.reduceLeDiff, Nat.reduceLT, kb_NoneType_int, kb_NoneType_bool, kb_NoneType_str, kb_NoneType_list, kb_NoneType_tuple, kb_bool_int, kb_bool_bool, kb_bool_str, kb_bool_list, kb_bool_tuple, kb_int_int, kb_int_bool, kb_int_str, kb_int_list, kb_int_tuple, kb_str_int, kb_str_bool, kb_str_str, kb_str_list, kb_str_tuple, kb_tuple_int, kb_tuple_bool, kb_tuple_str, kb_tuple_list, kb_tuple_tuple, kb_list_int, kb_list_bool, kb_list_str, kb_list_list, kb_list_tuple, atI_0, atI_1, atI_2, atI_3, atI_4, atI_5, atI_6, atI_7, ixN_1_0, ixN_2_0, ixN_2_1, ixN_3_0, ixN_3_1, ixN_3_2, ixN_4_0, ixN_4_1, ixN_4_2, ixN_4_3, ixN_5_0, ixN_5_1, ixN_5_2, ixN_5_3, ixN_5_4, ixN_6_0, ixN_6_1, ixN_6_2, ixN_6_3, ixN_6_4, ixN_6_5, List.length_set, List.length_map, List.length_append]
        refine ⟨(inf.le (B := BM) (by decide)).four, ?_⟩
        rw [et, em]
        exact hN) ?_
      refine seq_eq [some (.d (.lst (ns.map D.int))), some (.d .bag), some (.d x), some (.d (.tup f.l)), some (.d (.int (f.t + 4 * z))), some (.d (.ins C_Move f.fs)), u6, u7, u8] (fun N hN => by
        simp -implicitDefEqProofs only [Mv.fs, Mv.l, wp_Msign, wpSame, fget, if_true, dInN, dNotInN, anyEq, List.any_cons, List.any_nil, dSlS, dVar, dC, lk, dOp, dUn, dI2, dI0, dI1, dAdd, dEqN, dNeN, dB, dAnd, dOr, dNot, dAndV, dOrV, dNotV, dIf, dNil, dCons, dTup, dLst, dIx, onS, dNext, dSeq, dBrk, dCnt, dDrop, dRet, dRetN, dIfS, dName, dgNil, dgCons, dgTup, dAsg, dPar, dSeqI, dLstI, dTupI, dStrI, dRng1, dRng2, dFor, dCall, dCallD, dCB, dFld, dFldO, dPutO, dMeth, dMake, fget, fput, dIsi, dIsiT, dIsiC, dProp, dOwn, dBM, tyD, kitAnyB, dAbs, dIntC, dLen, dList, dTuple, dAllB, dAnyB, dSum, dComp, wipeD, dTs1, dZip, dEnum, dNewL, dOwnL, dSetL, dIxO, dApp, dLenO, dFrz, dIsN, dNotN, isNonD, dChain, dSl, dSlL, dPart, dNoPart, List.set_cons_zero, List.set_cons_succ, List.cons_append, List.nil_append, List.append_nil, List.length_cons, List.length_nil, deq, deqs, D.isData, allData, true_and, and_true, beq_iff_eq, bne_iff_ne, decide_eq_true_eq, Bool.not_true, Bool.not_false, Bool.false_eq_true, Bool.true_eq_false, if_true, if_false, Bool.and_true, Bool.true_and, Bool.and_false, Bool.false_and, Bool.or_true, Bool.true_or, Bool.or_false, Bool.false_or, Nat.reduceAdd, Nat.reduceSub, Nat.reduceLeDiff, Nat.reduceLT, kb_NoneType_int, kb_NoneType_bool, kb_NoneType_str, kb_NoneType_list, kb_NoneType_tuple, kb_bool_int, kb_bool_bool, kb_bool_str, kb_bool_list, kb_bool_tuple, kb_int_int, kb_int_bool, kb_int_str, kb_int_list, kb_int_tuple, kb_str_int, kb_str_bool, kb_str_str, kb_str_list, kb_str_tuple, kb_tuple_int, kb_tuple_bool, kb_tuple_str, kb_tuple_list, kb_tuple_tuple, kb_list_int, kb_list_bool, kb_list_str, kb_list_list, kb_list_tuple, atI_0, atI_1, atI_2, atI_3, atI_4, atI_5, atI_6, atI_7, ixN_1_0, ixN_2_0, ixN_2_1, ixN_3_0, ixN_3_1, ixN_3_2, ixN_4_0, ixN_4_1, ixN_4_2, ixN_4_3, ixN_5_0, ixN_5_1, ixN_5_2, ixN_5_3, ixN_5_4, ixN_6_0, ixN_6_1, ixN_6_2, ixN_6_3, ixN_6_4, ixN_6_5, List.length_set, List.length_map, List.length_append]
        refine ⟨rfl, if_n (by rw [sameD_refl 3 _ rfl]; decide) ⟨f, rfl, .inl ⟨by decide, by decide⟩, rfl, if_n (by rw [sameD_refl 3 _ rfl]; decide) hN⟩⟩) ?_
      refine seq_of (fun ρ => ∃ a : Addr, ρ = [some (.d (.lst (ns.map D.int))), some (.d .bag), some (.d x), some (.d (.tup f.l)), some (.d (.int (f.t + 4 * z))), some (.d (.ins C_Move f.fs)), some (.lst a f.l), u7, u8]) (fun N hN => by
        simp -implicitDefEqProofs only [dInN, dNotInN, anyEq, List.any_cons, List.any_nil, dSlS, dVar, dC, lk, dOp, dUn, dI2, dI0, dI1, dAdd, dEqN, dNeN, dB, dAnd, dOr, dNot, dAndV, dOrV, dNotV, dIf, dNil, dCons, dTup, dLst, dIx, onS, dNext, dSeq, dBrk, dCnt, dDrop, dRet, dRetN, dIfS, dName, dgNil, dgCons, dgTup, dAsg, dPar, dSeqI, dLstI, dTupI, dStrI, dRng1, dRng2, dFor, dCall, dCallD, dCB, dFld, dFldO, dPutO, dMeth, dMake, fget, fput, dIsi, dIsiT, dIsiC, dProp, dOwn, dBM, tyD, kitAnyB, dAbs, dIntC, dLen, dList, dTuple, dAllB, dAnyB, dSum, dComp, wipeD, dTs1, dZip, dEnum, dNewL, dOwnL, dSetL, dIxO, dApp, dLenO, dFrz, dIsN, dNotN, isNonD, dChain, dSl, dSlL, dPart, dNoPart, List.set_cons_zero, List.set_cons_succ, List.cons_append, List.nil_append, List.append_nil, List.length_cons, List.length_nil, deq, deqs, D.isData, allData, true_and, and_true, beq_iff_eq, bne_iff_ne, decide_eq_true_eq, Bool.not_true, Bool.not_false, Bool.false_eq_true, Bool.true_eq_false, if_true, if_false, Bool.and_true, Bool.true_and, Bool.and_false, Bool.false_and, Bool.or_true, Bool.true_or, Bool.or_false, Bool.false_or, Nat.reduceAdd, Nat.reduceSub, Nat.reduceLeDiff, Nat.reduceLT, kb_NoneType_int, kb_NoneType_bool, kb_NoneType_str, kb_NoneType_list, kb_NoneType_tuple, kb_bool_int, kb_bool_bool, kb_bool_str, kb_bool_list, kb_bool_tuple, kb_int_int, kb_int_bool, kb_int_str, kb_int_list, kb_int_tuple, kb_str_int, kb_str_bool, kb_str_str, kb_str_list, kb_str_tuple, kb_tuple_int, kb_tuple_bool, kb_tuple_str, kb_tuple_list, kb_tuple_tuple, kb_list_int, kb_list_bool, kb_list_str, kb_list_list, kb_list_tuple, atI_0, atI_1, atI_2, atI_3, atI_4, atI_5, atI_6, atI_7, ixN_1_0, ixN_2_0, ixN_2_1, ixN_3_0, ixN_3_1, ixN_3_2, ixN_4_0, ixN_4_1, ixN_4_2, ixN_4_3, ixN_5_0, ixN_5_1, ixN_5_2, ixN_5_3, ixN_5_4, ixN_6_0, ixN_6_1, ixN_6_2, ixN_6_3, ixN_6_4, ixN_6_5, List.length_set, List.length_map, List.length_append]
        exact fun a => hN _ ⟨a, rfl⟩) ?_
      rintro ρ ⟨a, rfl⟩
      refine seq_of (fun ρ => ∃ j : Int, 0 ≤ j ∧ j < 5 ∧ ρ = [some (.d (.lst (ns.map D.int))), some (.d .bag), some (.d x), some (.d (.tup f.l)), some (.d (.int (f.t + 4 * z))), some (.d (.ins C_Move f.fs)), some (.lst a f.l), some (.d (.int j)), u8]) (fun N hN => by
        simp -implicitDefEqProofs only [wpPull, dInN, dNotInN, anyEq, List.any_cons, List.any_nil, dSlS, dVar, dC, lk, dOp, dUn, dI2, dI0, dI1, dAdd, dEqN, dNeN, dB, dAnd, dOr, dNot, dAndV, dOrV, dNotV, dIf, dNil, dCons, dTup, dLst, dIx, onS, dNext, dSeq, dBrk, dCnt, dDrop, dRet, dRetN, dIfS, dName, dgNil, dgCons, dgTup, dAsg, dPar, dSeqI, dLstI, dTupI, dStrI, dRng1, dRng2, dFor, dCall, dCallD, dCB, dFld, dFldO, dPutO, dMeth, dMake, fget, fput, dIsi, dIsiT, dIsiC, dProp, dOwn, dBM, tyD, kitAnyB, dAbs, dIntC, dLen, dList, dTuple, dAllB, dAnyB, dSum, dComp, wipeD, dTs1, dZip, dEnum, dNewL, dOwnL, dSetL, dIxO, dApp, dLenO, dFrz, dIsN, dNotN, isNonD, dChain, dSl, dSlL, dPart, dNoPart, List.set_cons_zero, List.set_cons_succ, List.cons_append, List.nil_append, List.append_nil, List.length_cons, List.length_nil, deq, deqs, D.isData, allData, true_and, and_true, beq_iff_eq, bne_iff_ne, decide_eq_true_eq, Bool.not_true, Bool.not_false, Bool.false_eq_true, Bool.true_eq_false, if_true, if_false, Bool.and_true, Bool.true_and, Bool.and_false, Bool.false_and, Bool.or_true, Bool.true_or, Bool.or_false, Bool.false_or, Nat.reduceAdd, Nat.reduceSub, Nat.reduceLeDiff, Nat.reduceLT, kb_NoneType_int, kb_NoneType_bool, kb_NoneType_str, kb_NoneType_list, kb_NoneType_tuple, kb_bool_int, kb_bool_bool, kb_bool_str, kb_bool_list, kb_bool_tuple, kb_int_int, kb_int_bool, kb_int_str, kb_int_list, kb_int_tuple, kb_str_int, kb_str_bool, kb_str_str, kb_str_list, kb_str_tuple, kb_tuple_int, kb_tuple_bool, kb_tuple_str, kb_tuple_list, kb_tuple_tuple, kb_list_int, kb_list_bool, kb_list_str, kb_list_list, kb_list_tuple, atI_0, atI_1, atI_2, atI_3, atI_4, atI_5, atI_6, atI_7, ixN_1_0, ixN_2_0, ixN_2_1, ixN_3_0, ixN_3_1, ixN_3_2, ixN_4_0, ixN_4_1, ixN_4_2, ixN_4_3, ixN_5_0, ixN_5_1, ixN_5_2, ixN_5_3, ixN_5_4, ixN_6_0, ixN_6_1, ixN_6_2, ixN_6_3, ixN_6_4, ixN_6_5, List.length_set, List.length_map, List.length_append]
        exact ⟨⟨by decide, by decide⟩, fun d d0 d1 => hN _ ⟨d, d0, d1, rfl⟩⟩) ?_
      rintro ρ ⟨j, j0, j1, rfl⟩
      refine seq_of (fun ρ => ∃ g : Mv, g.Ok ∧ g.In 20000000000 ∧ (f = g ↔ j = 4) ∧ ρ = [some (.d (.lst (ns.map D.int))), some (.d .bag), some (.d x), some (.d (.tup f.l)), some (.d (.int (f.t + 4 * z))), some (.d (.ins C_Move f.fs)), some (.lst a g.l), some (.d (.int j)), u8]) (fun N hN => ?_) ?_
      · have hj : j = 0 ∨ j = 1 ∨ j = 2 ∨ j = 3 ∨ j = 4 := by omega
        have q : ∀ g : Mv, f = g ↔ f.x = g.x ∧ f.y = g.y ∧ f.t = g.t ∧ f.m = g.m := fun g => ⟨fun h => by subst h; exact ⟨rfl, rfl, rfl, rfl⟩, fun h => Mv.ext h.1 h.2.1 h.2.2.1 h.2.2.2⟩
        obtain ⟨⟨i1, i2⟩, i3, i4⟩ := inf
        have t0 := okf.t0
        have t1 := okf.t1
        have m0 := okf.m0
        have m1 := okf.m1
        rcases hj with rfl | rfl | rfl | rfl | rfl <;> simp -implicitDefEqProofs only [Mv.l, wpPull, Int.reduceLT, Int.reduceEq, decide_true, decide_false, dInN, dNotInN, anyEq, List.any_cons, List.any_nil, dSlS, dVar, dC, lk, dOp, dUn, dI2, dI0, dI1, dAdd, dEqN, dNeN, dB, dAnd, dOr, dNot, dAndV, dOrV, dNotV, dIf, dNil, dCons, dTup, dLst, dIx, onS, dNext, dSeq, dBrk, dCnt, dDrop, dRet, dRetN, dIfS, dName, dgNil, dgCons, dgTup, dAsg, dPar, dSeqI, dLstI, dTupI, dStrI, dRng1, dRng2, dFor, dCall, dCallD, dCB, dFld, dFldO, dPutO, dMeth, dMake, fget, fput, dIsi, dIsiT, dIsiC, dProp, dOwn, dBM, tyD, kitAnyB, dAbs, dIntC, dLen, dList, dTuple, dAllB, dAnyB, dSum, dComp, wipeD, dTs1, dZip, dEnum, dNewL, dOwnL, dSetL, dIxO, dApp, dLenO, dFrz, dIsN, dNotN, isNonD, dChain, dSl, dSlL, dPart, dNoPart, List.set_cons_zero, List.set_cons_succ, List.cons_append, List.nil_append, List.append_nil, List.length_cons, List.length_nil, deq, deqs, D.isData, allData, true_and, and_true, beq_iff_eq, bne_iff_ne, decide_eq_true_eq, Bool.not_true, Bool.not_false, Bool.false_eq_true, Bool.true_eq_false, if_true, if_false, Bool.and_true, Bool.true_and, Bool.and_false, Bool.false_and, Bool.or_true, Bool.true_or, Bool.or_false, Bool.false_or, Nat.reduceAdd, Nat.reduceSub, Nat.reduceLeDiff, Nat.reduceLT, kb_NoneType_int, kb_NoneType_bool, kb_NoneType_str, kb_NoneType_list, kb_NoneType_tuple, kb_bool_int, kb_bool_bool, kb_bool_str, kb_bool_list, kb_bool_tuple, kb_int_int, kb_int_bool, kb_int_str, kb_int_list, kb_int_tuple, kb_str_int, kb_str_bool, kb_str_str, kb_str_list, kb_str_tuple, kb_tuple_int, kb_tuple_bool, kb_tuple_str, kb_tuple_list, kb_tuple_tuple, kb_list_int, kb_list_bool, kb_list_str, kb_list_list, kb_list_tuple, atI_0, atI_1, atI_2, atI_3, atI_4, atI_5, atI_6, atI_7, ixN_1_0, ixN_2_0, ixN_2_1, ixN_3_0, ixN_3_1, ixN_3_2, ixN_4_0, ixN_4_1, ixN_4_2, ixN_4_3, ixN_5_0, ixN_5_1, ixN_5_2, ixN_5_3, ixN_5_4, ixN_6_0, ixN_6_1, ixN_6_2, ixN_6_3, ixN_6_4, ixN_6_5, List.length_set, List.length_map, List.length_append]
        · exact ⟨by decide, fun d d0 d1 => hN _ ⟨⟨f.x + 1 + d, f.y, f.t, f.m⟩, ⟨t0, t1, m0, m1⟩, ⟨⟨show -20000000000 ≤ f.x + 1 + d by omega, show f.x + 1 + d ≤ 20000000000 by omega⟩, show -20000000000 ≤ f.y ∧ f.y ≤ 20000000000 by omega⟩, by rw [q]; simp only; omega, rfl⟩⟩
        · exact ⟨by decide, fun d d0 d1 => hN _ ⟨⟨f.x, f.y + 1 + d, f.t, f.m⟩, ⟨t0, t1, m0, m1⟩, ⟨⟨show -20000000000 ≤ f.x by omega, show f.x ≤ 20000000000 by omega⟩, show -20000000000 ≤ f.y + 1 + d ∧ f.y + 1 + d ≤ 20000000000 by omega⟩, by rw [q]; simp only; omega, rfl⟩⟩
        · exact hN _ ⟨⟨f.x, f.y, (f.t + 1) % 4, f.m⟩, ⟨by dsimp only; omega, by dsimp only; omega, m0, m1⟩, ⟨⟨show -20000000000 ≤ f.x by omega, show f.x ≤ 20000000000 by omega⟩, show -20000000000 ≤ f.y ∧ f.y ≤ 20000000000 by omega⟩, by rw [q]; simp only; omega, rfl⟩
        · exact hN _ ⟨⟨f.x, f.y, f.t, (f.m + 1) % 2⟩, ⟨t0, t1, by dsimp only; omega, by dsimp only; omega⟩, ⟨⟨show -20000000000 ≤ f.x by omega, show f.x ≤ 20000000000 by omega⟩, show -20000000000 ≤ f.y ∧ f.y ≤ 20000000000 by omega⟩, by rw [q]; simp only; omega, rfl⟩
        · exact hN _ ⟨f, ⟨t0, t1, m0, m1⟩, ⟨⟨by omega, by omega⟩, by omega, by omega⟩, by simp, rfl⟩
      rintro ρ ⟨g, okg, ing, hg, rfl⟩
      refine frz_lst (a := a) (xs := g.l) rfl ?_
      show dSeq _ _ _ _
      refine seq_eq [some (.d (.lst (ns.map D.int))), some (.d .bag), some (.d x), some (.d (.tup f.l)), some (.d (.int (f.t + 4 * z))), some (.d (.ins C_Move f.fs)), some (.d (.lst g.l)), some (.d (.int j)), u8] (fun N hN => by
        simp -implicitDefEqProofs only [dOwnNe, wp_lmv2, wp_Meq, wpSame, dInN, dNotInN, anyEq, List.any_cons, List.any_nil, dSlS, dVar, dC, lk, dOp, dUn, dI2, dI0, dI1, dAdd, dEqN, dNeN, dB, dAnd, dOr, dNot, dAndV, dOrV, dNotV, dIf, dNil, dCons, dTup, dLst, dIx, onS, dNext, dSeq, dBrk, dCnt, dDrop, dRet, dRetN, dIfS, dName, dgNil, dgCons, dgTup, dAsg, dPar, dSeqI, dLstI, dTupI, dStrI, dRng1, dRng2, dFor, dCall, dCallD, dCB, dFld, dFldO, dPutO, dMeth, dMake, fget, fput, dIsi, dIsiT, dIsiC, dProp, dOwn, dBM, tyD, kitAnyB, dAbs, dIntC, dLen, dList, dTuple, dAllB, dAnyB, dSum, dComp, wipeD, dTs1, dZip, dEnum, dNewL, dOwnL, dSetL, dIxO, dApp, dLenO, dFrz, dIsN, dNotN, isNonD, dChain, dSl, dSlL, dPart, dNoPart, List.set_cons_zero, List.set_cons_succ, List.cons_append, List.nil_append, List.append_nil, List.length_cons, List.length_nil, deq, deqs, D.isData, allData, true_and, and_true, beq_iff_eq, bne_iff_ne, decide_eq_true_eq, Bool.not_true, Bool.not_false, Bool.false_eq_true, Bool.true_eq_false, if_true, if_false, Bool.and_true, Bool.true_and, Bool.and_false, Bool.false_and, Bool.or_true, Bool.true_or, Bool.or_false, Bool.false_or, Nat.reduceAdd, Nat.reduceSub, Nat.reduceLeDiff, Nat.reduceLT, kb_NoneType_int, kb_NoneType_bool, kb_NoneType_str, kb_NoneType_list, kb_NoneType_tuple, kb_bool_int, kb_bool_bool, kb_bool_str, kb_bool_list, kb_bool_tuple, kb_int_int, kb_int_bool, kb_int_str, kb_int_list, kb_int_tuple, kb_str_int, kb_str_bool, kb_str_str, kb_str_list, kb_str_tuple, kb_tuple_int, kb_tuple_bool, kb_tuple_str, kb_tuple_list, kb_tuple_tuple, kb_list_int, kb_list_bool, kb_list_str, kb_list_list, kb_list_tuple, atI_0, atI_1, atI_2, atI_3, atI_4, atI_5, atI_6, atI_7, ixN_1_0, ixN_2_0, ixN_2_1, ixN_3_0, ixN_3_1, ixN_3_2, ixN_4_0, ixN_4_1, ixN_4_2, ixN_4_3, ixN_5_0, ixN_5_1, ixN_5_2, ixN_5_3, ixN_5_4, ixN_6_0, ixN_6_1, ixN_6_2, ixN_6_3, ixN_6_4, ixN_6_5, List.length_set, List.length_map, List.length_append]
        have e : decide (f = g) = (j == 4) := by
          rw [Bool.eq_iff_iff]
          simp [hg]
        refine ⟨g, _, rfl, .inr rfl, ⟨okg, ing.le (by decide)⟩, f, g, rfl, rfl, if_n (by rw [e]; simp [sameD]) ⟨g, _, rfl, .inr rfl, ⟨okg, ing.le (by decide)⟩, f, g, rfl, _, rfl, rfl, if_n (by rw [e]; simp [sameD]) hN⟩⟩) ?_
      refine seq_eq [some (.d (.lst (ns.map D.int))), some (.d .bag), some (.d x), some (.d (.tup f.l)), some (.d (.int (f.t + 4 * z))), some (.d (.ins C_Move f.fs)), some (.d (.lst g.l)), some (.d (.int j)), some (.d (.ins C_Move f.fs))] (fun N hN => by
        simp -implicitDefEqProofs only [dMakeK, kwMoveD, Mv.l, wp_Move_init, dInN, dNotInN, anyEq, List.any_cons, List.any_nil, dSlS, dVar, dC, lk, dOp, dUn, dI2, dI0, dI1, dAdd, dEqN, dNeN, dB, dAnd, dOr, dNot, dAndV, dOrV, dNotV, dIf, dNil, dCons, dTup, dLst, dIx, onS, dNext, dSeq, dBrk, dCnt, dDrop, dRet, dRetN, dIfS, dName, dgNil, dgCons, dgTup, dAsg, dPar, dSeqI, dLstI, dTupI, dStrI, dRng1, dRng2, dFor, dCall, dCallD, dCB, dFld, dFldO, dPutO, dMeth, dMake, fget, fput, dIsi, dIsiT, dIsiC, dProp, dOwn, dBM, tyD, kitAnyB, dAbs, dIntC, dLen, dList, dTuple, dAllB, dAnyB, dSum, dComp, wipeD, dTs1, dZip, dEnum, dNewL, dOwnL, dSetL, dIxO, dApp, dLenO, dFrz, dIsN, dNotN, isNonD, dChain, dSl, dSlL, dPart, dNoPart, List.set_cons_zero, List.set_cons_succ, List.cons_append, List.nil_append, List.append_nil, List.length_cons, List.length_nil, deq, deqs, D.isData, allData, true_and, and_true, beq_iff_eq, bne_iff_ne, decide_eq_true_eq, Bool.not_true, Bool.not_false, Bool.false_eq_true, Bool.true_eq_false, if_true, if_false, Bool.and_true, Bool.true_and, Bool.and_false, Bool.false_and, Bool.or_true, Bool.true_or, Bool.or_false, Bool.false_or, Nat.reduceAdd, Nat.reduceSub, Nat.reduceLeDiff, Nat.reduceLT, kb_NoneType_int, kb_NoneType_bool, kb_NoneType_str, kb_NoneType_list, kb_NoneType_tuple, kb_bool_int, kb_bool_bool, kb_bool_str, kb_bool_list, kb_bool_tuple, kb_int_int, kb_int_bool, kb_int_str, kb_int_list, kb_int_tuple, kb_str_int, kb_str_bool, kb_str_str, kb_str_list, kb_str_tuple, kb_tuple_int, kb_tuple_bool, kb_tuple_str, kb_tuple_list, kb_tuple_tuple, kb_list_int, kb_list_bool, kb_list_str, kb_list_list, kb_list_tuple, atI_0, atI_1, atI_2, atI_3, atI_4, atI_5, atI_6, atI_7, ixN_1_0, ixN_2_0, ixN_2_1, ixN_3_0, ixN_3_1, ixN_3_2, ixN_4_0, ixN_4_1, ixN_4_2, ixN_4_3, ixN_5_0, ixN_5_1, ixN_5_2, ixN_5_3, ixN_5_4, ixN_6_0, ixN_6_1, ixN_6_2, ixN_6_3, ixN_6_4, ixN_6_5, List.length_set, List.length_map, List.length_append]
        refine ⟨(inf.le (B := BM) (by decide)).four, ?_⟩
        rw [et, em]
        exact hN) ?_
      refine seq_eq [some (.d (.lst (ns.map D.int))), some (.d .bag), some (.d x), some (.d (.tup f.l)), some (.d (.int (f.t + 4 * z))), some (.d (.ins C_Move f.fs)), some (.d (.lst g.l)), some (.d (.int j)), some (.d (.ins C_Move f.fs))] (fun N hN => by
        simp -implicitDefEqProofs only [wp_Meq, wpSame, dInN, dNotInN, anyEq, List.any_cons, List.any_nil, dSlS, dVar, dC, lk, dOp, dUn, dI2, dI0, dI1, dAdd, dEqN, dNeN, dB, dAnd, dOr, dNot, dAndV, dOrV, dNotV, dIf, dNil, dCons, dTup, dLst, dIx, onS, dNext, dSeq, dBrk, dCnt, dDrop, dRet, dRetN, dIfS, dName, dgNil, dgCons, dgTup, dAsg, dPar, dSeqI, dLstI, dTupI, dStrI, dRng1, dRng2, dFor, dCall, dCallD, dCB, dFld, dFldO, dPutO, dMeth, dMake, fget, fput, dIsi, dIsiT, dIsiC, dProp, dOwn, dBM, tyD, kitAnyB, dAbs, dIntC, dLen, dList, dTuple, dAllB, dAnyB, dSum, dComp, wipeD, dTs1, dZip, dEnum, dNewL, dOwnL, dSetL, dIxO, dApp, dLenO, dFrz, dIsN, dNotN, isNonD, dChain, dSl, dSlL, dPart, dNoPart, List.set_cons_zero, List.set_cons_succ, List.cons_append, List.nil_append, List.append_nil, List.length_cons, List.length_nil, deq, deqs, D.isData, allData, true_and, and_true, beq_iff_eq, bne_iff_ne, decide_eq_true_eq, Bool.not_true, Bool.not_false, Bool.false_eq_true, Bool.true_eq_false, if_true, if_false, Bool.and_true, Bool.true_and, Bool.and_false, Bool.false_and, Bool.or_true, Bool.true_or, Bool.or_false, Bool.false_or, Nat.reduceAdd, Nat.reduceSub, Nat.reduceLeDiff, Nat.reduceLT, kb_NoneType_int, kb_NoneType_bool, kb_NoneType_str, kb_NoneType_list, kb_NoneType_tuple, kb_bool_int, kb_bool_bool, kb_bool_str, kb_bool_list, kb_bool_tuple, kb_int_int, kb_int_bool, kb_int_str, kb_int_list, kb_int_tuple, kb_str_int, kb_str_bool, kb_str_str, kb_str_list, kb_str_tuple, kb_tuple_int, kb_tuple_bool, kb_tuple_str, kb_tuple_list, kb_tuple_tuple, kb_list_int, kb_list_bool, kb_list_str, kb_list_list, kb_list_tuple, atI_0, atI_1, atI_2, atI_3, atI_4, atI_5, atI_6, atI_7, ixN_1_0, ixN_2_0, ixN_2_1, ixN_3_0, ixN_3_1, ixN_3_2, ixN_4_0, ixN_4_1, ixN_4_2, ixN_4_3, ixN_5_0, ixN_5_1, ixN_5_2, ixN_5_3, ixN_5_4, ixN_6_0, ixN_6_1, ixN_6_2, ixN_6_3, ixN_6_4, ixN_6_5, List.length_set, List.length_map, List.length_append]
        exact ⟨f, f, rfl, rfl, if_n (nsame (decide_eq_true rfl)) hN⟩) ?_
      refine seq_eq [some (.d (.lst (ns.map D.int))), some (.d .bag), some (.d x), some (.d (.tup f.l)), some (.d (.int (f.t + 4 * z))), some (.d (.ins C_Move f.fs)), some (.d (.lst g.l)), some (.d (.int j)), some (.d (.ins C_Move f.fs))] (fun N hN => by
        simp -implicitDefEqProofs only [dCm, Mv.fs, Mv.l, wp_shifted, wpSame, fget, if_true, dInN, dNotInN, anyEq, List.any_cons, List.any_nil, dSlS, dVar, dC, lk, dOp, dUn, dI2, dI0, dI1, dAdd, dEqN, dNeN, dB, dAnd, dOr, dNot, dAndV, dOrV, dNotV, dIf, dNil, dCons, dTup, dLst, dIx, onS, dNext, dSeq, dBrk, dCnt, dDrop, dRet, dRetN, dIfS, dName, dgNil, dgCons, dgTup, dAsg, dPar, dSeqI, dLstI, dTupI, dStrI, dRng1, dRng2, dFor, dCall, dCallD, dCB, dFld, dFldO, dPutO, dMeth, dMake, fget, fput, dIsi, dIsiT, dIsiC, dProp, dOwn, dBM, tyD, kitAnyB, dAbs, dIntC, dLen, dList, dTuple, dAllB, dAnyB, dSum, dComp, wipeD, dTs1, dZip, dEnum, dNewL, dOwnL, dSetL, dIxO, dApp, dLenO, dFrz, dIsN, dNotN, isNonD, dChain, dSl, dSlL, dPart, dNoPart, List.set_cons_zero, List.set_cons_succ, List.cons_append, List.nil_append, List.append_nil, List.length_cons, List.length_nil, deq, deqs, D.isData, allData, true_and, and_true, beq_iff_eq, bne_iff_ne, decide_eq_true_eq, Bool.not_true, Bool.not_false, Bool.false_eq_true, Bool.true_eq_false, if_true, if_false, Bool.and_true, Bool.true_and, Bool.and_false, Bool.false_and, Bool.or_true, Bool.true_or, Bool.or_false, Bool.false_or, Nat.reduceAdd, Nat.reduceSub, Nat.reduceLeDiff, Nat.reduceLT, kb_NoneType_int, kb_NoneType_bool, kb_NoneType_str, kb_NoneType_list, kb_NoneType_tuple, kb_bool_int, kb_bool_bool, kb_bool_str, kb_bool_list, kb_bool_tuple, kb_int_int, kb_int_bool, kb_int_str, kb_int_list, kb_int_tuple, kb_str_int, kb_str_bool, kb_str_str, kb_str_list, kb_str_tuple, kb_tuple_int, kb_tuple_bool, kb_tuple_str, kb_tuple_list, kb_tuple_tuple, kb_list_int, kb_list_bool, kb_list_str, kb_list_list, kb_list_tuple, atI_0, atI_1, atI_2, atI_3, atI_4, atI_5, atI_6, atI_7, ixN_1_0, ixN_2_0, ixN_2_1, ixN_3_0, ixN_3_1, ixN_3_2, ixN_4_0, ixN_4_1, ixN_4_2, ixN_4_3, ixN_5_0, ixN_5_1, ixN_5_2, ixN_5_3, ixN_5_4, ixN_6_0, ixN_6_1, ixN_6_2, ixN_6_3, ixN_6_4, ixN_6_5, List.length_set, List.length_map, List.length_append]
        exact ⟨f.x, f.y, rfl, (inf.le (B := BM) (by decide)).four, rfl, if_n (by rw [sameD_refl 3 _ rfl]; decide) hN⟩) ?_
      simp -implicitDefEqProofs only [dCm, Mv.fs, Mv.l, wp_turned, wpSame, fget, if_true, dInN, dNotInN, anyEq, List.any_cons, List.any_nil, dSlS, dVar, dC, lk, dOp, dUn, dI2, dI0, dI1, dAdd, dEqN, dNeN, dB, dAnd, dOr, dNot, dAndV, dOrV, dNotV, dIf, dNil, dCons, dTup, dLst, dIx, onS, dNext, dSeq, dBrk, dCnt, dDrop, dRet, dRetN, dIfS, dName, dgNil, dgCons, dgTup, dAsg, dPar, dSeqI, dLstI, dTupI, dStrI, dRng1, dRng2, dFor, dCall, dCallD, dCB, dFld, dFldO, dPutO, dMeth, dMake, fget, fput, dIsi, dIsiT, dIsiC, dProp, dOwn, dBM, tyD, kitAnyB, dAbs, dIntC, dLen, dList, dTuple, dAllB, dAnyB, dSum, dComp, wipeD, dTs1, dZip, dEnum, dNewL, dOwnL, dSetL, dIxO, dApp, dLenO, dFrz, dIsN, dNotN, isNonD, dChain, dSl, dSlL, dPart, dNoPart, List.set_cons_zero, List.set_cons_succ, List.cons_append, List.nil_append, List.append_nil, List.length_cons, List.length_nil, deq, deqs, D.isData, allData, true_and, and_true, beq_iff_eq, bne_iff_ne, decide_eq_true_eq, Bool.not_true, Bool.not_false, Bool.false_eq_true, Bool.true_eq_false, if_true, if_false, Bool.and_true, Bool.true_and, Bool.and_false, Bool.false_and, Bool.or_true, Bool.true_or, Bool.or_false, Bool.false_or, Nat.reduceAdd, Nat.reduceSub, Nat.reduceLeDiff, Nat.reduceLT, kb_NoneType_int, kb_NoneType_bool, kb_NoneType_str, kb_NoneType_list, kb_NoneType_tuple, kb_bool_int, kb_bool_bool, kb_bool_str, kb_bool_list, kb_bool_tuple, kb_int_int, kb_int_bool, kb_int_str, kb_int_list, kb_int_tuple, kb_str_int, kb_str_bool, kb_str_str, kb_str_list, kb_str_tuple, kb_tuple_int, kb_tuple_bool, kb_tuple_str, kb_tuple_list, kb_tuple_tuple, kb_list_int, kb_list_bool, kb_list_str, kb_list_list, kb_list_tuple, atI_0, atI_1, atI_2, atI_3, atI_4, atI_5, atI_6, atI_7, ixN_1_0, ixN_2_0, ixN_2_1, ixN_3_0, ixN_3_1, ixN_3_2, ixN_4_0, ixN_4_1, ixN_4_2, ixN_4_3, ixN_5_0, ixN_5_1, ixN_5_2, ixN_5_3, ixN_5_4, ixN_6_0, ixN_6_1, ixN_6_2, ixN_6_3, ixN_6_4, ixN_6_5, List.length_set, List.length_map, List.length_append]
      refine ⟨f.t + 4 * z, rfl, rfl, ?_⟩
      rw [et]
      exact if_n (by rw [sameD_refl 3 _ rfl]; decide) (hN _ ⟨_, _, _, _, _, _, _, rfl⟩)
    rintro ρ ⟨u2, u3, u4, u5, u6, u7, u8, rfl⟩
    refine seq_eq [some (.d (.lst (ns.map D.int))), some (.d .bag), u2, u3, u4, u5, u6, u7, u8] (fun N hN => by
      simp -implicitDefEqProofs only [dCm, Mv.fs, Mv.l, wp_turned, wp_flip, wpSame, fget, if_true, dInN, dNotInN, anyEq, List.any_cons, List.any_nil, dSlS, dVar, dC, lk, dOp, dUn, dI2, dI0, dI1, dAdd, dEqN, dNeN, dB, dAnd, dOr, dNot, dAndV, dOrV, dNotV, dIf, dNil, dCons, dTup, dLst, dIx, onS, dNext, dSeq, dBrk, dCnt, dDrop, dRet, dRetN, dIfS, dName, dgNil, dgCons, dgTup, dAsg, dPar, dSeqI, dLstI, dTupI, dStrI, dRng1, dRng2, dFor, dCall, dCallD, dCB, dFld, dFldO, dPutO, dMeth, dMake, fget, fput, dIsi, dIsiT, dIsiC, dProp, dOwn, dBM, tyD, kitAnyB, dAbs, dIntC, dLen, dList, dTuple, dAllB, dAnyB, dSum, dComp, wipeD, dTs1, dZip, dEnum, dNewL, dOwnL, dSetL, dIxO, dApp, dLenO, dFrz, dIsN, dNotN, isNonD, dChain, dSl, dSlL, dPart, dNoPart, List.set_cons_zero, List.set_cons_succ, List.cons_append, List.nil_append, List.append_nil, List.length_cons, List.length_nil, deq, deqs, D.isData, allData, true_and, and_true, beq_iff_eq, bne_iff_ne, decide_eq_true_eq, Bool.not_true, Bool.not_false, Bool.false_eq_true, Bool.true_eq_false, if_true, if_false, Bool.and_true, Bool.true_and, Bool.and_false, Bool.false_and, Bool.or_true, Bool.true_or, Bool.or_false, Bool.false_or, Nat.reduceAdd, Nat.reduceSub, Nat.reduceLeDiff, Nat.reduceLT, kb_NoneType_int, kb_NoneType_bool, kb_NoneType_str, kb_NoneType_list, kb_NoneType_tuple, kb_bool_int, kb_bool_bool, kb_bool_str, kb_bool_list, kb_bool_tuple, kb_int_int, kb_int_bool, kb_int_str, kb_int_list, kb_int_tuple, kb_str_int, kb_str_bool, kb_str_str, kb_str_list, kb_str_tuple, kb_tuple_int, kb_tuple_bool, kb_tuple_str, kb_tuple_list, kb_tuple_tuple, kb_list_int, kb_list_bool, kb_list_str, kb_list_list, kb_list_tuple, atI_0, atI_1, atI_2, atI_3, atI_4, atI_5, atI_6, atI_7, ixN_1_0, ixN_2_0, ixN_2_1, ixN_3_0, ixN_3_1, ixN_3_2, ixN_4_0, ixN_4_1, ixN_4_2, ixN_4_3, ixN_5_0, ixN_5_1, ixN_5_2, ixN_5_3, ixN_5_4, ixN_6_0, ixN_6_1, ixN_6_2, ixN_6_3, ixN_6_4, ixN_6_5, List.length_set, List.length_map, List.length_append]
      exact ⟨1, rfl, rfl, if_n (by decide) ⟨rfl, if_n (by decide) hN⟩⟩) ?_
    simp -implicitDefEqProofs only [dSt, Mv.fs, Mv.l, Mv.one, moveF, bI, wp_still, wp_Move_init, wpSame, fget, if_true, dInN, dNotInN, anyEq, List.any_cons, List.any_nil, dSlS, dVar, dC, lk, dOp, dUn, dI2, dI0, dI1, dAdd, dEqN, dNeN, dB, dAnd, dOr, dNot, dAndV, dOrV, dNotV, dIf, dNil, dCons, dTup, dLst, dIx, onS, dNext, dSeq, dBrk, dCnt, dDrop, dRet, dRetN, dIfS, dName, dgNil, dgCons, dgTup, dAsg, dPar, dSeqI, dLstI, dTupI, dStrI, dRng1, dRng2, dFor, dCall, dCallD, dCB, dFld, dFldO, dPutO, dMeth, dMake, fget, fput, dIsi, dIsiT, dIsiC, dProp, dOwn, dBM, tyD, kitAnyB, dAbs, dIntC, dLen, dList, dTuple, dAllB, dAnyB, dSum, dComp, wipeD, dTs1, dZip, dEnum, dNewL, dOwnL, dSetL, dIxO, dApp, dLenO, dFrz, dIsN, dNotN, isNonD, dChain, dSl, dSlL, dPart, dNoPart, List.set_cons_zero, List.set_cons_succ, List.cons_append, List.nil_append, List.append_nil, List.length_cons, List.length_nil, deq, deqs, D.isData, allData, true_and, and_true, beq_iff_eq, bne_iff_ne, decide_eq_true_eq, Bool.not_true, Bool.not_false, Bool.false_eq_true, Bool.true_eq_false, if_true, if_false, Bool.and_true, Bool.true_and, Bool.and_false, Bool.false_and, Bool.or_true, Bool.true_or, Bool.or_false, Bool.false_or, Nat.reduceAdd, Nat.reduceSub, Nat.reduceLeDiff, Nat.reduceLT, kb_NoneType_int, kb_NoneType_bool, kb_NoneType_str, kb_NoneType_list, kb_NoneType_tuple, kb_bool_int, kb_bool_bool, kb_bool_str, kb_bool_list, kb_bool_tuple, kb_int_int, kb_int_bool, kb_int_str, kb_int_list, kb_int_tuple, kb_str_int, kb_str_bool, kb_str_str, kb_str_list, kb_str_tuple, kb_tuple_int, kb_tuple_bool, kb_tuple_str, kb_tuple_list, kb_tuple_tuple, kb_list_int, kb_list_bool, kb_list_str, kb_list_list, kb_list_tuple, atI_0, atI_1, atI_2, atI_3, atI_4, atI_5, atI_6, atI_7, ixN_1_0, ixN_2_0, ixN_2_1, ixN_3_0, ixN_3_1, ixN_3_2, ixN_4_0, ixN_4_1, ixN_4_2, ixN_4_3, ixN_5_0, ixN_5_1, ixN_5_2, ixN_5_3, ixN_5_4, ixN_6_0, ixN_6_1, ixN_6_2, ixN_6_3, ixN_6_4, ixN_6_5, List.length_set, List.length_map, List.length_append]
    exact ⟨rfl, if_y (by decide) ⟨by decide, rfl, hw⟩⟩
end
theorem all_mk {l : PySem.W.OpenLaw} {w : World} {K : PySem.W.Frag} {h : Heap} {mg : Str → Option Value} {fa : Addr} (X : K.In h) (G : h.Ns mainGlobals mg) (hfa : mg "law" = some (.ref fa))
    {C_Move : Addr} {t_MOST_SHIFT : Tok} {f_turned_point : Addr} {od_turned_point an_turned_point : Option Addr} {sl_turned_point : Array (Option Value)} {oc_turned_point kV_turned_point dc_turned_point pm_turned_point cd_turned_point ct_turned_point : Value} {f_is_whole : Addr} {od_is_whole an_is_whole : Option Addr} {sl_is_whole : Array (Option Value)} {oc_is_whole kV_is_whole dc_is_whole pm_is_whole cd_is_whole ct_is_whole : Value} {f_Move___init__ : Addr} {od_Move___init__ an_Move___init__ : Option Addr} {sl_Move___init__ : Array (Option Value)} {oc_Move___init__ kV_Move___init__ dc_Move___init__ pm_Move___init__ cd_Move___init__ ct_Move___init__ : Value} {D_Move___init__ : Addr} {oo_Move___init__ : Option Addr} {ol_Move___init__ : Array (Option Value)} {ob_Move___init__ : Value} {m_Move___init__ : Nat} {u0_Move___init__ : Tok} {u1_Move___init__ : Tok} {u2_Move___init__ : Tok} {f_Move_sign : Addr} {od_Move_sign an_Move_sign : Option Addr} {sl_Move_sign : Array (Option Value)} {oc_Move_sign kV_Move_sign dc_Move_sign pm_Move_sign cd_Move_sign ct_Move_sign : Value} {rc_Move_sign : Addr} {pr_Move_sign : List Value} {f_Move___eq__ : Addr} {od_Move___eq__ an_Move___eq__ : Option Addr} {sl_Move___eq__ : Array (Option Value)} {oc_Move___eq__ kV_Move___eq__ dc_Move___eq__ pm_Move___eq__ cd_Move___eq__ ct_Move___eq__ : Value} {f_Move_still : Addr} {od_Move_still an_Move_still : Option Addr} {sl_Move_still : Array (Option Value)} {oc_Move_still kV_Move_still dc_Move_still pm_Move_still cd_Move_still ct_Move_still : Value} {rc_Move_still : Addr} {pr_Move_still : List Value} {f_Move_shifted : Addr} {od_Move_shifted an_Move_shifted : Option Addr} {sl_Move_shifted : Array (Option Value)} {oc_Move_shifted kV_Move_shifted dc_Move_shifted pm_Move_shifted cd_Move_shifted ct_Move_shifted : Value} {rc_Move_shifted : Addr} {pr_Move_shifted : List Value} {f_Move_turned : Addr} {od_Move_turned an_Move_turned : Option Addr} {sl_Move_turned : Array (Option Value)} {oc_Move_turned kV_Move_turned dc_Move_turned pm_Move_turned cd_Move_turned ct_Move_turned : Value} {D_Move_turned : Addr} {oo_Move_turned : Option Addr} {ol_Move_turned : Array (Option Value)} {ob_Move_turned : Value} {m_Move_turned : Nat} {rc_Move_turned : Addr} {pr_Move_turned : List Value} {u0_Move_turned : Tok} {f_Move_flipped : Addr} {od_Move_flipped an_Move_flipped : Option Addr} {sl_Move_flipped : Array (Option Value)} {oc_Move_flipped kV_Move_flipped dc_Move_flipped pm_Move_flipped cd_Move_flipped ct_Move_flipped : Value} {rc_Move_flipped : Addr} {pr_Move_flipped : List Value} {f_law_bag : Addr} {od_law_bag an_law_bag : Option Addr} {sl_law_bag : Array (Option Value)} {oc_law_bag kV_law_bag dc_law_bag pm_law_bag cd_law_bag ct_law_bag : Value} {f_law_pull : Addr} {od_law_pull an_law_pull : Option Addr} {sl_law_pull : Array (Option Value)} {oc_law_pull kV_law_pull dc_law_pull pm_law_pull cd_law_pull ct_law_pull : Value} {f_law_small : Addr} {od_law_small an_law_small : Option Addr} {sl_law_small : Array (Option Value)} {oc_law_small kV_law_small dc_law_small pm_law_small cd_law_small ct_law_small : Value} {f_law_same : Addr} {od_law_same an_law_same : Option Addr} {sl_law_same : Array (Option Value)} {oc_law_same kV_law_same dc_law_same pm_law_same cd_law_same ct_law_same : Value} {f_law_parts : Addr} {od_law_parts an_law_parts : Option Addr} {sl_law_parts : Array (Option Value)} {oc_law_parts kV_law_parts dc_law_parts pm_law_parts cd_law_parts ct_law_parts : Value} {f_law_move : Addr} {od_law_move an_law_move : Option Addr} {sl_law_move : Array (Option Value)} {oc_law_move kV_law_move dc_law_move pm_law_move cd_law_move ct_law_move : Value} {f_law : Addr} {od_law an_law : Option Addr} {sl_law : Array (Option Value)} {oc_law kV_law dc_law pm_law cd_law ct_law : Value}
    (x_Move : PySem.W.nsIn K mainGlobals "Move" = some (some (.ref C_Move)))
    (a_Move_parts : PySem.W.findIn K (.ref C_Move) "parts" = some none)
    (pg_Move : PySem.W.plainGet K C_Move Str.empty = true)
    (hd_Move : PySem.W.hasDictIn K C_Move = true)
    (po_Move : PySem.W.plainOver K C_Move = true)
    (sa_Move : PySem.W.findIn K (.ref C_Move) "__setattr__" = some (some (.builtin "object.__setattr__")))
    (k_MOST_SHIFT : PySem.W.nsIn K mainGlobals "MOST_SHIFT" = some (some (.int 1000000000000 t_MOST_SHIFT)))
    (n_abs : PySem.W.nsIn K mainGlobals "abs" = some none)
    (n_all : PySem.W.nsIn K mainGlobals "all" = some none)
    (n_bool : PySem.W.nsIn K mainGlobals "bool" = some none)
    (n_int : PySem.W.nsIn K mainGlobals "int" = some none)
    (n_isinstance : PySem.W.nsIn K mainGlobals "isinstance" = some none)
    (n_len : PySem.W.nsIn K mainGlobals "len" = some none)
    (n_list : PySem.W.nsIn K mainGlobals "list" = some none)
    (n_range : PySem.W.nsIn K mainGlobals "range" = some none)
    (n_str : PySem.W.nsIn K mainGlobals "str" = some none)
    (n_tuple : PySem.W.nsIn K mainGlobals "tuple" = some none)
    (n_zip : PySem.W.nsIn K mainGlobals "zip" = some none)
    (ha_Move : PySem.W.findIn K (.ref C_Move) "__class__" = some (some (.builtin "object.__class__")))
    (hn_Move : PySem.W.specialIn K (.builtin "object.__class__") "__get__" = some (some (.builtin "getset_descriptor.__get__")))
    (ht_Move : PySem.W.takesIn K (.builtin "object.__class__") = some true)
    (ho_Move : PySem.W.mroIn K C_Move (.type "object") = some true)
    (g_turned_point : PySem.W.nsIn K mainGlobals "turned_point" = some (some (.ref f_turned_point)))
    (l_turned_point : K.lookup f_turned_point = some ⟨oc_turned_point, od_turned_point, .func (PySem.W.fnOf "turned_point" "turned_point" (defArgs s_turned_point) (defBody s_turned_point) (defScope s_turned_point) .none kV_turned_point dc_turned_point pm_turned_point an_turned_point cd_turned_point ct_turned_point), sl_turned_point⟩)
    (d_turned_point : PySem.W.codeIn K cd_turned_point "turned_point" = true)
    (p_turned_point : PySem.W.keepIn K (.ref f_turned_point) = true)
    (g_is_whole : PySem.W.nsIn K mainGlobals "is_whole" = some (some (.ref f_is_whole)))
    (l_is_whole : K.lookup f_is_whole = some ⟨oc_is_whole, od_is_whole, .func (PySem.W.fnOf "is_whole" "is_whole" (defArgs s_is_whole) (defBody s_is_whole) (defScope s_is_whole) .none kV_is_whole dc_is_whole pm_is_whole an_is_whole cd_is_whole ct_is_whole), sl_is_whole⟩)
    (d_is_whole : PySem.W.codeIn K cd_is_whole "is_whole" = true)
    (p_is_whole : PySem.W.keepIn K (.ref f_is_whole) = true)
    (g_Move___init__ : PySem.W.findIn K (.ref C_Move) "__init__" = some (some (.ref f_Move___init__)))
    (i_Move___init__ : PySem.W.isFn K (.ref f_Move___init__) = true)
    (l_Move___init__ : K.lookup f_Move___init__ = some ⟨oc_Move___init__, od_Move___init__, .func (PySem.W.fnOf "__init__" "Move.__init__" (defArgs s_Move___init__) (defBody s_Move___init__) (defScope s_Move___init__) (.ref D_Move___init__) kV_Move___init__ dc_Move___init__ pm_Move___init__ an_Move___init__ cd_Move___init__ ct_Move___init__), sl_Move___init__⟩)
    (d_Move___init__ : PySem.W.codeIn K cd_Move___init__ "Move.__init__" = true)
    (p_Move___init__ : PySem.W.keepIn K (.ref f_Move___init__) = true)
    (v_Move___init__ : K.lookup D_Move___init__ = some ⟨ob_Move___init__, oo_Move___init__, .seq #[.int 0 u0_Move___init__, .int 0 u1_Move___init__, .int 0 u2_Move___init__, .bool false] m_Move___init__, ol_Move___init__⟩)
    (pa_Move_sign : PySem.W.findIn K (.ref C_Move) "sign" = some (some (.ref rc_Move_sign)))
    (pb_Move_sign : PySem.W.specialIn K (.ref rc_Move_sign) "__get__" = some (some (.builtin "property.__get__")))
    (pc_Move_sign : PySem.W.takesIn K (.ref rc_Move_sign) = some true)
    (pd_Move_sign : PySem.W.recIn K rc_Move_sign "property" = some (.ref f_Move_sign :: pr_Move_sign))
    (l_Move_sign : K.lookup f_Move_sign = some ⟨oc_Move_sign, od_Move_sign, .func (PySem.W.fnOf "sign" "Move.sign" (defArgs s_Move_sign) (defBody s_Move_sign) (defScope s_Move_sign) .none kV_Move_sign dc_Move_sign pm_Move_sign an_Move_sign cd_Move_sign ct_Move_sign), sl_Move_sign⟩)
    (d_Move_sign : PySem.W.codeIn K cd_Move_sign "Move.sign" = true)
    (p_Move_sign : PySem.W.keepIn K (.ref f_Move_sign) = true)
    (g_Move___eq__ : PySem.W.findIn K (.ref C_Move) "__eq__" = some (some (.ref f_Move___eq__)))
    (i_Move___eq__ : PySem.W.isFn K (.ref f_Move___eq__) = true)
    (l_Move___eq__ : K.lookup f_Move___eq__ = some ⟨oc_Move___eq__, od_Move___eq__, .func (PySem.W.fnOf "__eq__" "Move.__eq__" (defArgs s_Move___eq__) (defBody s_Move___eq__) (defScope s_Move___eq__) .none kV_Move___eq__ dc_Move___eq__ pm_Move___eq__ an_Move___eq__ cd_Move___eq__ ct_Move___eq__), sl_Move___eq__⟩)
    (d_Move___eq__ : PySem.W.codeIn K cd_Move___eq__ "Move.__eq__" = true)
    (p_Move___eq__ : PySem.W.keepIn K (.ref f_Move___eq__) = true)
    (ne_Move : PySem.W.findIn K (.ref C_Move) "__ne__" = some (some (.builtin "object.__ne__")))
    (oj_Move : PySem.W.mroIn K C_Move (.type "object") = some true)
    (rd_Move : PySem.W.readsIn K C_Move (.type "type") = true)
    (rg_Move : PySem.W.specialIn K (.ref C_Move) "__getattribute__" = some (some (.builtin "type.__getattribute__")))
    (pa_Move_still : PySem.W.findCls K (.ref C_Move) (.type "type") "still" = some (.get (.builtin "staticmethod.__get__") (.ref rc_Move_still) .none (.ref C_Move)))
    (pb_Move_still : PySem.W.recIn K rc_Move_still "staticmethod" = some (.ref f_Move_still :: pr_Move_still))
    (l_Move_still : K.lookup f_Move_still = some ⟨oc_Move_still, od_Move_still, .func (PySem.W.fnOf "still" "Move.still" (defArgs s_Move_still) (defBody s_Move_still) (defScope s_Move_still) .none kV_Move_still dc_Move_still pm_Move_still an_Move_still cd_Move_still ct_Move_still), sl_Move_still⟩)
    (d_Move_still : PySem.W.codeIn K cd_Move_still "Move.still" = true)
    (p_Move_still : PySem.W.keepIn K (.ref f_Move_still) = true)
    (pa_Move_shifted : PySem.W.findCls K (.ref C_Move) (.type "type") "shifted" = some (.get (.builtin "classmethod.__get__") (.ref rc_Move_shifted) .none (.ref C_Move)))
    (pb_Move_shifted : PySem.W.recIn K rc_Move_shifted "classmethod" = some (.ref f_Move_shifted :: pr_Move_shifted))
    (pc_Move_shifted : PySem.W.fnIn K f_Move_shifted = true)
    (l_Move_shifted : K.lookup f_Move_shifted = some ⟨oc_Move_shifted, od_Move_shifted, .func (PySem.W.fnOf "shifted" "Move.shifted" (defArgs s_Move_shifted) (defBody s_Move_shifted) (defScope s_Move_shifted) .none kV_Move_shifted dc_Move_shifted pm_Move_shifted an_Move_shifted cd_Move_shifted ct_Move_shifted), sl_Move_shifted⟩)
    (d_Move_shifted : PySem.W.codeIn K cd_Move_shifted "Move.shifted" = true)
    (p_Move_shifted : PySem.W.keepIn K (.ref f_Move_shifted) = true)
    (pa_Move_turned : PySem.W.findCls K (.ref C_Move) (.type "type") "turned" = some (.get (.builtin "classmethod.__get__") (.ref rc_Move_turned) .none (.ref C_Move)))
    (pb_Move_turned : PySem.W.recIn K rc_Move_turned "classmethod" = some (.ref f_Move_turned :: pr_Move_turned))
    (pc_Move_turned : PySem.W.fnIn K f_Move_turned = true)
    (l_Move_turned : K.lookup f_Move_turned = some ⟨oc_Move_turned, od_Move_turned, .func (PySem.W.fnOf "turned" "Move.turned" (defArgs s_Move_turned) (defBody s_Move_turned) (defScope s_Move_turned) (.ref D_Move_turned) kV_Move_turned dc_Move_turned pm_Move_turned an_Move_turned cd_Move_turned ct_Move_turned), sl_Move_turned⟩)
    (d_Move_turned : PySem.W.codeIn K cd_Move_turned "Move.turned" = true)
    (p_Move_turned : PySem.W.keepIn K (.ref f_Move_turned) = true)
    (v_Move_turned : K.lookup D_Move_turned = some ⟨ob_Move_turned, oo_Move_turned, .seq #[.int 1 u0_Move_turned] m_Move_turned, ol_Move_turned⟩)
    (pa_Move_flipped : PySem.W.findCls K (.ref C_Move) (.type "type") "flipped" = some (.get (.builtin "classmethod.__get__") (.ref rc_Move_flipped) .none (.ref C_Move)))
    (pb_Move_flipped : PySem.W.recIn K rc_Move_flipped "classmethod" = some (.ref f_Move_flipped :: pr_Move_flipped))
    (pc_Move_flipped : PySem.W.fnIn K f_Move_flipped = true)
    (l_Move_flipped : K.lookup f_Move_flipped = some ⟨oc_Move_flipped, od_Move_flipped, .func (PySem.W.fnOf "flipped" "Move.flipped" (defArgs s_Move_flipped) (defBody s_Move_flipped) (defScope s_Move_flipped) .none kV_Move_flipped dc_Move_flipped pm_Move_flipped an_Move_flipped cd_Move_flipped ct_Move_flipped), sl_Move_flipped⟩)
    (d_Move_flipped : PySem.W.codeIn K cd_Move_flipped "Move.flipped" = true)
    (p_Move_flipped : PySem.W.keepIn K (.ref f_Move_flipped) = true)
    (g_law_bag : PySem.W.nsIn K mainGlobals "_law_bag" = some (some (.ref f_law_bag)))
    (l_law_bag : K.lookup f_law_bag = some ⟨oc_law_bag, od_law_bag, .func (PySem.W.fnOf "_law_bag" "_law_bag" (defArgs s_law_bag) (defBody s_law_bag) (defScope s_law_bag) .none kV_law_bag dc_law_bag pm_law_bag an_law_bag cd_law_bag ct_law_bag), sl_law_bag⟩)
    (d_law_bag : PySem.W.codeIn K cd_law_bag "_law_bag" = true)
    (p_law_bag : PySem.W.keepIn K (.ref f_law_bag) = true)
    (g_law_pull : PySem.W.nsIn K mainGlobals "_law_pull" = some (some (.ref f_law_pull)))
    (l_law_pull : K.lookup f_law_pull = some ⟨oc_law_pull, od_law_pull, .func (PySem.W.fnOf "_law_pull" "_law_pull" (defArgs s_law_pull) (defBody s_law_pull) (defScope s_law_pull) .none kV_law_pull dc_law_pull pm_law_pull an_law_pull cd_law_pull ct_law_pull), sl_law_pull⟩)
    (d_law_pull : PySem.W.codeIn K cd_law_pull "_law_pull" = true)
    (p_law_pull : PySem.W.keepIn K (.ref f_law_pull) = true)
    (g_law_small : PySem.W.nsIn K mainGlobals "_law_small" = some (some (.ref f_law_small)))
    (l_law_small : K.lookup f_law_small = some ⟨oc_law_small, od_law_small, .func (PySem.W.fnOf "_law_small" "_law_small" (defArgs s_law_small) (defBody s_law_small) (defScope s_law_small) .none kV_law_small dc_law_small pm_law_small an_law_small cd_law_small ct_law_small), sl_law_small⟩)
    (d_law_small : PySem.W.codeIn K cd_law_small "_law_small" = true)
    (p_law_small : PySem.W.keepIn K (.ref f_law_small) = true)
    (g_law_same : PySem.W.nsIn K mainGlobals "_law_same" = some (some (.ref f_law_same)))
    (l_law_same : K.lookup f_law_same = some ⟨oc_law_same, od_law_same, .func (PySem.W.fnOf "_law_same" "_law_same" (defArgs s_law_same) (defBody s_law_same) (defScope s_law_same) .none kV_law_same dc_law_same pm_law_same an_law_same cd_law_same ct_law_same), sl_law_same⟩)
    (d_law_same : PySem.W.codeIn K cd_law_same "_law_same" = true)
    (p_law_same : PySem.W.keepIn K (.ref f_law_same) = true)
    (g_law_parts : PySem.W.nsIn K mainGlobals "_law_parts" = some (some (.ref f_law_parts)))
    (l_law_parts : K.lookup f_law_parts = some ⟨oc_law_parts, od_law_parts, .func (PySem.W.fnOf "_law_parts" "_law_parts" (defArgs s_law_parts) (defBody s_law_parts) (defScope s_law_parts) .none kV_law_parts dc_law_parts pm_law_parts an_law_parts cd_law_parts ct_law_parts), sl_law_parts⟩)
    (d_law_parts : PySem.W.codeIn K cd_law_parts "_law_parts" = true)
    (p_law_parts : PySem.W.keepIn K (.ref f_law_parts) = true)
    (g_law_move : PySem.W.nsIn K mainGlobals "_law_move" = some (some (.ref f_law_move)))
    (l_law_move : K.lookup f_law_move = some ⟨oc_law_move, od_law_move, .func (PySem.W.fnOf "_law_move" "_law_move" (defArgs s_law_move) (defBody s_law_move) (defScope s_law_move) .none kV_law_move dc_law_move pm_law_move an_law_move cd_law_move ct_law_move), sl_law_move⟩)
    (d_law_move : PySem.W.codeIn K cd_law_move "_law_move" = true)
    (p_law_move : PySem.W.keepIn K (.ref f_law_move) = true)
    (g_law : PySem.W.nsIn K mainGlobals "law" = some (some (.ref f_law)))
    (l_law : K.lookup f_law = some ⟨oc_law, od_law, .func (PySem.W.fnOf "law" "law" (defArgs s_law) (defBody s_law) (defScope s_law) .none kV_law dc_law pm_law an_law cd_law ct_law), sl_law⟩)
    (d_law : PySem.W.codeIn K cd_law "law" = true)
    (p_law : PySem.W.keepIn K (.ref f_law) = true)
    (mk_Move : PySem.W.makesIn K C_Move = true)
    (kc_Move : PySem.W.keepIn K (.ref C_Move) = true)
    : ∃ fd : FuncData, (∀ (s : Shared) (v : Value), BindsTo s fd ⟨[v], []⟩ [("_law_script", v)]) ∧ ∀ base : Heap, K.In base → base.Ns mainGlobals mg → FnOk l.prog w K mg base (L2.CX l.prog w) 7 fa fd ["_law_script"] (SpW K wpLaw) := by
  have e := hfa.symm.trans (PySem.W.mg_of X G g_law)
  cases e
  have T : Txt K mg C_Move := ⟨a_Move_parts, ⟨pg_Move, hd_Move, po_Move, sa_Move⟩, ⟨_, PySem.W.mg_of X G k_MOST_SHIFT⟩, PySem.W.mg_of X G x_Move, PySem.W.mg_none_of X G n_abs, PySem.W.mg_none_of X G n_all, PySem.W.mg_none_of X G n_bool, PySem.W.mg_none_of X G n_int, PySem.W.mg_none_of X G n_isinstance, PySem.W.mg_none_of X G n_len, PySem.W.mg_none_of X G n_list, PySem.W.mg_none_of X G n_range, PySem.W.mg_none_of X G n_str, PySem.W.mg_none_of X G n_tuple, PySem.W.mg_none_of X G n_zip, ⟨⟨pg_Move, hd_Move, po_Move, sa_Move⟩, ha_Move, hn_Move, ht_Move, ho_Move⟩⟩
  refine ⟨PySem.W.fnOf "law" "law" (defArgs s_law) (defBody s_law) (defScope s_law) .none kV_law dc_law pm_law an_law cd_law ct_law, fun s v => .of_eq rfl, fun base _ _ => ?_⟩
  have F_turned_point := funX_mk (st := s_turned_point) l_turned_point d_turned_point p_turned_point
  have b_turned_point := bindsX (K := K) (x := "turned_point") (qual := "turned_point") (st := s_turned_point) (kV := kV_turned_point) (doc := dc_turned_point) (pm := pm_turned_point) (an := an_turned_point) (cdv := cd_turned_point) (ct := ct_turned_point) (ps := ["turns", "mirrored", "point"]) fun us hl => match us, hl with | [_, _, _], _ => rfl
  have c_turned_point := callee_mk F_turned_point (PySem.W.mg_of X G g_turned_point) (ok_turned_point (P := l.prog) (w := w) (base := base) T F_turned_point) b_turned_point
  have F_is_whole := funX_mk (st := s_is_whole) l_is_whole d_is_whole p_is_whole
  have b_is_whole := bindsX (K := K) (x := "is_whole") (qual := "is_whole") (st := s_is_whole) (kV := kV_is_whole) (doc := dc_is_whole) (pm := pm_is_whole) (an := an_is_whole) (cdv := cd_is_whole) (ct := ct_is_whole) (ps := ["value"]) fun us hl => match us, hl with | [_], _ => rfl
  have c_is_whole := callee_mk F_is_whole (PySem.W.mg_of X G g_is_whole) (ok_is_whole (P := l.prog) (w := w) (base := base) T F_is_whole) b_is_whole
  have F_Move___init__ := funX_mk (st := s_Move___init__) l_Move___init__ d_Move___init__ p_Move___init__
  have b_Move___init__ := bindsXD (K := K) (x := "__init__") (qual := "Move.__init__") (st := s_Move___init__) (kV := kV_Move___init__) (doc := dc_Move___init__) (pm := pm_Move___init__) (an := an_Move___init__) (cdv := cd_Move___init__) (ct := ct_Move___init__) (ps := ["self", "dx", "dy", "turns", "mirrored"]) (its := [.int 0 u0_Move___init__, .int 0 u1_Move___init__, .int 0 u2_Move___init__, .bool false]) 5 4 v_Move___init__ rfl rfl fun us hl => match us, hl with | [_, _, _, _, _], _ => ⟨_, rfl, rfl⟩
  have b_Move___init___4 := bindsXD (K := K) (x := "__init__") (qual := "Move.__init__") (st := s_Move___init__) (kV := kV_Move___init__) (doc := dc_Move___init__) (pm := pm_Move___init__) (an := an_Move___init__) (cdv := cd_Move___init__) (ct := ct_Move___init__) (ps := ["self", "dx", "dy", "turns", "mirrored"]) (its := [.int 0 u0_Move___init__, .int 0 u1_Move___init__, .int 0 u2_Move___init__, .bool false]) 4 3 v_Move___init__ rfl rfl fun us hl => match us, hl with | [_, _, _, _], _ => ⟨_, rfl, rfl⟩
  have b_Move___init___3 := bindsXD (K := K) (x := "__init__") (qual := "Move.__init__") (st := s_Move___init__) (kV := kV_Move___init__) (doc := dc_Move___init__) (pm := pm_Move___init__) (an := an_Move___init__) (cdv := cd_Move___init__) (ct := ct_Move___init__) (ps := ["self", "dx", "dy", "turns", "mirrored"]) (its := [.int 0 u0_Move___init__, .int 0 u1_Move___init__, .int 0 u2_Move___init__, .bool false]) 3 2 v_Move___init__ rfl rfl fun us hl => match us, hl with | [_, _, _], _ => ⟨_, rfl, rfl⟩
  have b_Move___init___1 := bindsXD (K := K) (x := "__init__") (qual := "Move.__init__") (st := s_Move___init__) (kV := kV_Move___init__) (doc := dc_Move___init__) (pm := pm_Move___init__) (an := an_Move___init__) (cdv := cd_Move___init__) (ct := ct_Move___init__) (ps := ["self", "dx", "dy", "turns", "mirrored"]) (its := [.int 0 u0_Move___init__, .int 0 u1_Move___init__, .int 0 u2_Move___init__, .bool false]) 1 0 v_Move___init__ rfl rfl fun us hl => match us, hl with | [_], _ => ⟨_, rfl, rfl⟩
  have K_Move : Mk K C_Move f_Move___init__ := ⟨mk_Move, g_Move___init__, i_Move___init__, kc_Move⟩
  have c_Move := maker_mk (PySem.W.mg_of X G x_Move) K_Move (ok_Move_init (P := l.prog) (w := w) (base := base) T F_Move___init__ c_is_whole) b_Move___init__
  have c_Move_3 : Maker l.prog w K mg base "Move" C_Move 2 wp_Move_init [.bl false] [.bl false] := ⟨f_Move___init__, _, _, _, PySem.W.mg_of X G x_Move, K_Move, ok_Move_init (P := l.prog) (w := w) (base := base) T F_Move___init__ c_is_whole, b_Move___init___4, (.cons rfl .nil), fun _ => ⟨_, _, rfl, rfl, rfl⟩⟩
  have c_Move_2 : Maker l.prog w K mg base "Move" C_Move 2 wp_Move_init [.int (0), .bl false] [.int (0), .bl false] := ⟨f_Move___init__, _, _, _, PySem.W.mg_of X G x_Move, K_Move, ok_Move_init (P := l.prog) (w := w) (base := base) T F_Move___init__ c_is_whole, b_Move___init___3, (.cons ⟨_, rfl⟩ (.cons rfl .nil)), fun _ => ⟨_, _, rfl, rfl, ⟨_, _, rfl, rfl, rfl⟩⟩⟩
  have c_Move_0 : Maker l.prog w K mg base "Move" C_Move 2 wp_Move_init [.int (0), .int (0), .int (0), .bl false] [.int (0), .int (0), .int (0), .bl false] := ⟨f_Move___init__, _, _, _, PySem.W.mg_of X G x_Move, K_Move, ok_Move_init (P := l.prog) (w := w) (base := base) T F_Move___init__ c_is_whole, b_Move___init___1, (.cons ⟨_, rfl⟩ (.cons ⟨_, rfl⟩ (.cons ⟨_, rfl⟩ (.cons rfl .nil)))), fun _ => ⟨_, _, rfl, rfl, ⟨_, _, rfl, rfl, ⟨_, _, rfl, rfl, ⟨_, _, rfl, rfl, rfl⟩⟩⟩⟩⟩
  have c_Move_k : MakerK l.prog w K mg base "Move" C_Move 2 wp_Move_init ["mirrored", "turns", "dy", "dx"] kwMove kwMoveD := ⟨f_Move___init__, _, _, kwMove, PySem.W.mg_of X G x_Move, K_Move, ok_Move_init (P := l.prog) (w := w) (base := base) T F_Move___init__ c_is_whole, kbX (its := [.int 0 u0_Move___init__, .int 0 u1_Move___init__, .int 0 u2_Move___init__, .bool false]) 1 kwMove v_Move___init__ rfl kwMove_rel (fun us ws h1 h2 => match us, ws, h1, h2 with | [_], [_, _, _, _], _, _ => ⟨_, rfl, rfl⟩), kwMove_rep⟩
  have F_Move_sign := funX_mk (st := s_Move_sign) l_Move_sign d_Move_sign p_Move_sign
  have b_Move_sign := bindsX (K := K) (x := "sign") (qual := "Move.sign") (st := s_Move_sign) (kV := kV_Move_sign) (doc := dc_Move_sign) (pm := pm_Move_sign) (an := an_Move_sign) (cdv := cd_Move_sign) (ct := ct_Move_sign) (ps := ["self"]) fun us hl => match us, hl with | [_], _ => rfl
  have q_Move_sign : Prp l.prog w K mg base C_Move "sign" 1 (wp_Msign C_Move) := ⟨T.c_Move, rc_Move_sign, f_Move_sign, _, _, ⟨pa_Move_sign, pb_Move_sign, pc_Move_sign, ⟨_, pd_Move_sign⟩⟩, (ok_Move_sign (P := l.prog) (w := w) (base := base) T F_Move_sign ), b_Move_sign⟩
  have F_Move___eq__ := funX_mk (st := s_Move___eq__) l_Move___eq__ d_Move___eq__ p_Move___eq__
  have b_Move___eq__ := bindsX (K := K) (x := "__eq__") (qual := "Move.__eq__") (st := s_Move___eq__) (kV := kV_Move___eq__) (doc := dc_Move___eq__) (pm := pm_Move___eq__) (an := an_Move___eq__) (cdv := cd_Move___eq__) (ct := ct_Move___eq__) (ps := ["self", "other"]) fun us hl => match us, hl with | [_, _], _ => rfl
  have o_Move___eq__ : Cmr l.prog w K mg base .Eq C_Move 2 (wp_Meq C_Move) := ⟨f_Move___eq__, _, _, g_Move___eq__, i_Move___eq__, (ok_Move___eq__ (P := l.prog) (w := w) (base := base) T F_Move___eq__ ), b_Move___eq__⟩
  have n_Move___eq__ : CmrNe l.prog w K mg base C_Move 2 (wp_Meq C_Move) := ⟨f_Move___eq__, _, _, ne_Move, g_Move___eq__, i_Move___eq__, oj_Move, ok_Move___eq__ (P := l.prog) (w := w) (base := base) T F_Move___eq__, b_Move___eq__⟩
  have F_Move_still := funX_mk (st := s_Move_still) l_Move_still d_Move_still p_Move_still
  have b_Move_still := bindsX (K := K) (x := "still") (qual := "Move.still") (st := s_Move_still) (kV := kV_Move_still) (doc := dc_Move_still) (pm := pm_Move_still) (an := an_Move_still) (cdv := cd_Move_still) (ct := ct_Move_still) (ps := []) fun us hl => match us, hl with | [], _ => rfl
  have y_Move_still : Stc l.prog w K mg base C_Move "still" 4 (wp_still C_Move) := ⟨.type "type", rc_Move_still, f_Move_still, _, _, ⟨⟨rd_Move, rg_Move⟩, pa_Move_still, ⟨_, pb_Move_still⟩, p_Move_still⟩, (ok_Move_still (P := l.prog) (w := w) (base := base) T F_Move_still c_Move_0), b_Move_still⟩
  have F_Move_shifted := funX_mk (st := s_Move_shifted) l_Move_shifted d_Move_shifted p_Move_shifted
  have b_Move_shifted := bindsX (K := K) (x := "shifted") (qual := "Move.shifted") (st := s_Move_shifted) (kV := kV_Move_shifted) (doc := dc_Move_shifted) (pm := pm_Move_shifted) (an := an_Move_shifted) (cdv := cd_Move_shifted) (ct := ct_Move_shifted) (ps := ["cls", "dx", "dy"]) fun us hl => match us, hl with | [_, _, _], _ => rfl
  have z_Move_shifted : CMt l.prog w K mg base C_Move "shifted" 4 (wp_shifted C_Move) [] [] := ⟨.type "type", rc_Move_shifted, f_Move_shifted, _, _, _, ⟨rd_Move, rg_Move⟩, ⟨pa_Move_shifted, ⟨_, pb_Move_shifted⟩, pc_Move_shifted⟩, (ok_Move_shifted (P := l.prog) (w := w) (base := base) T F_Move_shifted c_Move_2), b_Move_shifted, .nil, fun _ => rfl⟩
  have F_Move_turned := funX_mk (st := s_Move_turned) l_Move_turned d_Move_turned p_Move_turned
  have b_Move_turned := bindsXD (K := K) (x := "turned") (qual := "Move.turned") (st := s_Move_turned) (kV := kV_Move_turned) (doc := dc_Move_turned) (pm := pm_Move_turned) (an := an_Move_turned) (cdv := cd_Move_turned) (ct := ct_Move_turned) (ps := ["cls", "quarters"]) (its := [.int 1 u0_Move_turned]) 2 1 v_Move_turned rfl rfl fun us hl => match us, hl with | [_, _], _ => ⟨_, rfl, rfl⟩
  have b_Move_turned_1 := bindsXD (K := K) (x := "turned") (qual := "Move.turned") (st := s_Move_turned) (kV := kV_Move_turned) (doc := dc_Move_turned) (pm := pm_Move_turned) (an := an_Move_turned) (cdv := cd_Move_turned) (ct := ct_Move_turned) (ps := ["cls", "quarters"]) (its := [.int 1 u0_Move_turned]) 1 0 v_Move_turned rfl rfl fun us hl => match us, hl with | [_], _ => ⟨_, rfl, rfl⟩
  have z_Move_turned : CMt l.prog w K mg base C_Move "turned" 4 (wp_turned C_Move) [] [] := ⟨.type "type", rc_Move_turned, f_Move_turned, _, _, _, ⟨rd_Move, rg_Move⟩, ⟨pa_Move_turned, ⟨_, pb_Move_turned⟩, pc_Move_turned⟩, (ok_Move_turned (P := l.prog) (w := w) (base := base) T F_Move_turned c_Move_3), b_Move_turned, .nil, fun _ => rfl⟩
  have z_Move_turned_0 : CMt l.prog w K mg base C_Move "turned" 4 (wp_turned C_Move) [.int (1)] [.int (1)] := ⟨.type "type", rc_Move_turned, f_Move_turned, _, _, _, ⟨rd_Move, rg_Move⟩, ⟨pa_Move_turned, ⟨_, pb_Move_turned⟩, pc_Move_turned⟩, (ok_Move_turned (P := l.prog) (w := w) (base := base) T F_Move_turned c_Move_3), b_Move_turned_1, (.cons ⟨_, rfl⟩ .nil), fun _ => ⟨_, _, rfl, rfl, rfl⟩⟩
  have F_Move_flipped := funX_mk (st := s_Move_flipped) l_Move_flipped d_Move_flipped p_Move_flipped
  have b_Move_flipped := bindsX (K := K) (x := "flipped") (qual := "Move.flipped") (st := s_Move_flipped) (kV := kV_Move_flipped) (doc := dc_Move_flipped) (pm := pm_Move_flipped) (an := an_Move_flipped) (cdv := cd_Move_flipped) (ct := ct_Move_flipped) (ps := ["cls"]) fun us hl => match us, hl with | [_], _ => rfl
  have z_Move_flipped : CMt l.prog w K mg base C_Move "flipped" 4 (wp_flip C_Move) [] [] := ⟨.type "type", rc_Move_flipped, f_Move_flipped, _, _, _, ⟨rd_Move, rg_Move⟩, ⟨pa_Move_flipped, ⟨_, pb_Move_flipped⟩, pc_Move_flipped⟩, (ok_Move_flipped (P := l.prog) (w := w) (base := base) T F_Move_flipped c_Move), b_Move_flipped, .nil, fun _ => rfl⟩
  have F_law_bag := funX_mk (st := s_law_bag) l_law_bag d_law_bag p_law_bag
  have b_law_bag := bindsX (K := K) (x := "_law_bag") (qual := "_law_bag") (st := s_law_bag) (kV := kV_law_bag) (doc := dc_law_bag) (pm := pm_law_bag) (an := an_law_bag) (cdv := cd_law_bag) (ct := ct_law_bag) (ps := ["_law_script"]) fun us hl => match us, hl with | [_], _ => rfl
  have c_law_bag := callee_mk F_law_bag (PySem.W.mg_of X G g_law_bag) (ok_law_bag (P := l.prog) (w := w) (base := base) T F_law_bag) b_law_bag
  have F_law_pull := funX_mk (st := s_law_pull) l_law_pull d_law_pull p_law_pull
  have b_law_pull := bindsX (K := K) (x := "_law_pull") (qual := "_law_pull") (st := s_law_pull) (kV := kV_law_pull) (doc := dc_law_pull) (pm := pm_law_pull) (an := an_law_pull) (cdv := cd_law_pull) (ct := ct_law_pull) (ps := ["_law_bag_here", "_law_many"]) fun us hl => match us, hl with | [_, _], _ => rfl
  have c_law_pull := callee_mk F_law_pull (PySem.W.mg_of X G g_law_pull) (ok_law_pull (P := l.prog) (w := w) (base := base) T F_law_pull) b_law_pull
  have F_law_small := funX_mk (st := s_law_small) l_law_small d_law_small p_law_small
  have b_law_small := bindsX (K := K) (x := "_law_small") (qual := "_law_small") (st := s_law_small) (kV := kV_law_small) (doc := dc_law_small) (pm := pm_law_small) (an := an_law_small) (cdv := cd_law_small) (ct := ct_law_small) (ps := ["_law_bag_here"]) fun us hl => match us, hl with | [_], _ => rfl
  have c_law_small := callee_mk F_law_small (PySem.W.mg_of X G g_law_small) (ok_law_small (P := l.prog) (w := w) (base := base) T F_law_small c_law_pull) b_law_small
  have F_law_same := funX_mk (st := s_law_same) l_law_same d_law_same p_law_same
  have b_law_same := bindsX (K := K) (x := "_law_same") (qual := "_law_same") (st := s_law_same) (kV := kV_law_same) (doc := dc_law_same) (pm := pm_law_same) (an := an_law_same) (cdv := cd_law_same) (ct := ct_law_same) (ps := ["_law_found", "_law_due"]) fun us hl => match us, hl with | [_, _], _ => rfl
  have c_law_same := callee_mk F_law_same (PySem.W.mg_of X G g_law_same) (ok_law_same (P := l.prog) (w := w) (base := base) T F_law_same (PySem.W.mg_of X G g_law_same) b_law_same 3) b_law_same
  have F_law_parts := funX_mk (st := s_law_parts) l_law_parts d_law_parts p_law_parts
  have b_law_parts := bindsX (K := K) (x := "_law_parts") (qual := "_law_parts") (st := s_law_parts) (kV := kV_law_parts) (doc := dc_law_parts) (pm := pm_law_parts) (an := an_law_parts) (cdv := cd_law_parts) (ct := ct_law_parts) (ps := ["_law_bag_here"]) fun us hl => match us, hl with | [_], _ => rfl
  have c_law_parts := callee_mk F_law_parts (PySem.W.mg_of X G g_law_parts) (ok_law_parts (P := l.prog) (w := w) (base := base) T F_law_parts c_law_pull) b_law_parts
  have F_law_move := funX_mk (st := s_law_move) l_law_move d_law_move p_law_move
  have b_law_move := bindsX (K := K) (x := "_law_move") (qual := "_law_move") (st := s_law_move) (kV := kV_law_move) (doc := dc_law_move) (pm := pm_law_move) (an := an_law_move) (cdv := cd_law_move) (ct := ct_law_move) (ps := ["_law_parts_here"]) fun us hl => match us, hl with | [_], _ => rfl
  have c_law_move : Callee l.prog w K mg base "_law_move" 4 (wp_lmv2 C_Move) [] [] := ⟨f_law_move, _, _, _, PySem.W.mg_of X G g_law_move, F_law_move.kp, (ok_law_move (P := l.prog) (w := w) (base := base) T F_law_move c_Move), b_law_move, .nil, fun _ => rfl⟩
  have F_law := funX_mk (st := s_law) l_law d_law p_law
  have b_law := bindsX (K := K) (x := "law") (qual := "law") (st := s_law) (kV := kV_law) (doc := dc_law) (pm := pm_law) (an := an_law) (cdv := cd_law) (ct := ct_law) (ps := ["_law_script"]) fun us hl => match us, hl with | [_], _ => rfl
  exact ok_law (P := l.prog) (w := w) (base := base) T F_law c_law_bag c_law_pull c_law_small c_law_same c_law_parts c_law_move c_Move c_Move_0 c_Move_k q_Move_sign n_Move___eq__ o_Move___eq__ y_Move_still z_Move_shifted z_Move_turned z_Move_turned_0 z_Move_flipped
end DL
open PySem PySem.W PyProof.Rows
set_option maxHeartbeats 0 in
theorem PySem.Challenge.cw_unseencurves_k02_moves_made_holds : PySem.Challenge.rw_unseencurves_k02_moves_made.Holds := by
  w_on; o_law; k_head; (case hw => w_witness2)
  k_fill
  refine L2.walk_of (l := PySem.Challenge.rw_unseencurves_k02_moves_made) (n := 63) (k := 7) (x := "_law_script") (CX := fun w => L2.CX PySem.Challenge.rw_unseencurves_k02_moves_made.prog w) (sp := fun w => DL.SpW _ DL.wpLaw) rfl (by decide) rfl ⟨rfl, by decide, by decide⟩ (fun w h Y => PySem.W.kIn_of Y) ?F (fun w H a ns hl _ hS => DL.law_sp hl hS) (fun w H s e s2 h => DL.law_cx H s e s2 h)
  case F =>
    intro w mg fa h KX G hmg
    refine' DL.all_mk KX G hmg ?x_Move ?a_Move_parts ?pg_Move ?hd_Move ?po_Move ?sa_Move ?k_MOST_SHIFT ?n_abs ?n_all ?n_bool ?n_int ?n_isinstance ?n_len ?n_list ?n_range ?n_str ?n_tuple ?n_zip ?ha_Move ?hn_Move ?ht_Move ?ho_Move ?g_turned_point ?l_turned_point ?d_turned_point ?p_turned_point ?g_is_whole ?l_is_whole ?d_is_whole ?p_is_whole ?g_Move___init__ ?i_Move___init__ ?l_Move___init__ ?d_Move___init__ ?p_Move___init__ ?v_Move___init__ ?pa_Move_sign ?pb_Move_sign ?pc_Move_sign ?pd_Move_sign ?l_Move_sign ?d_Move_sign ?p_Move_sign ?g_Move___eq__ ?i_Move___eq__ ?l_Move___eq__ ?d_Move___eq__ ?p_Move___eq__ ?ne_Move ?oj_Move ?rd_Move ?rg_Move ?pa_Move_still ?pb_Move_still ?l_Move_still ?d_Move_still ?p_Move_still ?pa_Move_shifted ?pb_Move_shifted ?pc_Move_shifted ?l_Move_shifted ?d_Move_shifted ?p_Move_shifted ?pa_Move_turned ?pb_Move_turned ?pc_Move_turned ?l_Move_turned ?d_Move_turned ?p_Move_turned ?v_Move_turned ?pa_Move_flipped ?pb_Move_flipped ?pc_Move_flipped ?l_Move_flipped ?d_Move_flipped ?p_Move_flipped ?g_law_bag ?l_law_bag ?d_law_bag ?p_law_bag ?g_law_pull ?l_law_pull ?d_law_pull ?p_law_pull ?g_law_small ?l_law_small ?d_law_small ?p_law_small ?g_law_same ?l_law_same ?d_law_same ?p_law_same ?g_law_parts ?l_law_parts ?d_law_parts ?p_law_parts ?g_law_move ?l_law_move ?d_law_move ?p_law_move ?g_law ?l_law ?d_law ?p_law ?mk_Move ?kc_Move
    (case x_Move => k_is)
    (case a_Move_parts => k_is)
    (case pg_Move => k_is)
    (case hd_Move => k_is)
    (case po_Move => k_is)
    (case sa_Move => k_is)
    (case k_MOST_SHIFT => k_is)
    (case n_abs => k_is)
    (case n_all => k_is)
    (case n_bool => k_is)
    (case n_int => k_is)
    (case n_isinstance => k_is)
    (case n_len => k_is)
    (case n_list => k_is)
    (case n_range => k_is)
    (case n_str => k_is)
    (case n_tuple => k_is)
    (case n_zip => k_is)
    (case ha_Move => k_is)
    (case hn_Move => k_is)
    (case ht_Move => k_is)
    (case ho_Move => k_is)
    (case g_turned_point => k_is)
    (case l_turned_point => k_is)
    (case d_turned_point => k_is)
    (case p_turned_point => k_is)
    (case g_is_whole => k_is)
    (case l_is_whole => k_is)
    (case d_is_whole => k_is)
    (case p_is_whole => k_is)
    (case g_Move___init__ => k_is)
    (case i_Move___init__ => k_is)
    (case l_Move___init__ => k_is)
    (case d_Move___init__ => k_is)
    (case p_Move___init__ => k_is)
    (case v_Move___init__ => k_is)
    (case pa_Move_sign => k_is)
    (case pb_Move_sign => k_is)
    (case pc_Move_sign => k_is)
    (case pd_Move_sign => k_is)
    (case l_Move_sign => k_is)
    (case d_Move_sign => k_is)
    (case p_Move_sign => k_is)
    (case g_Move___eq__ => k_is)
    (case i_Move___eq__ => k_is)
    (case l_Move___eq__ => k_is)
    (case d_Move___eq__ => k_is)
    (case p_Move___eq__ => k_is)
    (case ne_Move => k_is)
    (case oj_Move => k_is)
    (case rd_Move => k_is)
    (case rg_Move => k_is)
    (case pa_Move_still => k_is)
    (case pb_Move_still => k_is)
    (case l_Move_still => k_is)
    (case d_Move_still => k_is)
    (case p_Move_still => k_is)
    (case pa_Move_shifted => k_is)
    (case pb_Move_shifted => k_is)
    (case pc_Move_shifted => k_is)
    (case l_Move_shifted => k_is)
    (case d_Move_shifted => k_is)
    (case p_Move_shifted => k_is)
    (case pa_Move_turned => k_is)
    (case pb_Move_turned => k_is)
    (case pc_Move_turned => k_is)
    (case l_Move_turned => k_is)
    (case d_Move_turned => k_is)
    (case p_Move_turned => k_is)
    (case v_Move_turned => k_is)
    (case pa_Move_flipped => k_is)
    (case pb_Move_flipped => k_is)
    (case pc_Move_flipped => k_is)
    (case l_Move_flipped => k_is)
    (case d_Move_flipped => k_is)
    (case p_Move_flipped => k_is)
    (case g_law_bag => k_is)
    (case l_law_bag => k_is)
    (case d_law_bag => k_is)
    (case p_law_bag => k_is)
    (case g_law_pull => k_is)
    (case l_law_pull => k_is)
    (case d_law_pull => k_is)
    (case p_law_pull => k_is)
    (case g_law_small => k_is)
    (case l_law_small => k_is)
    (case d_law_small => k_is)
    (case p_law_small => k_is)
    (case g_law_same => k_is)
    (case l_law_same => k_is)
    (case d_law_same => k_is)
    (case p_law_same => k_is)
    (case g_law_parts => k_is)
    (case l_law_parts => k_is)
    (case d_law_parts => k_is)
    (case p_law_parts => k_is)
    (case g_law_move => k_is)
    (case l_law_move => k_is)
    (case d_law_move => k_is)
    (case p_law_move => k_is)
    (case g_law => k_is)
    (case l_law => k_is)
    (case d_law => k_is)
    (case p_law => k_is)
    (case mk_Move => k_is)
    (case kc_Move => k_is)

import PyProof.Rows.All
import Wide.All
import OpenK.AllK
import Wide.FinOn
import PyProof.EqAt
import PyProof.EqKinds
import PyProof.TupleCall
import HandS.ForMost
import HandS.ForExc
import HandS.EndBits
import HandS.IsInst
import HandS.Wide
import KE.KDictKeyed
import HandS.Lambda
import HandS.Defaults
import HandS.Zip
import HandS.Property
import HandS.Deep
import HandS.ClsMeth
import HandS.Codes
import HandS.NoneIn
import HandS.MakeKw
import HandS.MakeKwOnly
import HandS.OwnEq
import PyProof.InstNe
import HandS.TupSets
import KE.KSortTupUse
import HandS.DictTup
import HandS.SetBool
import HandS.Conv
import HandS.FStr
import HandS.TupAny
import KE.DatumOrd
import HandS.SortKw
import HandS.SlotsOwn
import KE.KOpsOwn
import KE.KCallOwn
import HandS.Small
import KE.KExcSuper
import KE.KExcInit
import HandS.ExcInit
import HandS.ExcField
import HandS.HotCalls
import HandS.EndOwn
import KE.KNestM
import PyProof.ExcBaseAll.ValueError
import PyProof.ExcBaseAll.LookupError
import PyProof.InstStoreFacts
import PyProof.FString
import KE.OsRunLaw
import PySem.Challenge.RW_unseencurves_k06_moves_refused
set_option Elab.async false
set_option linter.all false
set_option maxRecDepth 100000
set_option maxHeartbeats 4000000
namespace DL
open PySem PySem.Spec PyProof.Rows L2
inductive D where
  | non | bl (b : Bool) | int (i : Int) | str (x : Str) | ty (n : String) | cls (C : Addr)
  | tup (xs : List D) | lst (xs : List D) | ins (C : Addr) (fs : List (Str × D)) | bag | lat (c : Addr) (xs : List D)
  | dk (kvs : List (Key × D)) | dt (w : World) (kvs : List (NestedKey × D))
/-- the drawn bag: a list whose contents change behind the veil -/
structure BagIn (h : Heap) (b c : Addr) (m : Nat) : Prop where
  ex : ∃ (i g s n : Int) (t1 t2 t3 t4 : Tok) (z : Nat), h.get? b = some { cls := .type "list", data := .seq #[.ref c, .int i t1, .int g t2, .int s t3, .int n t4] z } ∧
    0 ≤ i ∧ i ≤ (m : Int) ∧ 0 ≤ g ∧ 0 ≤ s ∧ s < 2147483587
def bagO (b c : Addr) (m : Nat) : HO := .ext fun h => BagIn h b c m
def BagOk (K : PySem.W.Frag) (H : Hp) (b : Addr) : Prop :=
  ∃ (c : Addr) (ns : List Int), H b = some (bagO b c ns.length) ∧ H c = some (.lst (ns.map V.int)) ∧ ns.length ≤ 63
mutual
def NkV (K : PySem.W.Frag) (H : Hp) : NestedKey → V → Prop
  | .none, v => v = .non
  | .num i, v => v = .int i
  | .text x, v => v = .str x
  | .tup ks, v => ∃ a vs, v = .ref a ∧ SqT K H a vs ∧ NkVs K H ks vs
def NkVs (K : PySem.W.Frag) (H : Hp) : List NestedKey → List V → Prop
  | [], vs => vs = []
  | k :: ks, vs => ∃ v r, vs = v :: r ∧ NkV K H k v ∧ NkVs K H ks r
end
def RelT (p : NestedKey × Addr × V) (q : NestedKey × Addr × Value) : Prop := p.1 = q.1 ∧ p.2.1 = q.2.1 ∧ RelV p.2.2 q.2.2
structure DtAt (w : World) (h : Heap) (a : Addr) (ps : List (NestedKey × Addr × V)) : Prop where
  fit : ps.length ≤ sizeLine ∧ (a == sysModules) = false
  ex : ∃ (xs : List (NestedKey × Addr × Value)) (o : Obj) (es : Array DictEntry) (ep : Nat), Paired RelT ps xs ∧ h.get? a = some o ∧ o.ExactDict ∧ o.data = .dict es ep ∧
    es.toList = xs.map (fun x => ⟨x.1.hash w, .ref x.2.1, x.2.2⟩) ∧ (xs.map (·.1)).Nodup
def DtO (w : World) (a : Addr) (ps : List (NestedKey × Addr × V)) : HO := .ext fun h => DtAt w h a ps
mutual
def Rep (K : PySem.W.Frag) (H : Hp) : D → V → Prop
  | .non, v => v = .non
  | .bl b, v => v = .bl b
  | .int i, v => v = .int i
  | .str x, v => v = .str x
  | .ty n, v => v = .ty n
  | .cls C, v => v = .ref C
  | .tup xs, v => ∃ a vs, v = .ref a ∧ SqT K H a vs ∧ Reps K H xs vs
  | .lst xs, v => ∃ a vs, v = .ref a ∧ SqL K H a vs ∧ Reps K H xs vs
  | .ins C fs, v => ∃ a dx fvs, v = .ref a ∧ H a = some (.ins C dx fvs) ∧ Repf K H fs fvs
  | .bag, v => ∃ a, v = .ref a ∧ BagOk K H a
  | .lat c xs, v => v = .ref c ∧ ∃ vs, SqL K H c vs ∧ Reps K H xs vs
  | .dk kvs, v => ∃ a vs, v = .ref a ∧ H a = some (.dK vs) ∧ Repk K H kvs vs
  | .dt w kvs, v => ∃ a ps, v = .ref a ∧ H a = some (DtO w a ps) ∧ RepT K H kvs ps
def Reps (K : PySem.W.Frag) (H : Hp) : List D → List V → Prop
  | [], vs => vs = []
  | d :: ds, vs => ∃ v r, vs = v :: r ∧ Rep K H d v ∧ Reps K H ds r
def Repf (K : PySem.W.Frag) (H : Hp) : List (Str × D) → List (Str × V) → Prop
  | [], vs => vs = []
  | (f, d) :: ds, vs => ∃ v r, vs = (f, v) :: r ∧ Rep K H d v ∧ Repf K H ds r
def Repk (K : PySem.W.Frag) (H : Hp) : List (Key × D) → List (Key × V) → Prop
  | [], vs => vs = []
  | (f, d) :: ds, vs => ∃ v r, vs = (f, v) :: r ∧ Rep K H d v ∧ Repk K H ds r
def RepT (K : PySem.W.Frag) (H : Hp) : List (NestedKey × D) → List (NestedKey × Addr × V) → Prop
  | [], vs => vs = []
  | (k, d) :: ds, vs => ∃ b v r, vs = (k, b, v) :: r ∧ (NkV K H k (.ref b) ∧ k.depth ≤ 8) ∧ Rep K H d v ∧ RepT K H ds r
end
section
variable {K : PySem.W.Frag} {H H' : Hp}
theorem sqt_mono {a : Addr} {xs : List V} (e : Same H H') (h : SqT K H a xs) : SqT K H' a xs := by
  rcases h with (h | ⟨o, h⟩) | h
  · exact .inl (.inl (e _ _ h))
  · exact .inl (.inr ⟨o, e _ _ h⟩)
  · exact .inr h
mutual
theorem NkV.mono (e : Same H H') : ∀ (k : NestedKey) (v : V), NkV K H k v → NkV K H' k v
  | .none, _, h => h
  | .num _, _, h => h
  | .text _, _, h => h
  | .tup ks, _, ⟨a, vs, e1, hs, hr⟩ => ⟨a, vs, e1, sqt_mono e hs, NkVs.mono e ks vs hr⟩
theorem NkVs.mono (e : Same H H') : ∀ (ks : List NestedKey) (vs : List V), NkVs K H ks vs → NkVs K H' ks vs
  | [], _, h => h
  | k :: ks, _, ⟨v, r, e1, h1, h2⟩ => ⟨v, r, e1, NkV.mono e k v h1, NkVs.mono e ks r h2⟩
end
mutual
theorem Rep.mono (e : Same H H') : ∀ (d : D) (v : V), Rep K H d v → Rep K H' d v
  | .non, _, h => h
  | .bl _, _, h => h
  | .int _, _, h => h
  | .str _, _, h => h
  | .ty _, _, h => h
  | .cls _, _, h => h
  | .tup xs, _, ⟨a, vs, e1, hs, hr⟩ => ⟨a, vs, e1, sqt_mono e hs, Reps.mono e xs vs hr⟩
  | .lst xs, _, ⟨a, vs, e1, hs, hr⟩ => ⟨a, vs, e1, e.seq hs, Reps.mono e xs vs hr⟩
  | .ins C fs, _, ⟨a, dx, fvs, e1, hs, hr⟩ => ⟨a, dx, fvs, e1, e _ _ hs, Repf.mono e fs fvs hr⟩
  | .lat c xs, _, ⟨e1, vs, hs, hr⟩ => ⟨e1, vs, e.seq hs, Reps.mono e xs vs hr⟩
  | .bag, _, ⟨a, e1, c, ns, hb, hc, hl⟩ => ⟨a, e1, c, ns, e _ _ hb, e _ _ hc, hl⟩
  | .dk kvs, _, ⟨a, vs, e1, ha, hr⟩ => ⟨a, vs, e1, e _ _ ha, Repk.mono e kvs vs hr⟩
  | .dt _ kvs, _, ⟨a, ps, e1, ha, hr⟩ => ⟨a, ps, e1, e _ _ ha, RepT.mono e kvs ps hr⟩
theorem Reps.mono (e : Same H H') : ∀ (ds : List D) (vs : List V), Reps K H ds vs → Reps K H' ds vs
  | [], _, h => h
  | d :: ds, _, ⟨v, r, e1, h1, h2⟩ => ⟨v, r, e1, Rep.mono e d v h1, Reps.mono e ds r h2⟩
theorem Repf.mono (e : Same H H') : ∀ (ds : List (Str × D)) (vs : List (Str × V)), Repf K H ds vs → Repf K H' ds vs
  | [], _, h => h
  | (f, d) :: ds, _, ⟨v, r, e1, h1, h2⟩ => ⟨v, r, e1, Rep.mono e d v h1, Repf.mono e ds r h2⟩
theorem Repk.mono (e : Same H H') : ∀ (ds : List (Key × D)) (vs : List (Key × V)), Repk K H ds vs → Repk K H' ds vs
  | [], _, h => h
  | (f, d) :: ds, _, ⟨v, r, e1, h1, h2⟩ => ⟨v, r, e1, Rep.mono e d v h1, Repk.mono e ds r h2⟩
theorem RepT.mono (e : Same H H') : ∀ (ds : List (NestedKey × D)) (vs : List (NestedKey × Addr × V)), RepT K H ds vs → RepT K H' ds vs
  | [], _, h => h
  | (k, d) :: ds, _, ⟨b, v, r, e1, h0, h1, h2⟩ => ⟨b, v, r, e1, ⟨NkV.mono e k _ h0.1, h0.2⟩, Rep.mono e d v h1, RepT.mono e ds r h2⟩
end
theorem Reps.length : ∀ {ds : List D} {vs : List V}, Reps K H ds vs → vs.length = ds.length
  | [], _, h => by cases (show _ = _ from h); rfl
  | d :: ds, _, ⟨v, r, e1, _, h2⟩ => by subst e1; exact congrArg (· + 1) (Reps.length h2)
theorem Reps.get : ∀ {ds : List D} {vs : List V} {i : Nat} {d : D}, Reps K H ds vs → ds[i]? = some d → ∃ v, vs[i]? = some v ∧ Rep K H d v
  | [], _, _, _, _, e => by simp at e
  | x :: ds, _, 0, d, ⟨v, r, e1, h1, _⟩, e => by
    simp at e; subst e; subst e1
    exact ⟨v, rfl, h1⟩
  | x :: ds, _, i + 1, d, ⟨v, r, e1, _, h2⟩, e => by
    subst e1
    obtain ⟨u, q1, q2⟩ := Reps.get (i := i) h2 (by simpa using e)
    exact ⟨u, by simpa using q1, q2⟩
theorem Reps.append : ∀ {ds es : List D} {vs us : List V}, Reps K H ds vs → Reps K H es us → Reps K H (ds ++ es) (vs ++ us)
  | [], _, _, _, h, q => by cases (show _ = _ from h); exact q
  | d :: ds, _, _, _, ⟨v, r, e1, h1, h2⟩, q => by
    subst e1
    exact ⟨v, _, rfl, h1, Reps.append h2 q⟩
theorem Reps.take : ∀ {ds : List D} {vs : List V} (n : Nat), Reps K H ds vs → Reps K H (ds.take n) (vs.take n)
  | _, _, 0, _ => by rw [List.take_zero, List.take_zero]; rfl
  | [], _, n + 1, h => by cases (show _ = _ from h); rfl
  | d :: ds, _, n + 1, ⟨v, r, e1, h1, h2⟩ => by
    subst e1
    exact ⟨v, _, rfl, h1, Reps.take n h2⟩
theorem Reps.drop : ∀ {ds : List D} {vs : List V} (n : Nat), Reps K H ds vs → Reps K H (ds.drop n) (vs.drop n)
  | _, _, 0, h => h
  | [], _, n + 1, h => by cases (show _ = _ from h); rfl
  | d :: ds, _, n + 1, ⟨v, r, e1, h1, h2⟩ => by
    subst e1
    exact Reps.drop n h2
theorem Reps.set {d : D} {v : V} (hv : Rep K H d v) : ∀ {ds : List D} {vs : List V} (n : Nat), Reps K H ds vs → Reps K H (ds.set n d) (vs.set n v)
  | [], _, n, h => by cases (show _ = _ from h); rfl
  | x :: ds, _, 0, ⟨u, r, e1, h1, h2⟩ => by
    subst e1
    exact ⟨v, _, rfl, hv, h2⟩
  | x :: ds, _, n + 1, ⟨u, r, e1, h1, h2⟩ => by
    subst e1
    exact ⟨u, _, rfl, h1, Reps.set hv n h2⟩
theorem Repf.get : ∀ {fs : List (Str × D)} {vs : List (Str × V)} {f : Str} {d : D}, Repf K H fs vs → fs.lookup f = some d → ∃ v, vs.lookup f = some v ∧ Rep K H d v
  | [], _, _, _, _, e => by simp at e
  | (g, x) :: fs, _, f, d, ⟨v, r, e1, h1, h2⟩, e => by
    subst e1
    by_cases hg : f = g
    · subst hg
      rw [List.lookup_cons_self] at e ⊢
      cases e
      exact ⟨v, rfl, h1⟩
    · have hb : (f == g) = false := by simpa using hg
      simp only [List.lookup, hb] at e ⊢
      exact Repf.get h2 e
theorem Repf.none_of : ∀ {fs : List (Str × D)} {vs : List (Str × V)} {f : Str}, Repf K H fs vs → fs.lookup f = none → vs.lookup f = none
  | [], _, _, h, _ => by cases (show _ = _ from h); rfl
  | (g, x) :: fs, _, f, ⟨v, r, e1, h1, h2⟩, e => by
    subst e1
    by_cases hg : f = g
    · subst hg
      rw [List.lookup_cons_self] at e
      cases e
    · have hb : (f == g) = false := by simpa using hg
      simp only [List.lookup, hb] at e ⊢
      exact Repf.none_of h2 e
end
/-- the code objects' tables that lambdas fill, the names of their code -/
class TbC where
  T : List (Addr × Str)
variable [TbC]
/-- all stays; a table may be another table -/
def Ext (B B' : Hp) : Prop := ∀ b o, B b = some o → B' b = some o ∨ ∃ ps ps', o = .tbl ps ∧ B' b = some (.tbl ps')
/-- no table and no code object -/
def Plainy (p : Addr) (o : HO) : Prop := (∀ ps, o ≠ .tbl ps) ∧ ∀ q, o ≠ LamX.CodeO p q
/-- data holds no table; the tables are as told -/
def TD (A B : Hp) : Prop := (∀ p ps, A p ≠ some (.tbl ps)) ∧ LamX.Tabs TbC.T B
section
omit [TbC]
variable {A B A1 B1 C1 : Hp} {p : Addr} {o : HO}
theorem _root_.L2.Same.ext (h : Same A B) : Ext A B := fun b o e => .inl (h b o e)
theorem Ext.refl (A : Hp) : Ext A A := (Same.refl A).ext
theorem Ext.at (h : Ext A B) (e : A p = some o) (n : ∀ ps, o ≠ .tbl ps := by intro ps z; cases z) : B p = some o := by
  rcases h p o e with z | ⟨ps, _, z, _⟩
  · exact z
  · exact absurd z (n ps)
theorem Ext.trans (a : Ext A B) (b : Ext B C1) : Ext A C1 := fun c o e => by
  rcases a c o e with z | ⟨ps, ps', z1, z2⟩
  · exact b c o z
  · rcases b c _ z2 with z | ⟨qs, qs', y1, y2⟩
    · exact .inr ⟨ps, ps', z1, z⟩
    · exact .inr ⟨ps, qs', z1, y2⟩
theorem Ext.ne (h : Ext A B) (e : A p ≠ none) : B p ≠ none := by
  cases q : A p with
  | none => exact absurd q e
  | some o =>
    rcases h p o q with z | ⟨ps, ps', _, z⟩ <;> (rw [z]; exact fun y => nomatch y)
theorem Ext.free (h : Ext A B) (e : B p = none) : A p = none := by
  cases q : A p with
  | none => rfl
  | some o => exact absurd e (h.ne (by rw [q]; exact fun y => nomatch y))
theorem ext_updR (h : Ext A B) (hp : A p = none) : Ext A (upd B p o) := fun b x e => by
  rw [upd_ne (ne_of_none e hp)]
  exact h b x e
/-- what holds of no record is no code object -/
theorem ext_plain {φ : Heap → Prop} (n : ∀ (h : Heap) (o : Obj) (vs : Array Value), φ h → h.get? p = some o → o.data = .fields vs → False) : Plainy p (.ext φ) := by
  refine ⟨(fun qs z => nomatch z), fun q z => ?_⟩
  unfold LamX.CodeO at z
  injection z with z
  have hc : ∃ h : Heap, h.get? p = some { cls := .none, data := .fields #[.none, .str q 0] } := by
    refine ⟨{ objs := Array.replicate (p + 1) { cls := .none, data := .fields #[.none, .str q 0] } }, ?_⟩
    simp [Heap.get?]
  obtain ⟨h, hh⟩ := hc
  refine n h _ _ ?_ hh rfl
  rw [congrFun z h]
  exact ⟨_, #[.none, .str q 0], 0, hh, rfl, rfl⟩
theorem dtO_plain {w : World} {ps : List (NestedKey × Addr × V)} : Plainy p (DtO w p ps) := ext_plain fun h o vs k hh hd => by
  obtain ⟨xs, o2, es, ep, _, e1, _, e2, _⟩ := k.ex
  rw [hh] at e1
  cases e1
  rw [hd] at e2
  cases e2
theorem bagO_plain {c : Addr} {m : Nat} : Plainy p (bagO p c m) := ext_plain fun h o vs k hh hd => by
  obtain ⟨_, _, _, _, _, _, _, _, _, e1, _⟩ := k.ex
  rw [hh] at e1
  cases e1
  cases hd
end
theorem td_of {A B : Hp} (h : TD A B) {B' : Hp} (s : Same B B') : TD A B' := ⟨h.1, h.2.ext s⟩
structure Grow (A B A' B' : Hp) : Prop where
  g0 : Same A A'
  g1 : Ext B B'
  g2 : Same A' B'
  nw : ∀ p, B p ≠ none → A' p = A p
  tb : TD A B → TD A' B'
section
variable {A B A1 B1 A2 B2 : Hp} {p : Addr} {o : HO}
theorem Grow.refl (h : Same A B) : Grow A B A B := ⟨.refl _, .refl _, h, fun _ _ => rfl, id⟩
theorem ne_none_of {H H' : Hp} (e : Ext H H') {p : Addr} (h : H p ≠ none) : H' p ≠ none := e.ne h
theorem Grow.trans (a : Grow A B A1 B1) (b : Grow A1 B1 A2 B2) : Grow A B A2 B2 :=
  ⟨a.g0.trans b.g0, a.g1.trans b.g1, b.g2, fun p hp => (b.nw p (ne_none_of a.g1 hp)).trans (a.nw p hp), fun t => b.tb (a.tb t)⟩
theorem same_upd {H : Hp} (h : H p = none) : Same H (upd H p o) := fun b x e => by
  rw [upd_ne (ne_of_none e h)]
  exact e
theorem same_upd2 (h : Same A B) : Same (upd A p o) (upd B p o) := fun b x e => by
  by_cases hb : b = p
  · subst hb
    rw [upd_same] at e ⊢
    exact e
  · rw [upd_ne hb] at e ⊢
    exact h b x e
theorem same_updR (h : Same A B) (hp : A p = none) : Same A (upd B p o) := fun b x e => by
  rw [upd_ne (ne_of_none e hp)]
  exact h b x e
/-- a thing of one's own becomes data -/
theorem td_frz (h : TD A B) (n : ∀ ps, o ≠ .tbl ps := by intro ps z; cases z) : TD (upd A p o) B := ⟨fun b ps e => by
  by_cases hb : b = p
  · subst hb
    rw [upd_same] at e
    exact n ps (Option.some.inj e)
  · rw [upd_ne hb] at e
    exact h.1 b ps e, h.2⟩
/-- a new thing that is no data -/
theorem td_newB (h : TD A B) (hp : B p = none) : TD A (upd B p o) := td_of h (same_upd hp)
theorem td_new (h : TD A B) (hp : B p = none) (n : ∀ ps, o ≠ .tbl ps := by intro ps z; cases z) : TD (upd A p o) (upd B p o) := td_newB (td_frz h n) hp
/-- plain things changed or gone -/
theorem td_less {B' : Hp} (h : TD A B) (s : ∀ p, B' p = B p ∨ B p = none ∨ ∃ o, B p = some o ∧ Plainy p o) : TD A B' := ⟨h.1, fun t ht => by
  obtain ⟨ps, h1, h2, h3⟩ := h.2 t ht
  refine ⟨ps, ?_, h2, fun pos cv hc => ?_⟩
  · rcases s t.1 with z | z | ⟨o, z, n⟩
    · rw [z]
      exact h1
    · rw [z] at h1
      cases h1
    · rw [z] at h1
      exact absurd (Option.some.inj h1) (n.1 ps)
  · obtain ⟨c, z1, z2⟩ := h3 pos cv hc
    refine ⟨c, z1, ?_⟩
    rcases s c with z | z | ⟨o, z, n⟩
    · rw [z]
      exact z2
    · rw [z] at z2
      cases z2
    · rw [z] at z2
      exact absurd (Option.some.inj z2) (n.2 t.2)⟩
theorem td_own {o' : HO} (h : TD A B) (hp : B p = some o) (n : Plainy p o) : TD A (upd B p o') := td_less h fun b => by
  by_cases hb : b = p
  · exact .inr (.inr ⟨o, by rw [hb]; exact hp, by rw [hb]; exact n⟩)
  · exact .inl (upd_ne hb)
theorem td_sub {A' : Hp} (h : TD A B) (s : Same A' A) : TD A' B := ⟨fun p ps e => h.1 p ps (s _ _ e), h.2⟩
theorem plain_lst {xs : List V} : Plainy p (.lst xs) := ⟨(fun _ z => nomatch z), fun q z => (by unfold LamX.CodeO at z; cases z)⟩
theorem plain_ins {C dx : Addr} {fs : List (Str × V)} : Plainy p (.ins C dx fs) := ⟨(fun _ z => nomatch z), fun q z => (by unfold LamX.CodeO at z; cases z)⟩
theorem Grow.new (h : Same A B) (hp : B p = none) (n : ∀ ps, o ≠ .tbl ps := by intro ps z; cases z) : Grow A B (upd A p o) (upd B p o) :=
  ⟨same_upd (h.free hp), (same_upd hp).ext, same_upd2 h, fun q hq => by
    by_cases e : q = p
    · subst e
      exact absurd hp hq
    · rw [upd_ne e], fun t => td_new t hp n⟩
end
/-- a slot's content: data, or a thing of one's own that may be changed -/
inductive SV where
  | d (x : D) | lst (x : Addr) (xs : List D) | ins (x C : Addr) (fs : List (Str × D)) | dk (x : Addr) (kvs : List (Key × D)) | dt (x : Addr) (w : World) (kvs : List (NestedKey × D))
  | pg (x C : Addr) (fs : List (Str × D)) (q : Addr) (xs : List D)
/-- an instance with a list of its own inside: told apart -/
def SV.isPg : SV → Bool
  | .pg _ _ _ _ _ => true
  | _ => false
abbrev Rho := List (Option SV)
def OwnRep (K : PySem.W.Frag) (H0 : Hp) (a : Addr) : SV → HO → Prop
  | .d _, _ => False
  | .lst x xs, o => x = a ∧ ∃ vs, o = .lst vs ∧ Reps K H0 xs vs
  | .ins x C fs, o => x = a ∧ ∃ dx fvs, o = .ins C dx fvs ∧ Repf K H0 fs fvs
  | .dk x kvs, o => x = a ∧ ∃ vs, o = .dK vs ∧ Repk K H0 kvs vs
  | .dt x w kvs, o => x = a ∧ ∃ ps, o = DtO w a ps ∧ RepT K H0 kvs ps
  | .pg x C fs _ _, o => x = a ∧ ∃ dx fvs, o = .ins C dx fvs ∧ Repf K H0 fs fvs
theorem OwnRep.mono {K : PySem.W.Frag} {H H' : Hp} {a : Addr} (e : Same H H') : ∀ {w : SV} {o : HO}, OwnRep K H a w o → OwnRep K H' a w o
  | .lst _ _, _, ⟨ex, vs, e1, h⟩ => ⟨ex, vs, e1, Reps.mono e _ _ h⟩
  | .ins _ _ _, _, ⟨ex, dx, fvs, e1, h⟩ => ⟨ex, dx, fvs, e1, Repf.mono e _ _ h⟩
  | .dk _ _, _, ⟨ex, vs, e1, h⟩ => ⟨ex, vs, e1, Repk.mono e _ _ h⟩
  | .dt _ _ _, _, ⟨ex, ps, e1, h⟩ => ⟨ex, ps, e1, RepT.mono e _ _ h⟩
  | .pg _ _ _ _ _, _, ⟨ex, dx, fvs, e1, h⟩ => ⟨ex, dx, fvs, e1, Repf.mono e _ _ h⟩
theorem OwnRep.plain {K : PySem.W.Frag} {H : Hp} {a : Addr} : ∀ {w : SV} {o : HO}, OwnRep K H a w o → Plainy a o
  | .lst _ _, _, ⟨_, vs, e1, _⟩ => by
    subst e1
    exact ⟨(fun _ z => nomatch z), fun q z => (by unfold LamX.CodeO at z; cases z)⟩
  | .ins _ _ _, _, ⟨_, dx, fvs, e1, _⟩ => by
    subst e1
    exact ⟨(fun _ z => nomatch z), fun q z => (by unfold LamX.CodeO at z; cases z)⟩
  | .dk _ _, _, ⟨_, vs, e1, _⟩ => by
    subst e1
    exact ⟨(fun _ z => nomatch z), fun q z => (by unfold LamX.CodeO at z; cases z)⟩
  | .dt _ _ _, _, ⟨_, ps, e1, _⟩ => by
    subst e1
    exact dtO_plain
  | .pg _ _ _ _ _, _, ⟨_, dx, fvs, e1, _⟩ => by
    subst e1
    exact ⟨(fun _ z => nomatch z), fun q z => (by unfold LamX.CodeO at z; cases z)⟩
def Slot (K : PySem.W.Frag) (B1 H0 H : Hp) : Option SV → Option V → Option Addr → Prop
  | none, _, oa => oa = none
  | some (.d x), v, oa => oa = none ∧ ∃ u, v = some u ∧ Rep K H0 x u
  | some w, v, oa => ∃ a o, v = some (.ref a) ∧ oa = some a ∧ H0 a = none ∧ B1 a = none ∧ H a = some o ∧ OwnRep K H0 a w o
structure RepS (K : PySem.W.Frag) (B0 B1 : Hp) (A : Nat → Option Addr) (H0 H : Hp) (σ : L2.St) (ρ : Rho) : Prop where
  ex : Same H0 H
  gr : Grow B0 B1 H0 H
  len : σ.length = ρ.length
  slot : ∀ i w, ρ[i]? = some w → ∃ v, σ[i]? = some v ∧ Slot K B1 H0 H w v (A i)
  inj : ∀ i j a, A i = some a → A j = some a → i = j
  own : ∀ i a, A i = some a → H0 a = none ∧ B1 a = none ∧ ∃ o, H a = some o ∧ Plainy a o
  sz : ρ.length ≤ 1000
  nest : ∀ i x C fs q xs, ρ[i]? = some (some (.pg x C fs q xs)) → A (i + 1000) = some q ∧ ∃ us, H q = some (.lst us) ∧ Reps K H0 xs us
section
variable {K : PySem.W.Frag} {B0 B1 H0 H H0' H' : Hp} {A : Nat → Option Addr} {σ : L2.St} {ρ : Rho}
theorem Slot.grow (g : Grow H0 H H0' H') : ∀ {w : Option SV} {v : Option V} {oa : Option Addr}, Slot K B1 H0 H w v oa → Slot K B1 H0' H' w v oa
  | none, _, _, h => h
  | some (.d x), _, _, ⟨e, u, e1, r⟩ => ⟨e, u, e1, Rep.mono g.g0 _ _ r⟩
  | some (.lst x xs), _, _, ⟨a, o, e1, e2, n, b, ho, r⟩ => ⟨a, o, e1, e2, (g.nw a (by rw [ho]; exact fun z => nomatch z)).trans n, b, g.g1.at ho r.plain.1, r.mono g.g0⟩
  | some (.ins x C fs), _, _, ⟨a, o, e1, e2, n, b, ho, r⟩ => ⟨a, o, e1, e2, (g.nw a (by rw [ho]; exact fun z => nomatch z)).trans n, b, g.g1.at ho r.plain.1, r.mono g.g0⟩
  | some (.dk x kvs), _, _, ⟨a, o, e1, e2, n, b, ho, r⟩ => ⟨a, o, e1, e2, (g.nw a (by rw [ho]; exact fun z => nomatch z)).trans n, b, g.g1.at ho r.plain.1, r.mono g.g0⟩
  | some (.dt x w kvs), _, _, ⟨a, o, e1, e2, n, b, ho, r⟩ => ⟨a, o, e1, e2, (g.nw a (by rw [ho]; exact fun z => nomatch z)).trans n, b, g.g1.at ho r.plain.1, r.mono g.g0⟩
  | some (.pg x C fs q xs), _, _, ⟨a, o, e1, e2, n, b, ho, r⟩ => ⟨a, o, e1, e2, (g.nw a (by rw [ho]; exact fun z => nomatch z)).trans n, b, g.g1.at ho r.plain.1, r.mono g.g0⟩
theorem RepS.grow (R : RepS K B0 B1 A H0 H σ ρ) (g : Grow H0 H H0' H') : RepS K B0 B1 A H0' H' σ ρ :=
  ⟨g.g2, R.gr.trans g, R.len, fun i w e => by
    obtain ⟨v, e1, s⟩ := R.slot i w e
    exact ⟨v, e1, s.grow g⟩, R.inj, fun i a e => by
    obtain ⟨h1, h2, o, h3, h4⟩ := R.own i a e
    exact ⟨(g.nw a (by rw [h3]; exact fun z => nomatch z)).trans h1, h2, o, g.g1.at h3 h4.1, h4⟩, R.sz, fun i x C fs q xs e => by
    obtain ⟨h1, us, h2, h3⟩ := R.nest i x C fs q xs e
    exact ⟨h1, us, g.g1.at h2, Reps.mono g.g0 _ _ h3⟩⟩
def clr (A : Nat → Option Addr) (i : Nat) : Nat → Option Addr := fun j => if j = i ∧ i < 1000 then none else A j
def sto (A : Nat → Option Addr) (i : Nat) (a : Addr) : Nat → Option Addr := fun j => if j = i then some a else A j
theorem clr_some {i j : Nat} {a : Addr} (h : clr A i j = some a) : (i < 1000 → j ≠ i) ∧ A j = some a := by
  unfold clr at h
  by_cases e : j = i ∧ i < 1000
  · rw [if_pos e] at h
    cases h
  · rw [if_neg e] at h
    exact ⟨fun z q => e ⟨q, z⟩, h⟩
theorem clr_self {i : Nat} (h : i < 1000) : clr A i i = none := if_pos ⟨rfl, h⟩
theorem clr_ne {i j : Nat} (h : j ≠ i) : clr A i j = A j := if_neg fun z => h z.1
theorem clr_far {i j : Nat} : clr A i (j + 1000) = A (j + 1000) := if_neg fun z => by omega
theorem pg_ne {i j : Nat} {w : Option SV} {x C q : Addr} {fs : List (Str × D)} {xs : List D} (hw : ∀ s, w = some s → s.isPg = false) (e : (ρ.set i w)[j]? = some (some (.pg x C fs q xs))) : i ≠ j ∧ ρ[j]? = some (some (.pg x C fs q xs)) := by
  by_cases hj : i = j
  · subst hj
    by_cases hl : i < ρ.length
    · rw [List.getElem?_set_self hl] at e
      cases e
      have := hw _ rfl
      cases this
    · rw [List.getElem?_eq_none (by simpa using hl)] at e
      cases e
  · rw [List.getElem?_set_ne hj] at e
    exact ⟨hj, e⟩
theorem RepS.setD (R : RepS K B0 B1 A H0 H σ ρ) {x : D} {u : V} (i : Nat) (r : Rep K H0 x u) : RepS K B0 B1 (clr A i) H0 H (σ.set i (some u)) (ρ.set i (some (.d x))) := by
  refine ⟨R.ex, R.gr, by rw [List.length_set, List.length_set]; exact R.len, fun j w e => ?_, fun j k a h1 h2 => R.inj j k a (clr_some h1).2 (clr_some h2).2, fun j a h => R.own j a (clr_some h).2, by rw [List.length_set]; exact R.sz, fun j x2 C fs q xs e => by
    obtain ⟨_, e⟩ := pg_ne (fun s h => by cases h; rfl) e
    rw [clr_far]
    exact R.nest j x2 C fs q xs e⟩
  by_cases hj : i = j
  · subst hj
    by_cases hl : i < ρ.length
    · rw [List.getElem?_set_self hl] at e
      cases e
      refine ⟨some u, by rw [List.getElem?_set_self (by rw [R.len]; exact hl)], ?_⟩
      exact ⟨clr_self (by have := R.sz; omega), u, rfl, r⟩
    · rw [List.getElem?_eq_none (by simpa using hl)] at e
      cases e
  · rw [List.getElem?_set_ne hj] at e
    obtain ⟨v, e1, s⟩ := R.slot j w e
    refine ⟨v, by rw [List.getElem?_set_ne hj]; exact e1, ?_⟩
    rw [clr_ne (fun z => hj z.symm)]
    exact s
theorem RepS.setNone (R : RepS K B0 B1 A H0 H σ ρ) (i : Nat) : RepS K B0 B1 (clr A i) H0 H (σ.set i none) (ρ.set i none) := by
  refine ⟨R.ex, R.gr, by rw [List.length_set, List.length_set]; exact R.len, fun j w e => ?_, fun j k a h1 h2 => R.inj j k a (clr_some h1).2 (clr_some h2).2, fun j a h => R.own j a (clr_some h).2, by rw [List.length_set]; exact R.sz, fun j x2 C fs q xs e => by
    obtain ⟨_, e⟩ := pg_ne (fun s h => by cases h) e
    rw [clr_far]
    exact R.nest j x2 C fs q xs e⟩
  by_cases hj : i = j
  · subst hj
    by_cases hl : i < ρ.length
    · rw [List.getElem?_set_self hl] at e
      cases e
      refine ⟨none, by rw [List.getElem?_set_self (by rw [R.len]; exact hl)], ?_⟩
      exact clr_self (by have := R.sz; omega)
    · rw [List.getElem?_eq_none (by simpa using hl)] at e
      cases e
  · rw [List.getElem?_set_ne hj] at e
    obtain ⟨v, e1, s⟩ := R.slot j w e
    refine ⟨v, by rw [List.getElem?_set_ne hj]; exact e1, ?_⟩
    rw [clr_ne (fun z => hj z.symm)]
    exact s
/-- an object at a fresh place that only the slot i holds -/
theorem RepS.setOwn (R : RepS K B0 B1 A H0 H σ ρ) {w : SV} {a : Addr} {o : HO} (i : Nat) (hi : i < ρ.length) (na : H a = none) (hw : OwnRep K H0 a w o) (hn : w.isPg = false := by rfl) : RepS K B0 B1 (sto A i a) H0 (upd H a o) (σ.set i (some (.ref a))) (ρ.set i (some w)) := by
  have n0 : H0 a = none := R.ex.free na
  have nb : B1 a = none := R.gr.g1.free na
  have ne : ∀ j b, A j = some b → b ≠ a := fun j b h e => by
    subst e
    obtain ⟨_, _, o2, z, _⟩ := R.own j b h
    rw [na] at z
    cases z
  have slotOf : Slot K B1 H0 (upd H a o) (some w) (some (.ref a)) (some a) := by
    cases w with
    | d x => exact hw.elim
    | lst x2 xs => exact ⟨a, o, rfl, rfl, n0, nb, upd_same, hw⟩
    | ins x C fs => exact ⟨a, o, rfl, rfl, n0, nb, upd_same, hw⟩
    | dk x2 kvs => exact ⟨a, o, rfl, rfl, n0, nb, upd_same, hw⟩
    | dt x2 w2 kvs => exact ⟨a, o, rfl, rfl, n0, nb, upd_same, hw⟩
    | pg x9 C9 fs9 q9 xs9 => exact ⟨a, o, rfl, rfl, n0, nb, upd_same, hw⟩
  refine ⟨same_updR R.ex n0, ⟨R.gr.g0, ext_updR R.gr.g1 nb, same_updR R.ex n0, R.gr.nw, fun t => td_newB (R.gr.tb t) na⟩, by rw [List.length_set, List.length_set]; exact R.len, fun j x e => ?_, fun j k b h1 h2 => ?_, fun j b h => ?_, by rw [List.length_set]; exact R.sz, fun j x2 C fs q xs e => by
    obtain ⟨_, e⟩ := pg_ne (fun s h => by cases h; exact hn) e
    obtain ⟨h1, us, h2, h3⟩ := R.nest j x2 C fs q xs e
    refine ⟨?_, us, by rw [upd_ne (ne _ _ h1)]; exact h2, h3⟩
    unfold sto
    rw [if_neg (by have := R.sz; omega)]
    exact h1⟩
  · by_cases hj : i = j
    · subst hj
      rw [List.getElem?_set_self hi] at e
      cases e
      refine ⟨some (.ref a), by rw [List.getElem?_set_self (by rw [R.len]; exact hi)], ?_⟩
      unfold sto
      rw [if_pos rfl]
      exact slotOf
    · rw [List.getElem?_set_ne hj] at e
      obtain ⟨v, e1, s⟩ := R.slot j x e
      refine ⟨v, by rw [List.getElem?_set_ne hj]; exact e1, ?_⟩
      unfold sto
      rw [if_neg (fun z => hj z.symm)]
      cases x with
      | none => exact s
      | some x =>
        cases x with
        | d y => exact s
        | lst x2 xs =>
          obtain ⟨b, o', e2, e3, n, b1, ho, r⟩ := s
          exact ⟨b, o', e2, e3, n, b1, by rw [upd_ne (ne j b e3)]; exact ho, r⟩
        | ins x2 C fs =>
          obtain ⟨b, o', e2, e3, n, b1, ho, r⟩ := s
          exact ⟨b, o', e2, e3, n, b1, by rw [upd_ne (ne j b e3)]; exact ho, r⟩
        | dk x2 kvs =>
          obtain ⟨b, o', e2, e3, n, b1, ho, r⟩ := s
          exact ⟨b, o', e2, e3, n, b1, by rw [upd_ne (ne j b e3)]; exact ho, r⟩
        | dt x2 w2 kvs =>
          obtain ⟨b, o', e2, e3, n, b1, ho, r⟩ := s
          exact ⟨b, o', e2, e3, n, b1, by rw [upd_ne (ne j b e3)]; exact ho, r⟩
        | pg x9 C9 fs9 q9 xs9 =>
          obtain ⟨b, o', e2, e3, n, b1, ho, r⟩ := s
          exact ⟨b, o', e2, e3, n, b1, by rw [upd_ne (ne j b e3)]; exact ho, r⟩
  · unfold sto at h1 h2
    by_cases hj : j = i
    · rw [if_pos hj] at h1
      cases h1
      by_cases hk : k = i
      · exact hj.trans hk.symm
      · rw [if_neg hk] at h2
        exact absurd rfl (ne k a h2)
    · rw [if_neg hj] at h1
      by_cases hk : k = i
      · rw [if_pos hk] at h2
        cases h2
        exact absurd rfl (ne j a h1)
      · rw [if_neg hk] at h2
        exact R.inj j k b h1 h2
  · unfold sto at h
    by_cases hj : j = i
    · rw [if_pos hj] at h
      cases h
      exact ⟨n0, nb, o, upd_same, hw.plain⟩
    · rw [if_neg hj] at h
      obtain ⟨q1, q2, o2, q3, q4⟩ := R.own j b h
      exact ⟨q1, q2, o2, by rw [upd_ne (ne j b h)]; exact q3, q4⟩
/-- the slot's own thing -/
theorem RepS.ownAt (R : RepS K B0 B1 A H0 H σ ρ) {w : SV} {i : Nat} (e : ρ[i]? = some (some w)) (hw : ∀ x, w ≠ .d x) : ∃ a o, σ[i]? = some (some (.ref a)) ∧ A i = some a ∧ H0 a = none ∧ B1 a = none ∧ H a = some o ∧ OwnRep K H0 a w o := by
  obtain ⟨v, e1, s⟩ := R.slot i _ e
  cases w with
  | d x => exact absurd rfl (hw x)
  | lst x2 xs =>
    obtain ⟨a, o, e2, e3, n, b1, ho, r⟩ := s
    subst e2
    exact ⟨a, o, e1, e3, n, b1, ho, r⟩
  | ins x2 C fs =>
    obtain ⟨a, o, e2, e3, n, b1, ho, r⟩ := s
    subst e2
    exact ⟨a, o, e1, e3, n, b1, ho, r⟩
  | dk x2 kvs =>
    obtain ⟨a, o, e2, e3, n, b1, ho, r⟩ := s
    subst e2
    exact ⟨a, o, e1, e3, n, b1, ho, r⟩
  | dt x2 w2 kvs =>
    obtain ⟨a, o, e2, e3, n, b1, ho, r⟩ := s
    subst e2
    exact ⟨a, o, e1, e3, n, b1, ho, r⟩
  | pg x9 C9 fs9 q9 xs9 =>
    obtain ⟨a, o, e2, e3, n, b1, ho, r⟩ := s
    subst e2
    exact ⟨a, o, e1, e3, n, b1, ho, r⟩
/-- .. changed -/
theorem RepS.updOwn (R : RepS K B0 B1 A H0 H σ ρ) {w : SV} {i : Nat} {a : Addr} {o : HO} (hi : i < ρ.length) (hs : σ[i]? = some (some (.ref a))) (ha : A i = some a) (hw : OwnRep K H0 a w o) (hn : w.isPg = false := by rfl) : RepS K B0 B1 A H0 (upd H a o) σ (ρ.set i (some w)) := by
  obtain ⟨n0, nb, o9, nh, np⟩ := R.own i a ha
  refine ⟨same_updR R.ex n0, ⟨R.gr.g0, ext_updR R.gr.g1 nb, same_updR R.ex n0, R.gr.nw, fun t => td_own (R.gr.tb t) nh np⟩, by rw [List.length_set]; exact R.len, fun j x e => ?_, R.inj, fun j b h => ?_, by rw [List.length_set]; exact R.sz, fun j x2 C fs q xs e => by
    obtain ⟨_, e⟩ := pg_ne (fun s h => by cases h; exact hn) e
    obtain ⟨h1, us, h2, h3⟩ := R.nest j x2 C fs q xs e
    refine ⟨h1, us, ?_, h3⟩
    rw [upd_ne (fun z => by subst z; have := R.inj _ _ _ h1 ha; have := R.sz; omega)]
    exact h2⟩
  · by_cases hj : i = j
    · subst hj
      rw [List.getElem?_set_self hi] at e
      cases e
      refine ⟨_, hs, ?_⟩
      cases w with
      | d x => exact hw.elim
      | lst x2 xs => exact ⟨a, o, rfl, ha, n0, nb, upd_same, hw⟩
      | ins x C fs => exact ⟨a, o, rfl, ha, n0, nb, upd_same, hw⟩
      | dk x2 kvs => exact ⟨a, o, rfl, ha, n0, nb, upd_same, hw⟩
      | dt x2 w2 kvs => exact ⟨a, o, rfl, ha, n0, nb, upd_same, hw⟩
      | pg x9 C9 fs9 q9 xs9 => exact ⟨a, o, rfl, ha, n0, nb, upd_same, hw⟩
    · rw [List.getElem?_set_ne hj] at e
      obtain ⟨v, e1, s⟩ := R.slot j x e
      have ne : ∀ b, A j = some b → b ≠ a := fun b h z => by
        subst z
        exact hj (R.inj i j b ha h)
      refine ⟨v, e1, ?_⟩
      cases x with
      | none => exact s
      | some x =>
        cases x with
        | d y => exact s
        | lst x2 xs =>
          obtain ⟨b, o', e2, e3, n, b1, ho, r⟩ := s
          exact ⟨b, o', e2, e3, n, b1, by rw [upd_ne (ne b e3)]; exact ho, r⟩
        | ins x2 C fs =>
          obtain ⟨b, o', e2, e3, n, b1, ho, r⟩ := s
          exact ⟨b, o', e2, e3, n, b1, by rw [upd_ne (ne b e3)]; exact ho, r⟩
        | dk x2 kvs =>
          obtain ⟨b, o', e2, e3, n, b1, ho, r⟩ := s
          exact ⟨b, o', e2, e3, n, b1, by rw [upd_ne (ne b e3)]; exact ho, r⟩
        | dt x2 w2 kvs =>
          obtain ⟨b, o', e2, e3, n, b1, ho, r⟩ := s
          exact ⟨b, o', e2, e3, n, b1, by rw [upd_ne (ne b e3)]; exact ho, r⟩
        | pg x9 C9 fs9 q9 xs9 =>
          obtain ⟨b, o', e2, e3, n, b1, ho, r⟩ := s
          exact ⟨b, o', e2, e3, n, b1, by rw [upd_ne (ne b e3)]; exact ho, r⟩
  · obtain ⟨q1, q2, o2, q3, q4⟩ := R.own j b h
    refine ⟨q1, q2, ?_⟩
    by_cases hb : b = a
    · subst hb
      exact ⟨o, upd_same, hw.plain⟩
    · exact ⟨o2, by rw [upd_ne hb]; exact q3, q4⟩
/-- what an own thing is once it is let go -/
def SV.toD : SV → D
  | .d x => x
  | .lst _ xs => .lst xs
  | .ins _ C fs => .ins C fs
  | .dk _ kvs => .dk kvs
  | .dt _ w kvs => .dt w kvs
  | .pg _ C fs _ _ => .ins C fs
theorem OwnRep.toD {w : SV} {o : HO} {a : Addr} (h : H0 a = none) (ho : OwnRep K H0 a w o) : Rep K (upd H0 a o) w.toD (.ref a) := by
  cases w with
  | d x => exact ho.elim
  | lst x2 xs =>
    obtain ⟨_, vs, rfl, r⟩ := ho
    exact ⟨a, vs, rfl, .inl (.inl upd_same), Reps.mono (same_upd h) _ _ r⟩
  | ins x C fs =>
    obtain ⟨_, dx, fvs, rfl, r⟩ := ho
    exact ⟨a, dx, fvs, rfl, upd_same, Repf.mono (same_upd h) _ _ r⟩
  | dk x kvs =>
    obtain ⟨_, vs, rfl, r⟩ := ho
    exact ⟨a, vs, rfl, upd_same, Repk.mono (same_upd h) _ _ r⟩
  | dt x w kvs =>
    obtain ⟨_, ps, rfl, r⟩ := ho
    exact ⟨a, ps, rfl, upd_same, RepT.mono (same_upd h) _ _ r⟩
  | pg x C fs q xs =>
    obtain ⟨_, dx, fvs, rfl, r⟩ := ho
    exact ⟨a, dx, fvs, rfl, upd_same, Repf.mono (same_upd h) _ _ r⟩
/-- the own thing of a slot let go: it is data from now on -/
theorem RepS.freeze (R : RepS K B0 B1 A H0 H σ ρ) {w : SV} {i : Nat} (e : ρ[i]? = some (some w)) (hw : ∀ x, w ≠ .d x) (hn : w.isPg = false := by rfl) : ∃ a o, σ[i]? = some (some (.ref a)) ∧ H a = some o ∧ H0 a = none ∧ B1 a = none ∧ Rep K (upd H0 a o) w.toD (.ref a) ∧
    RepS K B0 B1 (clr A i) (upd H0 a o) H σ (ρ.set i (some (.d w.toD))) := by
  obtain ⟨a, o, hs, ha, n0, nb, ho, hr⟩ := R.ownAt e hw
  have hi : i < ρ.length := (List.getElem?_eq_some_iff.mp e).1
  have rep := OwnRep.toD n0 hr
  have ex : Same (upd H0 a o) H := fun b x q => by
    by_cases hb : b = a
    · subst hb
      rw [upd_same] at q
      cases q
      exact ho
    · rw [upd_ne hb] at q
      exact R.ex b x q
  have ne : ∀ j b, j ≠ i → A j = some b → b ≠ a := fun j b hj h z => by
    subst z
    exact hj (R.inj j i b h ha)
  refine ⟨a, o, hs, ho, n0, nb, rep, ex, ⟨R.gr.g0.trans (same_upd n0), R.gr.g1, ex, fun p hp => ?_, fun t => td_frz (R.gr.tb t) hr.plain.1⟩, by rw [List.length_set]; exact R.len, fun j x q => ?_, fun j k b h1 h2 => R.inj j k b (clr_some h1).2 (clr_some h2).2, fun j b h => ?_, by rw [List.length_set]; exact R.sz, fun j x2 C fs q xs e => by
    obtain ⟨_, e⟩ := pg_ne (fun s h => by cases h; rfl) e
    rw [clr_far]
    obtain ⟨h1, us, h2, h3⟩ := R.nest j x2 C fs q xs e
    exact ⟨h1, us, h2, Reps.mono (same_upd n0) _ _ h3⟩⟩
  · by_cases hb : p = a
    · subst hb
      exact absurd nb hp
    · rw [upd_ne hb]
      exact R.gr.nw p hp
  · by_cases hj : i = j
    · subst hj
      rw [List.getElem?_set_self hi] at q
      cases q
      refine ⟨_, hs, ?_⟩
      exact ⟨clr_self (by have := R.sz; omega), _, rfl, rep⟩
    · rw [List.getElem?_set_ne hj] at q
      obtain ⟨v, e1, s⟩ := R.slot j x q
      refine ⟨v, e1, ?_⟩
      rw [clr_ne (fun z => hj z.symm)]
      cases x with
      | none => exact s
      | some x =>
        cases x with
        | d y =>
          obtain ⟨e2, u, e3, r⟩ := s
          exact ⟨e2, u, e3, Rep.mono (same_upd n0) _ _ r⟩
        | lst x2 xs =>
          obtain ⟨b, o', e2, e3, n, b1, ho', r⟩ := s
          exact ⟨b, o', e2, e3, by rw [upd_ne (ne j b (fun z => hj z.symm) e3)]; exact n, b1, ho', r.mono (same_upd n0)⟩
        | ins x2 C fs =>
          obtain ⟨b, o', e2, e3, n, b1, ho', r⟩ := s
          exact ⟨b, o', e2, e3, by rw [upd_ne (ne j b (fun z => hj z.symm) e3)]; exact n, b1, ho', r.mono (same_upd n0)⟩
        | dk x2 kvs =>
          obtain ⟨b, o', e2, e3, n, b1, ho', r⟩ := s
          exact ⟨b, o', e2, e3, by rw [upd_ne (ne j b (fun z => hj z.symm) e3)]; exact n, b1, ho', r.mono (same_upd n0)⟩
        | dt x2 w2 kvs =>
          obtain ⟨b, o', e2, e3, n, b1, ho', r⟩ := s
          exact ⟨b, o', e2, e3, by rw [upd_ne (ne j b (fun z => hj z.symm) e3)]; exact n, b1, ho', r.mono (same_upd n0)⟩
        | pg x9 C9 fs9 q9 xs9 =>
          obtain ⟨b, o', e2, e3, n, b1, ho', r⟩ := s
          exact ⟨b, o', e2, e3, by rw [upd_ne (ne j b (fun z => hj z.symm) e3)]; exact n, b1, ho', r.mono (same_upd n0)⟩
  · obtain ⟨hj, h⟩ := clr_some h
    obtain ⟨q1, q2, q3⟩ := R.own j b h
    exact ⟨by rw [upd_ne (ne j b (hj (by have := R.sz; omega)) h)]; exact q1, q2, q3⟩
/-- a new ground at this very state -/
theorem RepS.rebase (R : RepS K B0 B1 A H0 H σ ρ) : ∃ B1', RepS K H0 B1' A H0 H σ ρ ∧ Same H0 B1' ∧ (∀ i a, A i = some a → B1' a = none) ∧ (∀ p, H p ≠ none → (∀ i, A i ≠ some p) → B1' p = H p) ∧
    ∀ H0' H', Grow H0 B1' H0' H' → Grow B0 B1 H0' H' := by
  classical
  refine ⟨fun p => if ∃ i, A i = some p then none else H p, ?_, ?_, ?_, ?_, ?_⟩
  · have h0 : Same (fun p => if ∃ i, A i = some p then none else H p) H := fun b x e => by
      have e : (if ∃ i, A i = some b then none else H b) = some x := e
      by_cases hb : ∃ i, A i = some b
      · rw [if_pos hb] at e
        cases e
      · rw [if_neg hb] at e
        exact e
    refine ⟨R.ex, ⟨.refl _, h0.ext, R.ex, fun _ _ => rfl, fun t => td_of t h0⟩, R.len, fun i w e => ?_, R.inj, fun i a h => ?_, R.sz, R.nest⟩
    · obtain ⟨v, e1, s⟩ := R.slot i w e
      refine ⟨v, e1, ?_⟩
      cases w with
      | none => exact s
      | some w =>
        cases w with
        | d y => exact s
        | lst x2 xs =>
          obtain ⟨b, o', e2, e3, n, b1, ho', r⟩ := s
          exact ⟨b, o', e2, e3, n, if_pos ⟨i, e3⟩, ho', r⟩
        | ins x2 C fs =>
          obtain ⟨b, o', e2, e3, n, b1, ho', r⟩ := s
          exact ⟨b, o', e2, e3, n, if_pos ⟨i, e3⟩, ho', r⟩
        | dk x2 kvs =>
          obtain ⟨b, o', e2, e3, n, b1, ho', r⟩ := s
          exact ⟨b, o', e2, e3, n, if_pos ⟨i, e3⟩, ho', r⟩
        | dt x2 w2 kvs =>
          obtain ⟨b, o', e2, e3, n, b1, ho', r⟩ := s
          exact ⟨b, o', e2, e3, n, if_pos ⟨i, e3⟩, ho', r⟩
        | pg x9 C9 fs9 q9 xs9 =>
          obtain ⟨b, o', e2, e3, n, b1, ho', r⟩ := s
          exact ⟨b, o', e2, e3, n, if_pos ⟨i, e3⟩, ho', r⟩
    · obtain ⟨q1, q2, q3⟩ := R.own i a h
      exact ⟨q1, if_pos ⟨i, h⟩, q3⟩
  · intro b x e
    show (if ∃ i, A i = some b then none else H b) = some x
    rw [if_neg (fun ⟨i, hi⟩ => by rw [(R.own i b hi).1] at e; cases e)]
    exact R.ex b x e
  · intro i a h
    exact if_pos ⟨i, h⟩
  · intro p _ h
    exact if_neg fun ⟨i, hi⟩ => h i hi
  · intro H0' H' g
    have hB : Ext B1 (fun p => if ∃ i, A i = some p then none else H p) := fun b x e => by
      show (if ∃ i, A i = some b then none else H b) = some x ∨ ∃ ps ps', x = .tbl ps ∧ (if ∃ i, A i = some b then none else H b) = some (.tbl ps')
      rw [if_neg (fun ⟨i, hi⟩ => by rw [(R.own i b hi).2.1] at e; cases e)]
      exact R.gr.g1 b x e
    exact ⟨R.gr.g0.trans g.g0, hB.trans g.g1, g.g2, fun p hp => (g.nw p (ne_none_of hB hp)).trans (R.gr.nw p hp), fun t => g.tb (td_less (R.gr.tb t) fun p => by
      show (if ∃ i, A i = some p then none else H p) = H p ∨ _
      by_cases hb : ∃ i, A i = some p
      · obtain ⟨i, hi⟩ := hb
        obtain ⟨_, _, o, z1, z2⟩ := R.own i p hi
        exact .inr (.inr ⟨o, z1, z2⟩)
      · exact .inl (if_neg hb))⟩
theorem RepS.unbase {B1' : Hp} {A' : Nat → Option Addr} {σ' : L2.St} {ρ' : Rho} (hB : ∀ H0' H', Grow H0 B1' H0' H' → Grow B0 B1 H0' H') (hb : ∀ p, B1' p = none → B1 p = none) (R : RepS K H0 B1' A' H0' H' σ' ρ') : RepS K B0 B1 A' H0' H' σ' ρ' :=
  ⟨R.ex, hB _ _ R.gr, R.len, fun i w e => by
    obtain ⟨v, e1, s⟩ := R.slot i w e
    refine ⟨v, e1, ?_⟩
    cases w with
    | none => exact s
    | some w =>
      cases w with
      | d y => exact s
      | lst x2 xs =>
        obtain ⟨b, o', e2, e3, n, b1, ho', r⟩ := s
        exact ⟨b, o', e2, e3, n, hb _ b1, ho', r⟩
      | ins C fs =>
        obtain ⟨b, o', e2, e3, n, b1, ho', r⟩ := s
        exact ⟨b, o', e2, e3, n, hb _ b1, ho', r⟩
      | dk x2 kvs =>
        obtain ⟨b, o', e2, e3, n, b1, ho', r⟩ := s
        exact ⟨b, o', e2, e3, n, hb _ b1, ho', r⟩
      | dt x2 w2 kvs =>
        obtain ⟨b, o', e2, e3, n, b1, ho', r⟩ := s
        exact ⟨b, o', e2, e3, n, hb _ b1, ho', r⟩
      | pg x2 C2 fs2 q2 xs2 =>
        obtain ⟨b, o', e2, e3, n, b1, ho', r⟩ := s
        exact ⟨b, o', e2, e3, n, hb _ b1, ho', r⟩, R.inj, fun i a h => by
    obtain ⟨q1, q2, q3⟩ := R.own i a h
    exact ⟨q1, hb _ q2, q3⟩, R.sz, R.nest⟩
end
end DL
namespace DL
variable [TbC]
open PySem PySem.Spec PyProof.Rows L2
/-- an error: its class, its fields -/
abbrev DX := Addr × List (Str × D)
abbrev DE := Rho → (D → Prop) → Prop
abbrev DT := Rho → (Bool → Prop) → Prop
abbrev DA := Rho → (List D → Prop) → Prop
structure DEnds where
  nx : Rho → Prop
  rt : D → Rho → Prop
  bk : Rho → Prop := fun _ => False
  ct : Rho → Prop := fun _ => False
abbrev DS := DEnds → Rho → Prop
/-- what is wanted of errors, over data and over the heap -/
structure ExRel (K : PySem.W.Frag) (B0 B1 : Hp) (Ed : DX → Prop) (E : XK) : Prop where
  ex : ∀ (C : Addr) (fs : List (Str × D)) (fvs : List (Str × V)) (dx : Addr) (H0' H' : Hp), Grow B0 B1 H0' H' → H' dx = some (.xd fvs) → Repf K H0' fs fvs → Ed (C, fs) → E (.ref C) (some dx) H'
  td : TD B0 B1
theorem ExRel.grow {K : PySem.W.Frag} {B0 B1 C0 C1 : Hp} {Ed : DX → Prop} {E : XK} (h : ExRel K B0 B1 Ed E) (s : Same C0 C1) (g : ∀ H0' H', Grow C0 C1 H0' H' → Grow B0 B1 H0' H') : ExRel K C0 C1 Ed E :=
  ⟨fun C fs fvs dx H0' H' q => h.ex C fs fvs dx H0' H' (g _ _ q), (g _ _ (.refl s)).tb h.td⟩
theorem ExRel.none {K : PySem.W.Frag} {B0 B1 : Hp} {E : XK} (t : TD B0 B1) : ExRel K B0 B1 (fun _ => False) E := ⟨fun _ _ _ _ _ _ _ _ _ h => h.elim, t⟩
theorem ExRel.td0 {K : PySem.W.Frag} {B0 B1 : Hp} {Ed : DX → Prop} {E : XK} (h : ExRel K B0 B1 Ed E) : ExRel K B0 B1 (fun _ => False) E0 := .none h.td
structure EndsRel (K : PySem.W.Frag) (B0 B1 : Hp) (d : DEnds) (e : Ends) : Prop where
  nx : ∀ A H0 H σ ρ, RepS K B0 B1 A H0 H σ ρ → d.nx ρ → e.nx σ H
  rt : ∀ A H0 H σ ρ x v, RepS K B0 B1 A H0 H σ ρ → Rep K H0 x v → d.rt x ρ → e.rt v H
  bk : ∀ A H0 H σ ρ, RepS K B0 B1 A H0 H σ ρ → d.bk ρ → e.bk σ H
  ct : ∀ A H0 H σ ρ, RepS K B0 B1 A H0 H σ ρ → d.ct ρ → e.ct σ H
section
variable (K : PySem.W.Frag) (Ed : DX → Prop) (E : XK)
def SimE (te : TE) (de : DE) : Prop := ∀ B0 B1 A H0 H σ ρ, RepS K B0 B1 A H0 H σ ρ → ExRel K B0 B1 Ed E → ∀ Qd : D → Prop, de ρ Qd → ∀ Q : VK,
  (∀ x v H0' H', RepS K B0 B1 A H0' H' σ ρ → Grow H0 H H0' H' → Rep K H0' x v → Qd x → Q v H') → te σ H Q
def SimT (te : TT) (de : DT) : Prop := ∀ B0 B1 A H0 H σ ρ, RepS K B0 B1 A H0 H σ ρ → ExRel K B0 B1 Ed E → ∀ Qd : Bool → Prop, de ρ Qd → ∀ Q : Bool → Hp → Prop,
  (∀ x H0' H', RepS K B0 B1 A H0' H' σ ρ → Grow H0 H H0' H' → Qd x → Q x H') → te σ H Q
def SimA (te : TA) (de : DA) : Prop := ∀ B0 B1 A H0 H σ ρ, RepS K B0 B1 A H0 H σ ρ → ExRel K B0 B1 Ed E → ∀ Qd : List D → Prop, de ρ Qd → ∀ Q : List V → Hp → Prop,
  (∀ x v H0' H', RepS K B0 B1 A H0' H' σ ρ → Grow H0 H H0' H' → Reps K H0' x v → Qd x → Q v H') → te σ H Q
def SimS (ts : TS) (ds : DS) : Prop := ∀ B0 B1 A H0 H σ ρ, RepS K B0 B1 A H0 H σ ρ → ExRel K B0 B1 Ed E → ∀ (d : DEnds) (e : Ends), EndsRel K B0 B1 d e → ds d ρ → ts e σ H
end
/-- operations on values -/
def SimR2 (K : PySem.W.Frag) (r : R2) (rd : D → D → (D → Prop) → Prop) : Prop := ∀ (H0 H : Hp) (x y : V) (dx dy : D), Same H0 H → Rep K H0 dx x → Rep K H0 dy y → ∀ Qd : D → Prop, rd dx dy Qd → ∀ Q : VK,
  (∀ z v H0' H', Grow H0 H H0' H' → Rep K H0' z v → Qd z → Q v H') → r x y H Q
def SimR1 (K : PySem.W.Frag) (r : V → Hp → VK → Prop) (rd : D → (D → Prop) → Prop) : Prop := ∀ (H0 H : Hp) (x : V) (dx : D), Same H0 H → Rep K H0 dx x → ∀ Qd : D → Prop, rd dx Qd → ∀ Q : VK,
  (∀ z v H0' H', Grow H0 H H0' H' → Rep K H0' z v → Qd z → Q v H') → r x H Q
def SimRC (K : PySem.W.Frag) (r : List V → Hp → VK → Prop) (rd : List D → (D → Prop) → Prop) : Prop := ∀ (H0 H : Hp) (xs : List V) (ds : List D), Same H0 H → Reps K H0 ds xs → ∀ Qd : D → Prop, rd ds Qd → ∀ Q : VK,
  (∀ z v H0' H', Grow H0 H H0' H' → Rep K H0' z v → Qd z → Q v H') → r xs H Q
/-- a syntax, its reading over the heap, its reading over data -/
structure JE (X : Cx) (Ed : DX → Prop) (E : XK) (e : Expr) (te : TE) (de : DE) : Prop where
  pe : PE X e te
  sim : SimE X.K Ed E te de
structure JT (X : Cx) (Ed : DX → Prop) (E : XK) (e : Expr) (te : TT) (de : DT) : Prop where
  pe : PT X e te
  sim : SimT X.K Ed E te de
structure JW (X : Cx) (Ed : DX → Prop) (E : XK) (e : Expr) (te : TT) (de : DT) : Prop where
  pe : PW X e te
  sim : SimT X.K Ed E te de
structure JA (X : Cx) (Ed : DX → Prop) (E : XK) (e : List Expr) (te : TA) (de : DA) : Prop where
  pe : PA X e te
  sim : SimA X.K Ed E te de
structure JS (X : Cx) (Ed : DX → Prop) (E : XK) (st : Stmt) (ts : TS) (ds : DS) : Prop where
  pe : PS X st ts
  sim : SimS X.K Ed E ts ds
structure JB (X : Cx) (Ed : DX → Prop) (E : XK) (st : List Stmt) (ts : TS) (ds : DS) : Prop where
  pe : PSs X st ts
  sim : SimS X.K Ed E ts ds
def lk : Nat → Rho → Option SV
  | _, [] => none
  | 0, a :: _ => a
  | n + 1, _ :: r => lk n r
theorem lk_some : ∀ {i : Nat} {ρ : Rho} {w : SV}, lk i ρ = some w → ρ[i]? = some (some w)
  | 0, [], _, h => nomatch (show none = some _ from h)
  | _ + 1, [], _, h => nomatch (show none = some _ from h)
  | 0, a :: _, w, h => by
    show some a = _
    exact congrArg some h
  | n + 1, _ :: r, w, h => by simpa using lk_some (i := n) (ρ := r) h
def dVar (i : Nat) (ρ : Rho) (Q : D → Prop) : Prop := match lk i ρ with
  | some (.d x) => Q x
  | _ => False
def dC (x : D) (_ : Rho) (Q : D → Prop) : Prop := Q x
section
variable {X : Cx} {Ed : DX → Prop} {E : XK} {K : PySem.W.Frag} {pos : Pos} {e a b c : Expr} {te ta tb : TE} {de da db : DE} {tt tu : TT} {dt du : DT} {tal : TA} {dal : DA} {es : List Expr}
theorem sim_var {i : Nat} : SimE K Ed E (tVar i) (dVar i) := by
  intro B0 B1 A H0 H σ ρ R X Qd h Q q
  unfold dVar at h
  split at h
  · rename_i x e
    obtain ⟨v, e1, _, u, e2, r⟩ := R.slot i _ (lk_some e)
    subst e2
    exact ⟨u, e1, q x u H0 H R (.refl R.ex) r h⟩
  · exact h.elim
theorem sim_c {x : D} {v : V} (h : ∀ H, Rep K H x v) : SimE K Ed E (tC v) (dC x) := fun B0 B1 A H0 H σ ρ R _ Qd hd Q q => q x v H0 H R (.refl R.ex) (h H0) hd
theorem e_var (i : Nat) {x : Str} (hN : X.N[i]? = some x := by rfl) (hv : Vis X.env.scope x := by first | exact Or.inl rfl | exact Or.inr (Or.inl rfl) | exact Or.inr (Or.inr rfl)) (hd : (x == ("__debug__" : Str)) = false := by decide)
    (hcd : (x == ("__classdict__" : Str)) = false := by decide) : JE X Ed E (.Name x pos) (tVar i) (dVar i) := ⟨pe_var hN hv hd hcd, sim_var⟩
theorem e_int {i j} : JE X Ed E (.Constant (.int i) j pos) (tC (.int i)) (dC (.int i)) := ⟨pe_int, sim_c fun _ => rfl⟩
theorem e_bl {b j} : JE X Ed E (.Constant (.bool b) j pos) (tC (.bl b)) (dC (.bl b)) := ⟨pe_bl, sim_c fun _ => rfl⟩
theorem e_non {j} : JE X Ed E (.Constant .none j pos) (tC .non) (dC .non) := ⟨pe_non, sim_c fun _ => rfl⟩
theorem e_str {x j} : JE X Ed E (.Constant (.str x) j pos) (tC (.str x)) (dC (.str x)) := ⟨pe_str, sim_c fun _ => rfl⟩
/-- a module's name: a constant, a class -/
theorem e_glob {x : Str} {v : V} {u : Value} {d : D} (hg : Gl X x) (hm : X.mg x = some u) (r : RelV v u) (hr : ∀ H, Rep X.K H d v) (hd : (x == ("__debug__" : Str)) = false := by decide) : JE X Ed E (.Name x pos) (tC v) (dC d) := ⟨pe_glob hg hm r hd, sim_c hr⟩
theorem e_bltn {x : Str} {v : V} {u : Value} {d : D} (hg : Gl X x) (hm : X.mg x = none) (hv : bootBuiltins x = some u) (r : RelV v u) (hr : ∀ H, Rep X.K H d v) (hn : x ≠ "__name__" := by decide) (hd : (x == ("__debug__" : Str)) = false := by decide) : JE X Ed E (.Name x pos) (tC v) (dC d) := ⟨pe_bltn hg hm hv r hn hd, sim_c hr⟩
def dOp (r : D → D → (D → Prop) → Prop) (da db : DE) (ρ : Rho) (Q : D → Prop) : Prop := da ρ fun x => db ρ fun y => r x y Q
def dUn (r : D → (D → Prop) → Prop) (da : DE) (ρ : Rho) (Q : D → Prop) : Prop := da ρ fun x => r x Q
theorem sim_op {r : R2} {rd : D → D → (D → Prop) → Prop} (sr : SimR2 K r rd) (ha : SimE K Ed E ta da) (hb : SimE K Ed E tb db) : SimE K Ed E (tOp r ta tb) (dOp rd da db) := fun B0 B1 A H0 H σ ρ R X Qd h Q q =>
  ha B0 B1 A H0 H σ ρ R X _ h _ fun x v H1 H' R1 g1 r1 h1 => hb B0 B1 A H1 H' σ ρ R1 X _ h1 _ fun y u H2 H'' R2 g2 r2 h2 =>
    sr H2 H'' v u x y R2.ex (Rep.mono g2.g0 _ _ r1) r2 Qd h2 Q fun z w H3 H''' g3 r3 h3 => q z w H3 H''' (R2.grow g3) ((g1.trans g2).trans g3) r3 h3
theorem sim_un {r : V → Hp → VK → Prop} {rd : D → (D → Prop) → Prop} (sr : SimR1 K r rd) (ha : SimE K Ed E ta da) : SimE K Ed E (tUn r ta) (dUn rd da) := fun B0 B1 A H0 H σ ρ R X Qd h Q q =>
  ha B0 B1 A H0 H σ ρ R X _ h _ fun x v H1 H' R1 g1 r1 h1 => sr H1 H' v x R1.ex r1 Qd h1 Q fun z w H3 H''' g3 r3 h3 => q z w H3 H''' (R1.grow g3) (g1.trans g3) r3 h3
theorem e_op {op : Operator} {r : R2} {rd : D → D → (D → Prop) → Prop} (ho : OpR X (binaryOp op) r) (sr : SimR2 X.K r rd) (ha : JE X Ed E a ta da) (hb : JE X Ed E b tb db) : JE X Ed E (.BinOp a op b pos) (tOp r ta tb) (dOp rd da db) :=
  ⟨pe_op ho ha.pe hb.pe, sim_op sr ha.sim hb.sim⟩
theorem e_un {op : UnaryOp} {r : V → Hp → VK → Prop} {rd : D → (D → Prop) → Prop} (ho : UnR X (unaryOp op) r) (sr : SimR1 X.K r rd) (ha : JE X Ed E a ta da) : JE X Ed E (.UnaryOp op a pos) (tUn r ta) (dUn rd da) :=
  ⟨pe_un ho ha.pe, sim_un sr ha.sim⟩
theorem e_cmp {op : CmpOp} {r : R2} {rd : D → D → (D → Prop) → Prop} (ho : OpR X (compareOp op) r) (sr : SimR2 X.K r rd) (ha : JE X Ed E a ta da) (hb : JE X Ed E b tb db) (hm : behindInMarks op b = false) : JE X Ed E (.Compare a [op] [b] pos) (tOp r ta tb) (dOp rd da db) :=
  ⟨pe_cmpR ho ha.pe hb.pe hm, sim_op sr ha.sim hb.sim⟩
/-- a < b < c -/
def dChain (r r' : D → D → (D → Prop) → Prop) (da db dc : DE) (ρ : Rho) (Q : D → Prop) : Prop := da ρ fun x => db ρ fun y => r x y fun z => match z with
  | .bl true => dc ρ fun u => r' y u Q
  | .bl false => Q (.bl false)
  | _ => False
def dI2 (C : Int → Int → Prop) (g : Int → Int → D) (x y : D) (Q : D → Prop) : Prop := match x, y with
  | .int i, .int j => C i j ∧ Q (g i j)
  | _, _ => False
def dI0 (g : Int → Int → D) (x y : D) (Q : D → Prop) : Prop := match x, y with
  | .int i, .int j => Q (g i j)
  | _, _ => False
def dI1 (g : Int → D) (x : D) (Q : D → Prop) : Prop := match x with
  | .int i => Q (g i)
  | _ => False
theorem s_I {C : Int → Int → Prop} {g : Int → Int → V} {gd : Int → Int → D} (hg : ∀ H i j, Rep K H (gd i j) (g i j)) : SimR2 K (rI C g) (dI2 C gd) := by
  intro H0 H x y dx dy sm rx ry Qd h Q q
  unfold dI2 at h
  split at h
  · rename_i i j
    exact ⟨i, j, rx, ry, h.1, q _ _ H0 H (.refl sm) (hg _ _ _) h.2⟩
  · exact h.elim
theorem s_I0 {g : Int → Int → V} {gd : Int → Int → D} (hg : ∀ H i j, Rep K H (gd i j) (g i j)) : SimR2 K (rI0 g) (dI0 gd) := by
  intro H0 H x y dx dy sm rx ry Qd h Q q
  unfold dI0 at h
  split at h
  · rename_i i j
    exact ⟨i, j, rx, ry, q _ _ H0 H (.refl sm) (hg _ _ _) h⟩
  · exact h.elim
theorem s_U {g : Int → V} {gd : Int → D} (hg : ∀ H i, Rep K H (gd i) (g i)) : SimR1 K (rU g) (dI1 gd) := by
  intro H0 H x dx sm rx Qd h Q q
  unfold dI1 at h
  split at h
  · rename_i i
    exact ⟨i, rx, q _ _ H0 H (.refl sm) (hg _ _) h⟩
  · exact h.elim
/-- + of ints, of texts, of lists -/
def dAdd (x y : D) (Q : D → Prop) : Prop := match x, y with
  | .int i, .int j => Q (.int (i + j))
  | .str i, .str j => i.length + j.length ≤ sizeLine ∧ Q (.str (i ++ j))
  | _, _ => False
abbrev dSub := dI0 fun i j => .int (i - j)
abbrev dMul := dI2 CMul fun i j => .int (i * j)
abbrev dDivW := dI2 CDivW fun i j => .int (i / j)
abbrev dMod := dI2 (fun _ j => 0 < j) fun i j => .int (i % j)
abbrev dPow := dI2 CPow fun i j => .int (i ^ j.toNat)
abbrev dLt := dI0 fun i j => .bl (decide (i < j))
abbrev dGt := dI0 fun i j => .bl (decide (j < i))
abbrev dGe := dI0 fun i j => .bl (decide (j ≤ i))
abbrev dNeg := dI1 fun i => .int (-i)
def rAddP : R2 := fun x y H Q => (rI0 (fun i j => .int (i + j)) x y H Q) ∨ (∃ i j, x = .str i ∧ y = .str j ∧ i.length + j.length ≤ sizeLine ∧ Q (.str (i ++ j)) H)
theorem op_addP : OpR X (binaryOp .Add) rAddP := op_add.or op_add_str
theorem s_addP : SimR2 K rAddP dAdd := by
  intro H0 H x y dx dy sm rx ry Qd h Q q
  unfold dAdd at h
  split at h
  · rename_i i j
    exact .inl ⟨i, j, rx, ry, q (.int (i + j)) _ H0 H (.refl sm) rfl h⟩
  · rename_i i j
    exact .inr ⟨i, j, rx, ry, h.1, q (.str (i ++ j)) _ H0 H (.refl sm) rfl h.2⟩
  · exact h.elim
theorem e_add (ha : JE X Ed E a ta da) (hb : JE X Ed E b tb db) : JE X Ed E (.BinOp a .Add b pos) (tOp rAddP ta tb) (dOp dAdd da db) := e_op op_addP s_addP ha hb
theorem e_sub (ha : JE X Ed E a ta da) (hb : JE X Ed E b tb db) : JE X Ed E (.BinOp a .Sub b pos) (tOp (rI0 fun i j => .int (i - j)) ta tb) (dOp dSub da db) := e_op op_sub (s_I0 fun _ _ _ => rfl) ha hb
theorem e_mul (ha : JE X Ed E a ta da) (hb : JE X Ed E b tb db) : JE X Ed E (.BinOp a .Mult b pos) (tOp (rI CMul fun i j => .int (i * j)) ta tb) (dOp dMul da db) := e_op op_mul (s_I fun _ _ _ => rfl) ha hb
theorem e_div (ha : JE X Ed E a ta da) (hb : JE X Ed E b tb db) : JE X Ed E (.BinOp a .FloorDiv b pos) (tOp (rI CDivW fun i j => .int (i / j)) ta tb) (dOp dDivW da db) := e_op op_fdivW (s_I fun _ _ _ => rfl) ha hb
theorem e_mod (ha : JE X Ed E a ta da) (hb : JE X Ed E b tb db) : JE X Ed E (.BinOp a .Mod b pos) (tOp (rI (fun _ j => 0 < j) fun i j => .int (i % j)) ta tb) (dOp dMod da db) := e_op op_mod (s_I fun _ _ _ => rfl) ha hb
theorem e_pow (ha : JE X Ed E a ta da) (hb : JE X Ed E b tb db) : JE X Ed E (.BinOp a .Pow b pos) (tOp (rI CPow fun i j => .int (i ^ j.toNat)) ta tb) (dOp dPow da db) := e_op op_pow (s_I fun _ _ _ => rfl) ha hb
theorem e_neg (ha : JE X Ed E a ta da) : JE X Ed E (.UnaryOp .USub a pos) (tUn (rU fun i => .int (-i)) ta) (dUn dNeg da) := e_un un_neg (s_U fun _ _ => rfl) ha
mutual
/-- None, bools, ints, texts, lists, tuples of these, at most n deep -/
def D.isData : Nat → D → Bool
  | _, .non => true
  | _, .bl _ => true
  | _, .int _ => true
  | _, .str _ => true
  | n + 1, .tup xs => allData n xs
  | n + 1, .lst xs => allData n xs
  | _, _ => false
def allData : Nat → List D → Bool
  | _, [] => true
  | n, x :: xs => x.isData n && allData n xs
end
def b2z (b : Bool) : Int := if b then 1 else 0
mutual
def deq : D → D → Bool
  | .non, .non => true
  | .bl a, .bl b => a == b
  | .bl a, .int j => b2z a == j
  | .int i, .bl b => i == b2z b
  | .int i, .int j => i == j
  | .str x, .str y => x == y
  | .tup xs, .tup ys => deqs xs ys
  | .lst xs, .lst ys => deqs xs ys
  | _, _ => false
def deqs : List D → List D → Bool
  | [], [] => true
  | x :: xs, y :: ys => deq x y && deqs xs ys
  | _, _ => false
end
def deqAt (xs ys : List D) (j : Nat) : Bool := match xs[j]?, ys[j]? with
  | some a, some b => deq a b
  | _, _ => true
theorem deqs_pairs : ∀ xs ys : List D, ((List.range (min xs.length ys.length)).all (deqAt xs ys) && xs.length == ys.length) = deqs xs ys
  | [], [] => by simp [deqs]
  | [], _ :: _ => by simp [deqs]
  | _ :: _, [] => by simp [deqs]
  | x :: xs, y :: ys => by
    have ih := deqs_pairs xs ys
    rw [List.length_cons, List.length_cons, Nat.add_min_add_right, List.range_succ_eq_map, List.all_cons, List.all_map]
    have e : (deqAt (x :: xs) (y :: ys) ∘ Nat.succ) = deqAt xs ys := by
      funext j
      simp [deqAt]
    have e2 : (xs.length + 1 == ys.length + 1) = (xs.length == ys.length) := by simp
    rw [e, e2, Bool.and_assoc, ih]
    simp [deqAt, deqs]
theorem deqs_len {xs ys : List D} (h : xs.length = ys.length) : (List.range xs.length).all (deqAt xs ys) = deqs xs ys := by
  have e := deqs_pairs xs ys
  rw [h, Nat.min_self] at e
  rw [h]
  simpa using e
theorem deqs_other {xs ys : List D} (h : xs.length ≠ ys.length) : deqs xs ys = false := by
  rw [← deqs_pairs]
  simp [h]
mutual
theorem deq_refl : ∀ (n : Nat) (x : D), x.isData n = true → deq x x = true
  | _, .non, _ => rfl
  | _, .bl b, _ => by simp [deq]
  | _, .int _, _ => by simp [deq]
  | _, .str _, _ => by simp [deq]
  | n + 1, .tup xs, h => deqs_refl n xs h
  | n + 1, .lst xs, h => deqs_refl n xs h
  | 0, .tup xs, h => by simp [D.isData] at h
  | 0, .lst xs, h => by simp [D.isData] at h
  | n, .ty _, h => by simp [D.isData] at h
  | n, .cls _, h => by simp [D.isData] at h
  | n, .ins _ _, h => by simp [D.isData] at h
  | n, .bag, h => by simp [D.isData] at h
  | n, .lat _ _, h => by simp [D.isData] at h
  | n, .dk _, h => by simp [D.isData] at h
  | n, .dt _ _, h => by simp [D.isData] at h
theorem deqs_refl : ∀ (n : Nat) (xs : List D), allData n xs = true → deqs xs xs = true
  | _, [], _ => rfl
  | n, x :: xs, h => by
    obtain ⟨h1, h2⟩ := Bool.and_eq_true_iff.mp (show (x.isData n && allData n xs) = true from h)
    show (deq x x && deqs xs xs) = true
    rw [deq_refl n x h1, deqs_refl n xs h2]
    rfl
end
end
section
variable {X : Cx} {pins : List (Addr × Obj)} {σ : L2.St} {H : Hp} {s : Shared}
theorem list_not_tuple {a : Addr} {xs ys : List V} (I : Inv X pins σ H s) (h : SqL X.K H a xs) (h' : SqT X.K H a ys) : False := by
  obtain ⟨its, r, ⟨o, n, e, hc, _, d⟩, _⟩ := I.list h
  obtain ⟨its', r', ⟨o', e', hc', _⟩, _⟩ := I.tuple h'
  rw [e] at e'
  cases e'
  rw [hc] at hc'
  simp at hc'
mutual
/-- a value stands for one datum -/
theorem Rep.inj (I : Inv X pins σ H s) : ∀ (n : Nat) (x y : D) (v : V), x.isData n = true → y.isData n = true → Rep X.K H x v → Rep X.K H y v → x = y
  | n, .non, y, v, hx, hy, rx, ry => by
    cases (show v = _ from rx)
    cases y <;> first | rfl | (simp [Rep] at ry) | (simp [D.isData] at hy)
  | n, .bl b, y, v, hx, hy, rx, ry => by
    cases (show v = _ from rx)
    cases y <;> first | (simp [Rep] at ry; subst ry; rfl) | (simp [Rep] at ry) | (simp [D.isData] at hy)
  | n, .int b, y, v, hx, hy, rx, ry => by
    cases (show v = _ from rx)
    cases y <;> first | (simp [Rep] at ry; subst ry; rfl) | (simp [Rep] at ry) | (simp [D.isData] at hy)
  | n, .str b, y, v, hx, hy, rx, ry => by
    cases (show v = _ from rx)
    cases y <;> first | (simp [Rep] at ry; subst ry; rfl) | (simp [Rep] at ry) | (simp [D.isData] at hy)
  | n + 1, .tup xs, y, v, hx, hy, ⟨a, vs, e1, h1, r1⟩, ry => by
    subst e1
    cases y with
    | tup ys =>
      obtain ⟨b, us, e2, h2, r2⟩ := ry
      cases e2
      have e := I.tuple_inj h1 h2
      subst e
      exact congrArg D.tup (Reps.inj I n xs ys vs hx hy r1 r2)
    | lst ys =>
      obtain ⟨b, us, e2, h2, r2⟩ := ry
      cases e2
      exact (list_not_tuple I h2 h1).elim
    | _ => first | (simp [Rep] at ry; done) | (simp [D.isData] at hy)
  | n + 1, .lst xs, y, v, hx, hy, ⟨a, vs, e1, h1, r1⟩, ry => by
    subst e1
    cases y with
    | lst ys =>
      obtain ⟨b, us, e2, h2, r2⟩ := ry
      cases e2
      have e := I.list_inj h1 h2
      subst e
      exact congrArg D.lst (Reps.inj I n xs ys vs hx hy r1 r2)
    | tup ys =>
      obtain ⟨b, us, e2, h2, r2⟩ := ry
      cases e2
      exact (list_not_tuple I h1 h2).elim
    | _ => first | (simp [Rep] at ry; done) | (simp [D.isData] at hy)
  | 0, .tup xs, _, _, h, _, _, _ => by simp [D.isData] at h
  | 0, .lst xs, _, _, h, _, _, _ => by simp [D.isData] at h
  | n, .ty _, _, _, h, _, _, _ => by simp [D.isData] at h
  | n, .cls _, _, _, h, _, _, _ => by simp [D.isData] at h
  | n, .ins _ _, _, _, h, _, _, _ => by simp [D.isData] at h
  | n, .bag, _, _, h, _, _, _ => by simp [D.isData] at h
  | n, .lat _ _, _, _, h, _, _, _ => by simp [D.isData] at h
  | n, .dk _, _, _, h, _, _, _ => by simp [D.isData] at h
  | n, .dt _ _, _, _, h, _, _, _ => by simp [D.isData] at h
theorem Reps.inj (I : Inv X pins σ H s) : ∀ (n : Nat) (xs ys : List D) (vs : List V), allData n xs = true → allData n ys = true → Reps X.K H xs vs → Reps X.K H ys vs → xs = ys
  | _, [], ys, vs, _, _, rx, ry => by
    cases (show vs = _ from rx)
    cases ys with
    | nil => rfl
    | cons y ys =>
      obtain ⟨v, r, e, _⟩ := ry
      cases e
  | n, x :: xs, ys, vs, hx, hy, ⟨v, r, e, r1, r2⟩, ry => by
    subst e
    cases ys with
    | nil => cases (show _ = _ from ry)
    | cons y ys =>
      obtain ⟨u, r', e, q1, q2⟩ := ry
      cases e
      obtain ⟨h1, h2⟩ := Bool.and_eq_true_iff.mp (show (x.isData n && allData n xs) = true from hx)
      obtain ⟨h3, h4⟩ := Bool.and_eq_true_iff.mp (show (y.isData n && allData n ys) = true from hy)
      rw [Rep.inj I n x y v h1 h3 r1 q1, Reps.inj I n xs ys r h2 h4 r2 q2]
end
end
end DL
namespace DL
variable [TbC]
open PySem PySem.Spec PyProof.Rows L2
section
variable {X : Cx} {pins : List (Addr × Obj)} {σ : L2.St} {H : Hp} {s : Shared}
theorem room_of {A : Around} {n : Nat} (h : A.units + n < cLine) : A.units < cLine := by omega
theorem room_in1 {A : Around} {n : Nat} (h : A.units + (n + 1) < cLine) : A.in1.units + n < cLine := by
  show A.units + 1 + n < cLine
  omega
mutual
theorem deq_at (I : Inv X pins σ H s) : ∀ (n : Nat) (x y : D) (a b : V) (u v : Value) (A : Around), x.isData n = true → y.isData n = true → Rep X.K H x a → Rep X.K H y b → RelV a u → RelV b v → A.units + n < cLine → SeqAt.EqAt A s u v (deq x y)
  | n, .tup xs, y, a, b, u, v, A, hx, hy, rx, ry, ra, rb, hu => by
    cases n with
    | zero => simp [D.isData] at hx
    | succ n =>
    obtain ⟨l, vs, e1, h1, r1⟩ := rx
    subst e1
    cases (show u = _ from ra)
    obtain ⟨its, w1, p1, z1⟩ := I.tuple h1
    have n1 : its.toArray.size = xs.length := by rw [← r1.length, w1.length]; simp
    cases y with
    | non => subst ry; cases rb; exact .tuple_none p1 (room_of hu)
    | bl k => subst ry; cases rb; exact .tuple_bool k p1 (room_of hu)
    | int k => subst ry; obtain ⟨t, rfl⟩ := rb; exact .tuple_int k t p1 (room_of hu)
    | str k => subst ry; obtain ⟨t, rfl⟩ := rb; exact .tuple_str k t p1 (room_of hu)
    | lst ys =>
      obtain ⟨l', us, e2, h2, r2⟩ := ry
      subst e2
      cases (show v = _ from rb)
      obtain ⟨jts, w2, p2, z2⟩ := I.list h2
      exact .tuple_list p1 p2.isList (room_of hu)
    | tup ys =>
      obtain ⟨l', us, e2, h2, r2⟩ := ry
      subst e2
      cases (show v = _ from rb)
      obtain ⟨jts, w2, p2, z2⟩ := I.tuple h2
      have n2 : jts.toArray.size = ys.length := by rw [← r2.length, w2.length]; simp
      by_cases hll : l = l'
      · subst hll
        have e := I.tuple_inj h1 h2
        subst e
        have e := Reps.inj I n xs ys vs hx hy r1 r2
        subst e
        rw [show deq (.tup xs) (.tup xs) = true from deq_refl (n + 1) (.tup xs) hx]
        exact .same _
      · show SeqAt.EqAt A s _ _ (deqs xs ys)
        rw [← deqs_pairs xs ys, ← n1, ← n2]
        refine .of_refs hll (.tuples p1 p2 (room_of hu) fun j j1 j2 => ?_)
        have q := deqs_at I n xs ys vs us its jts A.in1 hx hy r1 r2 w1 w2 (room_in1 hu) j (by simpa using j1) (by simpa using j2)
        simpa using q
    | _ => simp [D.isData] at hy
  | n, .lst xs, y, a, b, u, v, A, hx, hy, rx, ry, ra, rb, hu => by
    cases n with
    | zero => simp [D.isData] at hx
    | succ n =>
    obtain ⟨l, vs, e1, h1, r1⟩ := rx
    subst e1
    cases (show u = _ from ra)
    obtain ⟨its, w1, p1, z1⟩ := I.list h1
    have n1 : its.toArray.size = xs.length := by rw [← r1.length, w1.length]; simp
    cases y with
    | non => subst ry; cases rb; exact .list_none p1.isList (room_of hu)
    | bl k => subst ry; cases rb; exact .list_bool k p1.isList (room_of hu)
    | int k => subst ry; obtain ⟨t, rfl⟩ := rb; exact .list_int k t p1.isList (room_of hu)
    | str k => subst ry; obtain ⟨t, rfl⟩ := rb; exact .list_str k t p1.isList (room_of hu)
    | tup ys =>
      obtain ⟨l', us, e2, h2, r2⟩ := ry
      subst e2
      cases (show v = _ from rb)
      obtain ⟨jts, w2, p2, z2⟩ := I.tuple h2
      exact .list_tuple p1.isList p2 (room_of hu)
    | lst ys =>
      obtain ⟨l', us, e2, h2, r2⟩ := ry
      subst e2
      cases (show v = _ from rb)
      obtain ⟨jts, w2, p2, z2⟩ := I.list h2
      have n2 : jts.toArray.size = ys.length := by rw [← r2.length, w2.length]; simp
      by_cases hll : l = l'
      · subst hll
        have e := I.list_inj h1 h2
        subst e
        have e := Reps.inj I n xs ys vs hx hy r1 r2
        subst e
        rw [show deq (.lst xs) (.lst xs) = true from deq_refl (n + 1) (.lst xs) hx]
        exact .same _
      · show SeqAt.EqAt A s _ _ (deqs xs ys)
        by_cases hsz : xs.length = ys.length
        · rw [← deqs_len hsz, ← n1]
          refine .of_refs hll (.lists p1.isList p2.isList (by omega) (room_of hu) fun j j1 j2 => ?_)
          have q := deqs_at I n xs ys vs us its jts A.in1 hx hy r1 r2 w1 w2 (room_in1 hu) j (by simpa using j1) (by simpa using j2)
          simpa using q
        · rw [deqs_other hsz]
          exact .of_refs hll (.lists_lengths p1.isList p2.isList (by rw [n1, n2]; simpa using hsz) (room_of hu))
    | _ => simp [D.isData] at hy
  | n, .non, y, a, b, u, v, A, hx, hy, rx, ry, ra, rb, hu => by
    subst rx
    cases ra
    cases y with
    | non => subst ry; cases rb; exact .same _
    | bl k => subst ry; cases rb; exact .none_bool k
    | int k => subst ry; obtain ⟨t, rfl⟩ := rb; exact .none_int k t
    | str k => subst ry; obtain ⟨t, rfl⟩ := rb; exact .none_str k t
    | tup ys =>
      obtain ⟨l', us, e2, h2, r2⟩ := ry
      subst e2
      cases (show v = _ from rb)
      obtain ⟨jts, w2, p2, z2⟩ := I.tuple h2
      exact .none_tuple p2 (room_of hu)
    | lst ys =>
      obtain ⟨l', us, e2, h2, r2⟩ := ry
      subst e2
      cases (show v = _ from rb)
      obtain ⟨jts, w2, p2, z2⟩ := I.list h2
      exact .none_list p2.isList (room_of hu)
    | _ => simp [D.isData] at hy
  | n, .bl i, y, a, b, u, v, A, hx, hy, rx, ry, ra, rb, hu => by
    subst rx
    cases ra
    cases y with
    | non => subst ry; cases rb; exact .bool_none i
    | bl k => subst ry; cases rb; exact .bool_bool i k
    | int k => subst ry; obtain ⟨t, rfl⟩ := rb; exact .bool_int i k t
    | str k => subst ry; obtain ⟨t, rfl⟩ := rb; exact .bool_str i k t
    | tup ys =>
      obtain ⟨l', us, e2, h2, r2⟩ := ry
      subst e2
      cases (show v = _ from rb)
      obtain ⟨jts, w2, p2, z2⟩ := I.tuple h2
      exact .bool_tuple i p2 (room_of hu)
    | lst ys =>
      obtain ⟨l', us, e2, h2, r2⟩ := ry
      subst e2
      cases (show v = _ from rb)
      obtain ⟨jts, w2, p2, z2⟩ := I.list h2
      exact .bool_list i p2.isList (room_of hu)
    | _ => simp [D.isData] at hy
  | n, .int i, y, a, b, u, v, A, hx, hy, rx, ry, ra, rb, hu => by
    subst rx
    obtain ⟨t0, rfl⟩ := ra
    cases y with
    | non => subst ry; cases rb; exact .int_none i t0
    | bl k => subst ry; cases rb; exact .int_bool i t0 k
    | int k => subst ry; obtain ⟨t, rfl⟩ := rb; exact .int_int i t0 k t
    | str k => subst ry; obtain ⟨t, rfl⟩ := rb; exact .int_str i t0 k t
    | tup ys =>
      obtain ⟨l', us, e2, h2, r2⟩ := ry
      subst e2
      cases (show v = _ from rb)
      obtain ⟨jts, w2, p2, z2⟩ := I.tuple h2
      exact .int_tuple i t0 p2 (room_of hu)
    | lst ys =>
      obtain ⟨l', us, e2, h2, r2⟩ := ry
      subst e2
      cases (show v = _ from rb)
      obtain ⟨jts, w2, p2, z2⟩ := I.list h2
      exact .int_list i t0 p2.isList (room_of hu)
    | _ => simp [D.isData] at hy
  | n, .str i, y, a, b, u, v, A, hx, hy, rx, ry, ra, rb, hu => by
    subst rx
    obtain ⟨t0, rfl⟩ := ra
    cases y with
    | non => subst ry; cases rb; exact .str_none i t0
    | bl k => subst ry; cases rb; exact .str_bool i t0 k
    | int k => subst ry; obtain ⟨t, rfl⟩ := rb; exact .str_int i t0 k t
    | str k => subst ry; obtain ⟨t, rfl⟩ := rb; exact .str_str i t0 k t
    | tup ys =>
      obtain ⟨l', us, e2, h2, r2⟩ := ry
      subst e2
      cases (show v = _ from rb)
      obtain ⟨jts, w2, p2, z2⟩ := I.tuple h2
      exact .str_tuple i t0 p2 (room_of hu)
    | lst ys =>
      obtain ⟨l', us, e2, h2, r2⟩ := ry
      subst e2
      cases (show v = _ from rb)
      obtain ⟨jts, w2, p2, z2⟩ := I.list h2
      exact .str_list i t0 p2.isList (room_of hu)
    | _ => simp [D.isData] at hy
  | n, .ty _, _, _, _, _, _, _, h, _, _, _, _, _, _ => by simp [D.isData] at h
  | n, .cls _, _, _, _, _, _, _, h, _, _, _, _, _, _ => by simp [D.isData] at h
  | n, .ins _ _, _, _, _, _, _, _, h, _, _, _, _, _, _ => by simp [D.isData] at h
  | n, .bag, _, _, _, _, _, _, h, _, _, _, _, _, _ => by simp [D.isData] at h
  | n, .lat _ _, _, _, _, _, _, _, h, _, _, _, _, _, _ => by simp [D.isData] at h
  | n, .dk _, _, _, _, _, _, _, h, _, _, _, _, _, _ => by simp [D.isData] at h
  | n, .dt _ _, _, _, _, _, _, _, h, _, _, _, _, _, _ => by simp [D.isData] at h
theorem deqs_at (I : Inv X pins σ H s) : ∀ (n : Nat) (xs ys : List D) (as bs : List V) (us vs : List Value) (A : Around), allData n xs = true → allData n ys = true → Reps X.K H xs as → Reps X.K H ys bs → Vals as us → Vals bs vs → A.units + n < cLine →
    ∀ (j : Nat) (h1 : j < us.length) (h2 : j < vs.length), SeqAt.EqAt A s us[j] vs[j] (deqAt xs ys j)
  | _, [], _, _, _, us, _, _, _, _, rx, _, ra, _, _, j, h1, _ => by
    cases (show _ = _ from rx)
    cases ra
    exact absurd h1 (Nat.not_lt_zero _)
  | _, _ :: _, [], _, _, _, vs, _, _, _, _, ry, _, rb, _, j, _, h2 => by
    cases (show _ = _ from ry)
    cases rb
    exact absurd h2 (Nat.not_lt_zero _)
  | n, x :: xs, y :: ys, _, _, _, _, A, hx, hy, ⟨a, as, e1, r1, rr1⟩, ⟨b, bs, e2, r2, rr2⟩, ra, rb, hu, j, h1, h2 => by
    subst e1 e2
    obtain ⟨k1, k2⟩ := Bool.and_eq_true_iff.mp (show (x.isData n && allData n xs) = true from hx)
    obtain ⟨k3, k4⟩ := Bool.and_eq_true_iff.mp (show (y.isData n && allData n ys) = true from hy)
    cases ra with
    | cons p ps =>
      cases rb with
      | cons q qs =>
        cases j with
        | zero => exact deq_at I n x y a b _ _ A k1 k3 r1 r2 p q hu
        | succ j => exact deqs_at I n xs ys as bs _ _ A k2 k4 rr1 rr2 ps qs hu j (Nat.lt_of_succ_lt_succ h1) (Nat.lt_of_succ_lt_succ h2)
end
theorem rc_at (I : Inv X pins σ H s) {n : Nat} {x y : D} {a b : V} {u v : Value} {A : Around} (hx : x.isData n = true) (hy : y.isData n = true) (rx : Rep X.K H x a) (ry : Rep X.K H y b) (ra : RelV a u) (rb : RelV b v) (hu : A.units + n < cLine) : SeqAt.RcAt A s u v (deq x y) := by
  cases x with
  | non =>
    subst rx
    cases ra
    cases y with
    | non => subst ry; cases rb; exact .none_none 
    | bl k => subst ry; cases rb; exact .none_bool k
    | int k => subst ry; obtain ⟨t, rfl⟩ := rb; exact .none_int k t
    | str k => subst ry; obtain ⟨t, rfl⟩ := rb; exact .none_str k t
    | tup ys =>
      obtain ⟨l2, us, e2, h2, r2⟩ := ry
      subst e2
      cases (show v = _ from rb)
      obtain ⟨jts, w2, p2, z2⟩ := I.tuple h2
      exact .none_tuple p2 (room_of hu)
    | lst ys =>
      obtain ⟨l2, us, e2, h2, r2⟩ := ry
      subst e2
      cases (show v = _ from rb)
      obtain ⟨jts, w2, p2, z2⟩ := I.list h2
      exact .none_list p2.isList (room_of hu)
    | _ => simp [D.isData] at hy
  | bl i =>
    subst rx
    cases ra
    cases y with
    | non => subst ry; cases rb; exact .bool_none i
    | bl k => subst ry; cases rb; exact .bool_bool i k
    | int k => subst ry; obtain ⟨t, rfl⟩ := rb; exact .bool_int i k t
    | str k => subst ry; obtain ⟨t, rfl⟩ := rb; exact .bool_str i k t
    | tup ys =>
      obtain ⟨l2, us, e2, h2, r2⟩ := ry
      subst e2
      cases (show v = _ from rb)
      obtain ⟨jts, w2, p2, z2⟩ := I.tuple h2
      exact .bool_tuple i p2 (room_of hu)
    | lst ys =>
      obtain ⟨l2, us, e2, h2, r2⟩ := ry
      subst e2
      cases (show v = _ from rb)
      obtain ⟨jts, w2, p2, z2⟩ := I.list h2
      exact .bool_list i p2.isList (room_of hu)
    | _ => simp [D.isData] at hy
  | int i =>
    subst rx
    obtain ⟨t0, rfl⟩ := ra
    cases y with
    | non => subst ry; cases rb; exact .int_none i t0
    | bl k => subst ry; cases rb; exact .int_bool i t0 k
    | int k => subst ry; obtain ⟨t, rfl⟩ := rb; exact .int_int i t0 k t
    | str k => subst ry; obtain ⟨t, rfl⟩ := rb; exact .int_str i t0 k t
    | tup ys =>
      obtain ⟨l2, us, e2, h2, r2⟩ := ry
      subst e2
      cases (show v = _ from rb)
      obtain ⟨jts, w2, p2, z2⟩ := I.tuple h2
      exact .int_tuple i t0 p2 (room_of hu)
    | lst ys =>
      obtain ⟨l2, us, e2, h2, r2⟩ := ry
      subst e2
      cases (show v = _ from rb)
      obtain ⟨jts, w2, p2, z2⟩ := I.list h2
      exact .int_list i t0 p2.isList (room_of hu)
    | _ => simp [D.isData] at hy
  | str i =>
    subst rx
    obtain ⟨t0, rfl⟩ := ra
    cases y with
    | non => subst ry; cases rb; exact .str_none i t0
    | bl k => subst ry; cases rb; exact .str_bool i t0 k
    | int k => subst ry; obtain ⟨t, rfl⟩ := rb; exact .str_int i t0 k t
    | str k => subst ry; obtain ⟨t, rfl⟩ := rb; exact .str_str i t0 k t
    | tup ys =>
      obtain ⟨l2, us, e2, h2, r2⟩ := ry
      subst e2
      cases (show v = _ from rb)
      obtain ⟨jts, w2, p2, z2⟩ := I.tuple h2
      exact .str_tuple i t0 p2 (room_of hu)
    | lst ys =>
      obtain ⟨l2, us, e2, h2, r2⟩ := ry
      subst e2
      cases (show v = _ from rb)
      obtain ⟨jts, w2, p2, z2⟩ := I.list h2
      exact .str_list i t0 p2.isList (room_of hu)
    | _ => simp [D.isData] at hy
  | tup xs =>
    cases n with
    | zero => simp [D.isData] at hx
    | succ n =>
    obtain ⟨l, vs, e1, h1, r1⟩ := rx
    subst e1
    cases (show u = _ from ra)
    obtain ⟨its, w1, p1, z1⟩ := I.tuple h1
    have n1 : its.toArray.size = xs.length := by rw [← r1.length, w1.length]; simp
    cases y with
    | non => subst ry; cases rb; exact .tuple_none p1 (room_of hu)
    | bl k => subst ry; cases rb; exact .tuple_bool k p1 (room_of hu)
    | int k => subst ry; obtain ⟨t, rfl⟩ := rb; exact .tuple_int k t p1 (room_of hu)
    | str k => subst ry; obtain ⟨t, rfl⟩ := rb; exact .tuple_str k t p1 (room_of hu)
    | tup ys =>
      obtain ⟨l2, us, e2, h2, r2⟩ := ry
      subst e2
      cases (show v = _ from rb)
      obtain ⟨jts, w2, p2, z2⟩ := I.tuple h2
      have n2 : jts.toArray.size = ys.length := by rw [← r2.length, w2.length]; simp
      have he : ∀ (j : Nat) (j1 : j < its.toArray.size) (j2 : j < jts.toArray.size), SeqAt.EqAt A.in1 s its.toArray[j] jts.toArray[j] (deqAt xs ys j) := fun j j1 j2 => by
        have q := deqs_at I n xs ys vs us its jts A.in1 hx hy r1 r2 w1 w2 (room_in1 hu) j (by simpa using j1) (by simpa using j2)
        simpa using q
      show SeqAt.RcAt A s _ _ (deqs xs ys)
      rw [← deqs_pairs xs ys, ← n1, ← n2]
      exact .tuples p1 p2 (room_of hu) he
    | lst ys =>
      obtain ⟨l2, us, e2, h2, r2⟩ := ry
      subst e2
      cases (show v = _ from rb)
      obtain ⟨jts, w2, p2, z2⟩ := I.list h2
      exact .tuple_list p1 p2.isList (room_of hu)
    | _ => simp [D.isData] at hy
  | lst xs =>
    cases n with
    | zero => simp [D.isData] at hx
    | succ n =>
    obtain ⟨l, vs, e1, h1, r1⟩ := rx
    subst e1
    cases (show u = _ from ra)
    obtain ⟨its, w1, p1, z1⟩ := I.list h1
    have n1 : its.toArray.size = xs.length := by rw [← r1.length, w1.length]; simp
    cases y with
    | non => subst ry; cases rb; exact .list_none p1.isList (room_of hu)
    | bl k => subst ry; cases rb; exact .list_bool k p1.isList (room_of hu)
    | int k => subst ry; obtain ⟨t, rfl⟩ := rb; exact .list_int k t p1.isList (room_of hu)
    | str k => subst ry; obtain ⟨t, rfl⟩ := rb; exact .list_str k t p1.isList (room_of hu)
    | tup ys =>
      obtain ⟨l2, us, e2, h2, r2⟩ := ry
      subst e2
      cases (show v = _ from rb)
      obtain ⟨jts, w2, p2, z2⟩ := I.tuple h2
      exact .list_tuple p1.isList p2 (room_of hu)
    | lst ys =>
      obtain ⟨l2, us, e2, h2, r2⟩ := ry
      subst e2
      cases (show v = _ from rb)
      obtain ⟨jts, w2, p2, z2⟩ := I.list h2
      have n2 : jts.toArray.size = ys.length := by rw [← r2.length, w2.length]; simp
      have he : ∀ (j : Nat) (j1 : j < its.toArray.size) (j2 : j < jts.toArray.size), SeqAt.EqAt A.in1 s its.toArray[j] jts.toArray[j] (deqAt xs ys j) := fun j j1 j2 => by
        have q := deqs_at I n xs ys vs us its jts A.in1 hx hy r1 r2 w1 w2 (room_in1 hu) j (by simpa using j1) (by simpa using j2)
        simpa using q
      show SeqAt.RcAt A s _ _ (deqs xs ys)
      by_cases hsz : xs.length = ys.length
      · rw [← deqs_len hsz, ← n1]
        exact .lists p1.isList p2.isList (by omega) (room_of hu) he
      · rw [deqs_other hsz]
        exact .lists_lengths p1.isList p2.isList (by rw [n1, n2]; simpa using hsz) (room_of hu)
    | _ => simp [D.isData] at hy
  | _ => simp [D.isData] at hx
theorem rcne_at (I : Inv X pins σ H s) {n : Nat} {x y : D} {a b : V} {u v : Value} {A : Around} (hx : x.isData n = true) (hy : y.isData n = true) (rx : Rep X.K H x a) (ry : Rep X.K H y b) (ra : RelV a u) (rb : RelV b v) (hu : A.units + n < cLine) : SeqAt.RcNeAt A s u v (!deq x y) := by
  cases x with
  | non =>
    subst rx
    cases ra
    cases y with
    | non => subst ry; cases rb; exact .none_none 
    | bl k => subst ry; cases rb; exact .none_bool k
    | int k => subst ry; obtain ⟨t, rfl⟩ := rb; exact .none_int k t
    | str k => subst ry; obtain ⟨t, rfl⟩ := rb; exact .none_str k t
    | tup ys =>
      obtain ⟨l2, us, e2, h2, r2⟩ := ry
      subst e2
      cases (show v = _ from rb)
      obtain ⟨jts, w2, p2, z2⟩ := I.tuple h2
      exact .none_tuple p2 (room_of hu)
    | lst ys =>
      obtain ⟨l2, us, e2, h2, r2⟩ := ry
      subst e2
      cases (show v = _ from rb)
      obtain ⟨jts, w2, p2, z2⟩ := I.list h2
      exact .none_list p2.isList (room_of hu)
    | _ => simp [D.isData] at hy
  | bl i =>
    subst rx
    cases ra
    cases y with
    | non => subst ry; cases rb; exact .bool_none i
    | bl k => subst ry; cases rb; exact .bool_bool i k
    | int k => subst ry; obtain ⟨t, rfl⟩ := rb; exact .bool_int i k t
    | str k => subst ry; obtain ⟨t, rfl⟩ := rb; exact .bool_str i k t
    | tup ys =>
      obtain ⟨l2, us, e2, h2, r2⟩ := ry
      subst e2
      cases (show v = _ from rb)
      obtain ⟨jts, w2, p2, z2⟩ := I.tuple h2
      exact .bool_tuple i p2 (room_of hu)
    | lst ys =>
      obtain ⟨l2, us, e2, h2, r2⟩ := ry
      subst e2
      cases (show v = _ from rb)
      obtain ⟨jts, w2, p2, z2⟩ := I.list h2
      exact .bool_list i p2.isList (room_of hu)
    | _ => simp [D.isData] at hy
  | int i =>
    subst rx
    obtain ⟨t0, rfl⟩ := ra
    cases y with
    | non => subst ry; cases rb; exact .int_none i t0
    | bl k => subst ry; cases rb; exact .int_bool i t0 k
    | int k => subst ry; obtain ⟨t, rfl⟩ := rb; exact .int_int i t0 k t
    | str k => subst ry; obtain ⟨t, rfl⟩ := rb; exact .int_str i t0 k t
    | tup ys =>
      obtain ⟨l2, us, e2, h2, r2⟩ := ry
      subst e2
      cases (show v = _ from rb)
      obtain ⟨jts, w2, p2, z2⟩ := I.tuple h2
      exact .int_tuple i t0 p2 (room_of hu)
    | lst ys =>
      obtain ⟨l2, us, e2, h2, r2⟩ := ry
      subst e2
      cases (show v = _ from rb)
      obtain ⟨jts, w2, p2, z2⟩ := I.list h2
      exact .int_list i t0 p2.isList (room_of hu)
    | _ => simp [D.isData] at hy
  | str i =>
    subst rx
    obtain ⟨t0, rfl⟩ := ra
    cases y with
    | non => subst ry; cases rb; exact .str_none i t0
    | bl k => subst ry; cases rb; exact .str_bool i t0 k
    | int k => subst ry; obtain ⟨t, rfl⟩ := rb; exact .str_int i t0 k t
    | str k => subst ry; obtain ⟨t, rfl⟩ := rb; exact .str_str i t0 k t
    | tup ys =>
      obtain ⟨l2, us, e2, h2, r2⟩ := ry
      subst e2
      cases (show v = _ from rb)
      obtain ⟨jts, w2, p2, z2⟩ := I.tuple h2
      exact .str_tuple i t0 p2 (room_of hu)
    | lst ys =>
      obtain ⟨l2, us, e2, h2, r2⟩ := ry
      subst e2
      cases (show v = _ from rb)
      obtain ⟨jts, w2, p2, z2⟩ := I.list h2
      exact .str_list i t0 p2.isList (room_of hu)
    | _ => simp [D.isData] at hy
  | tup xs =>
    cases n with
    | zero => simp [D.isData] at hx
    | succ n =>
    obtain ⟨l, vs, e1, h1, r1⟩ := rx
    subst e1
    cases (show u = _ from ra)
    obtain ⟨its, w1, p1, z1⟩ := I.tuple h1
    have n1 : its.toArray.size = xs.length := by rw [← r1.length, w1.length]; simp
    cases y with
    | non => subst ry; cases rb; exact .tuple_none p1 (room_of hu)
    | bl k => subst ry; cases rb; exact .tuple_bool k p1 (room_of hu)
    | int k => subst ry; obtain ⟨t, rfl⟩ := rb; exact .tuple_int k t p1 (room_of hu)
    | str k => subst ry; obtain ⟨t, rfl⟩ := rb; exact .tuple_str k t p1 (room_of hu)
    | tup ys =>
      obtain ⟨l2, us, e2, h2, r2⟩ := ry
      subst e2
      cases (show v = _ from rb)
      obtain ⟨jts, w2, p2, z2⟩ := I.tuple h2
      have n2 : jts.toArray.size = ys.length := by rw [← r2.length, w2.length]; simp
      have he : ∀ (j : Nat) (j1 : j < its.toArray.size) (j2 : j < jts.toArray.size), SeqAt.EqAt A.in1 s its.toArray[j] jts.toArray[j] (deqAt xs ys j) := fun j j1 j2 => by
        have q := deqs_at I n xs ys vs us its jts A.in1 hx hy r1 r2 w1 w2 (room_in1 hu) j (by simpa using j1) (by simpa using j2)
        simpa using q
      show SeqAt.RcNeAt A s _ _ (!deqs xs ys)
      rw [← deqs_pairs xs ys, ← n1, ← n2]
      exact .tuples p1 p2 (room_of hu) he
    | lst ys =>
      obtain ⟨l2, us, e2, h2, r2⟩ := ry
      subst e2
      cases (show v = _ from rb)
      obtain ⟨jts, w2, p2, z2⟩ := I.list h2
      exact .tuple_list p1 p2.isList (room_of hu)
    | _ => simp [D.isData] at hy
  | lst xs =>
    cases n with
    | zero => simp [D.isData] at hx
    | succ n =>
    obtain ⟨l, vs, e1, h1, r1⟩ := rx
    subst e1
    cases (show u = _ from ra)
    obtain ⟨its, w1, p1, z1⟩ := I.list h1
    have n1 : its.toArray.size = xs.length := by rw [← r1.length, w1.length]; simp
    cases y with
    | non => subst ry; cases rb; exact .list_none p1.isList (room_of hu)
    | bl k => subst ry; cases rb; exact .list_bool k p1.isList (room_of hu)
    | int k => subst ry; obtain ⟨t, rfl⟩ := rb; exact .list_int k t p1.isList (room_of hu)
    | str k => subst ry; obtain ⟨t, rfl⟩ := rb; exact .list_str k t p1.isList (room_of hu)
    | tup ys =>
      obtain ⟨l2, us, e2, h2, r2⟩ := ry
      subst e2
      cases (show v = _ from rb)
      obtain ⟨jts, w2, p2, z2⟩ := I.tuple h2
      exact .list_tuple p1.isList p2 (room_of hu)
    | lst ys =>
      obtain ⟨l2, us, e2, h2, r2⟩ := ry
      subst e2
      cases (show v = _ from rb)
      obtain ⟨jts, w2, p2, z2⟩ := I.list h2
      have n2 : jts.toArray.size = ys.length := by rw [← r2.length, w2.length]; simp
      have he : ∀ (j : Nat) (j1 : j < its.toArray.size) (j2 : j < jts.toArray.size), SeqAt.EqAt A.in1 s its.toArray[j] jts.toArray[j] (deqAt xs ys j) := fun j j1 j2 => by
        have q := deqs_at I n xs ys vs us its jts A.in1 hx hy r1 r2 w1 w2 (room_in1 hu) j (by simpa using j1) (by simpa using j2)
        simpa using q
      show SeqAt.RcNeAt A s _ _ (!deqs xs ys)
      by_cases hsz : xs.length = ys.length
      · rw [← deqs_len hsz, ← n1]
        exact .lists p1.isList p2.isList (by omega) (room_of hu) he
      · rw [deqs_other hsz]
        exact .lists_lengths p1.isList p2.isList (by rw [n1, n2]; simpa using hsz) (room_of hu)
    | _ => simp [D.isData] at hy
  | _ => simp [D.isData] at hx
/-- == and != of data -/
def dEqN (n : Nat) (x y : D) (Q : D → Prop) : Prop := x.isData n = true ∧ y.isData n = true ∧ Q (.bl (deq x y))
def dNeN (n : Nat) (x y : D) (Q : D → Prop) : Prop := x.isData n = true ∧ y.isData n = true ∧ Q (.bl (!deq x y))
def rEqN (K : PySem.W.Frag) (n : Nat) : R2 := fun x y H Q => ∃ (H0 : Hp) (d e : D), Same H0 H ∧ Rep K H0 d x ∧ Rep K H0 e y ∧ d.isData n = true ∧ e.isData n = true ∧ Q (.bl (deq d e)) H
def rNeN (K : PySem.W.Frag) (n : Nat) : R2 := fun x y H Q => ∃ (H0 : Hp) (d e : D), Same H0 H ∧ Rep K H0 d x ∧ Rep K H0 e y ∧ d.isData n = true ∧ e.isData n = true ∧ Q (.bl (!deq d e)) H
theorem op_eqN {n : Nat} (hu : X.A.units + n < cLine) : OpR X (compareOp .Eq) (rEqN X.K n) := by
  intro pins s σ H x y v u Q I rx ry h
  obtain ⟨H0, d, e, sm, r1, r2, h1, h2, q⟩ := h
  exact rc_at I h1 h2 (Rep.mono sm _ _ r1) (Rep.mono sm _ _ r2) rx ry hu _ _ _ _ ⟨.bl _, H, I, rfl, q⟩
theorem op_neN {n : Nat} (hu : X.A.units + n < cLine) : OpR X (compareOp .NotEq) (rNeN X.K n) := by
  intro pins s σ H x y v u Q I rx ry h
  obtain ⟨H0, d, e, sm, r1, r2, h1, h2, q⟩ := h
  exact rcne_at I h1 h2 (Rep.mono sm _ _ r1) (Rep.mono sm _ _ r2) rx ry hu _ _ _ _ ⟨.bl _, H, I, rfl, q⟩
end
section
variable {X : Cx} {Ed : DX → Prop} {E : XK} {K : PySem.W.Frag} {pos : Pos} {e a b c : Expr} {te ta tb : TE} {de da db : DE}
theorem s_eqN {n : Nat} : SimR2 K (rEqN K n) (dEqN n) := fun H0 H x y dx dy sm rx ry Qd h Q q => ⟨H0, dx, dy, sm, rx, ry, h.1, h.2.1, q (.bl _) _ H0 H (.refl sm) rfl h.2.2⟩
theorem s_neN {n : Nat} : SimR2 K (rNeN K n) (dNeN n) := fun H0 H x y dx dy sm rx ry Qd h Q q => ⟨H0, dx, dy, sm, rx, ry, h.1, h.2.1, q (.bl _) _ H0 H (.refl sm) rfl h.2.2⟩
abbrev dEq := dEqN 150
abbrev dNe := dNeN 150
theorem room150 {k : Nat} (hr : Room k X.A) : X.A.units + 150 < cLine := by have := hr.un; omega
theorem e_eq {k : Nat} (hr : Room k X.A) (ha : JE X Ed E a ta da) (hb : JE X Ed E b tb db) : JE X Ed E (.Compare a [.Eq] [b] pos) (tOp (rEqN X.K 150) ta tb) (dOp dEq da db) := e_cmp (op_eqN (room150 hr)) s_eqN ha hb (nomark _)
end
end DL
namespace DL
variable [TbC]
open PySem PySem.Spec PyProof.Rows L2
section
variable {X : Cx} {Ed : DX → Prop} {E : XK} {K : PySem.W.Frag} {pos : Pos} {e a b c : Expr} {te ta tb tc : TE} {de da db dc : DE} {tt tu : TT} {dt du : DT} {tal : TA} {dal : DA} {es : List Expr}
def dB (de : DE) (ρ : Rho) (Q : Bool → Prop) : Prop := de ρ fun x => match x with
  | .bl b => Q b
  | _ => False
theorem sim_B (h : SimE K Ed E te de) : SimT K Ed E (tB te) (dB de) := fun B0 B1 A H0 H σ ρ R X Qd hd Q q =>
  h B0 B1 A H0 H σ ρ R X _ hd _ fun x v H1 H2 R1 g1 r1 h1 => by
    split at h1
    · exact ⟨_, r1, q _ H1 H2 R1 g1 h1⟩
    · exact h1.elim
theorem t_val (h : JE X Ed E e te de) (he : ∀ whole, isTrue e X.env whole = (do let v ← whole; standAt e.pos; holding [v] (truthy v)) := by intro _; rfl) : JT X Ed E e (tB te) (dB de) := ⟨pt_val h.pe he, sim_B h.sim⟩
/-- a comparison as a test -/
theorem t_cmp {op : CmpOp} {r : R2} {rd : D → D → (D → Prop) → Prop} (ho : OpR X (compareOp op) r) (sr : SimR2 X.K r rd) (ha : JE X Ed E a ta da) (hb : JE X Ed E b tb db) (hm : behindInMarks op b = false) : JT X Ed E (.Compare a [op] [b] pos) (tB (tOp r ta tb)) (dB (dOp rd da db)) :=
  ⟨pt_cmpR ho ha.pe hb.pe hm, sim_B (sim_op sr ha.sim hb.sim)⟩
def dAnd (t u : DT) (ρ : Rho) (Q : Bool → Prop) : Prop := t ρ fun c => if c = true then u ρ Q else Q false
def dOr (t u : DT) (ρ : Rho) (Q : Bool → Prop) : Prop := t ρ fun c => if c = true then Q true else u ρ Q
def dNot (t : DT) (ρ : Rho) (Q : Bool → Prop) : Prop := t ρ fun c => Q (!c)
theorem sim_and (h1 : SimT K Ed E tt dt) (h2 : SimT K Ed E tu du) : SimT K Ed E (tAnd tt tu) (dAnd dt du) := fun B0 B1 A H0 H σ ρ R X Qd hd Q q =>
  h1 B0 B1 A H0 H σ ρ R X _ hd _ fun c H1 H2 R1 g1 k => by
    cases c with
    | true => exact h2 B0 B1 A H1 H2 σ ρ R1 X Qd k Q fun x H3 H4 R2 g2 k2 => q x H3 H4 R2 (g1.trans g2) k2
    | false => exact q false H1 H2 R1 g1 k
theorem sim_or (h1 : SimT K Ed E tt dt) (h2 : SimT K Ed E tu du) : SimT K Ed E (tOr tt tu) (dOr dt du) := fun B0 B1 A H0 H σ ρ R X Qd hd Q q =>
  h1 B0 B1 A H0 H σ ρ R X _ hd _ fun c H1 H2 R1 g1 k => by
    cases c with
    | false => exact h2 B0 B1 A H1 H2 σ ρ R1 X Qd k Q fun x H3 H4 R2 g2 k2 => q x H3 H4 R2 (g1.trans g2) k2
    | true => exact q true H1 H2 R1 g1 k
theorem sim_not (h1 : SimT K Ed E tt dt) : SimT K Ed E (tNot tt) (dNot dt) := fun B0 B1 A H0 H σ ρ R X Qd hd Q q =>
  h1 B0 B1 A H0 H σ ρ R X _ hd _ fun c H1 H2 R1 g1 k => q (!c) H1 H2 R1 g1 k
theorem w_and1 (ha : JT X Ed E a tt dt) : JW X Ed E (.BoolOp .And [a] pos) tt dt := ⟨pw_and1 ha.pe, ha.sim⟩
theorem w_or1 (ha : JT X Ed E a tt dt) : JW X Ed E (.BoolOp .Or [a] pos) tt dt := ⟨pw_or1 ha.pe, ha.sim⟩
theorem w_and (ha : JT X Ed E a tt dt) (hb : JW X Ed E (.BoolOp .And (b :: es) pos) tu du) : JW X Ed E (.BoolOp .And (a :: b :: es) pos) (tAnd tt tu) (dAnd dt du) := ⟨pw_and ha.pe hb.pe, sim_and ha.sim hb.sim⟩
theorem w_or (ha : JT X Ed E a tt dt) (hb : JW X Ed E (.BoolOp .Or (b :: es) pos) tu du) : JW X Ed E (.BoolOp .Or (a :: b :: es) pos) (tOr tt tu) (dOr dt du) := ⟨pw_or ha.pe hb.pe, sim_or ha.sim hb.sim⟩
theorem t_w (h : JW X Ed E e tt dt) : JT X Ed E e tt dt := ⟨h.pe.pt, h.sim⟩
theorem t_not (ha : JT X Ed E a tt dt) : JT X Ed E (.UnaryOp .Not a pos) (tNot tt) (dNot dt) := ⟨pt_not ha.pe, sim_not ha.sim⟩
/-- .. as values (bools) -/
def dAndV (da db : DE) (ρ : Rho) (Q : D → Prop) : Prop := da ρ fun x => match x with
  | .bl c => if c = true then db ρ Q else Q (.bl false)
  | _ => False
def dOrV (da db : DE) (ρ : Rho) (Q : D → Prop) : Prop := da ρ fun x => match x with
  | .bl c => if c = true then Q (.bl true) else db ρ Q
  | _ => False
def dNotV (da : DE) (ρ : Rho) (Q : D → Prop) : Prop := da ρ fun x => match x with
  | .bl c => Q (.bl (!c))
  | _ => False
theorem sim_andV (h1 : SimE K Ed E ta da) (h2 : SimE K Ed E tb db) : SimE K Ed E (tAndV ta tb) (dAndV da db) := fun B0 B1 A H0 H σ ρ R X Qd hd Q q =>
  h1 B0 B1 A H0 H σ ρ R X _ hd _ fun x v H1 H2 R1 g1 r1 k => by
    split at k
    · rename_i c
      refine ⟨c, r1, ?_⟩
      cases c with
      | true => exact h2 B0 B1 A H1 H2 σ ρ R1 X Qd k Q fun x v H3 H4 R2 g2 r2 k2 => q x v H3 H4 R2 (g1.trans g2) r2 k2
      | false => exact q (.bl false) _ H1 H2 R1 g1 rfl k
    · exact k.elim
theorem sim_notV (h1 : SimE K Ed E ta da) : SimE K Ed E (tNotV ta) (dNotV da) := fun B0 B1 A H0 H σ ρ R X Qd hd Q q =>
  h1 B0 B1 A H0 H σ ρ R X _ hd _ fun x v H1 H2 R1 g1 r1 k => by
    split at k
    · rename_i c
      exact ⟨c, r1, q (.bl (!c)) _ H1 H2 R1 g1 rfl k⟩
    · exact k.elim
theorem e_one {op} (h : JE X Ed E a ta da) : JE X Ed E (.BoolOp op [a] pos) ta da := ⟨pe_one h.pe, h.sim⟩
theorem e_and (ha : JE X Ed E a ta da) (hb : JE X Ed E (.BoolOp .And (b :: es) pos) tb db) : JE X Ed E (.BoolOp .And (a :: b :: es) pos) (tAndV ta tb) (dAndV da db) := ⟨pe_and ha.pe hb.pe, sim_andV ha.sim hb.sim⟩
theorem e_not (ha : JE X Ed E a ta da) : JE X Ed E (.UnaryOp .Not a pos) (tNotV ta) (dNotV da) := ⟨pe_not ha.pe, sim_notV ha.sim⟩
/-- a if t else b -/
def dIf (t : DT) (da db : DE) (ρ : Rho) (Q : D → Prop) : Prop := t ρ fun c => if c = true then da ρ Q else db ρ Q
theorem sim_if (h : SimT K Ed E tt dt) (h1 : SimE K Ed E ta da) (h2 : SimE K Ed E tb db) : SimE K Ed E (tIf tt ta tb) (dIf dt da db) := fun B0 B1 A H0 H σ ρ R X Qd hd Q q =>
  h B0 B1 A H0 H σ ρ R X _ hd _ fun c H1 H2 R1 g1 k => by
    cases c with
    | true => exact h1 B0 B1 A H1 H2 σ ρ R1 X Qd k Q fun x v H3 H4 R2 g2 r2 k2 => q x v H3 H4 R2 (g1.trans g2) r2 k2
    | false => exact h2 B0 B1 A H1 H2 σ ρ R1 X Qd k Q fun x v H3 H4 R2 g2 r2 k2 => q x v H3 H4 R2 (g1.trans g2) r2 k2
theorem e_if (hc : JT X Ed E c tt dt) (ha : JE X Ed E a ta da) (hb : JE X Ed E b tb db) : JE X Ed E (.IfExp c a b pos) (tIf tt ta tb) (dIf dt da db) := ⟨pe_ifExp hc.pe ha.pe hb.pe, sim_if hc.sim ha.sim hb.sim⟩
def dNil (_ : Rho) (Q : List D → Prop) : Prop := Q []
def dCons (de : DE) (dr : DA) (ρ : Rho) (Q : List D → Prop) : Prop := de ρ fun x => dr ρ fun xs => Q (x :: xs)
theorem sim_nil : SimA K Ed E tNil dNil := fun B0 B1 A H0 H σ ρ R X Qd hd Q q => q [] [] H0 H R (.refl R.ex) rfl hd
theorem sim_cons (h1 : SimE K Ed E te de) (h2 : SimA K Ed E tal dal) : SimA K Ed E (tCons te tal) (dCons de dal) := fun B0 B1 A H0 H σ ρ R X Qd hd Q q =>
  h1 B0 B1 A H0 H σ ρ R X _ hd _ fun x v H1 H2 R1 g1 r1 k => h2 B0 B1 A H1 H2 σ ρ R1 X _ k _ fun xs vs H3 H4 R2 g2 r2 k2 =>
    q (x :: xs) (v :: vs) H3 H4 R2 (g1.trans g2) ⟨v, vs, rfl, Rep.mono g2.g0 _ _ r1, r2⟩ k2
theorem a_nil : JA X Ed E [] tNil dNil := ⟨pa_nil, sim_nil⟩
theorem a_cons (ha : JE X Ed E e te de) (hr : JA X Ed E es tal dal) (hs : starEach (e :: es) X.env = (false, eval e X.env) :: starEach es X.env := by rfl) : JA X Ed E (e :: es) (tCons te tal) (dCons de dal) := ⟨pa_cons ha.pe hr.pe hs, sim_cons ha.sim hr.sim⟩
def dTup (da : DA) (ρ : Rho) (Q : D → Prop) : Prop := da ρ fun xs => xs.length ≤ 1000 ∧ Q (.tup xs)
def dLst (da : DA) (ρ : Rho) (Q : D → Prop) : Prop := da ρ fun xs => xs.length ≤ 1000 ∧ Q (.lst xs)
theorem line1000 {n : Nat} (h : n ≤ 1000) : n ≤ sizeLine := Nat.le_of_lt (small1000 h)
theorem sim_tup (h : SimA K Ed E tal dal) : SimE K Ed E (tTup tal) (dTup dal) := fun B0 B1 A H0 H σ ρ R X Qd hd Q q =>
  h B0 B1 A H0 H σ ρ R X _ hd _ fun xs vs H1 H2 R1 g1 r1 k => ⟨by rw [r1.length]; exact line1000 k.1, fun p hp => by
    have g := Grow.new (o := .tup vs) R1.ex hp
    exact q (.tup xs) (.ref p) _ _ (R1.grow g) (g1.trans g) ⟨p, vs, rfl, .inl (.inl upd_same), Reps.mono g.g0 _ _ r1⟩ k.2⟩
theorem sim_lst (h : SimA K Ed E tal dal) : SimE K Ed E (tLst tal) (dLst dal) := fun B0 B1 A H0 H σ ρ R X Qd hd Q q =>
  h B0 B1 A H0 H σ ρ R X _ hd _ fun xs vs H1 H2 R1 g1 r1 k => ⟨by rw [r1.length]; exact line1000 k.1, fun p hp => by
    have g := Grow.new (o := .lst vs) R1.ex hp
    exact q (.lst xs) (.ref p) _ _ (R1.grow g) (g1.trans g) ⟨p, vs, rfl, .inl (.inl upd_same), Reps.mono g.g0 _ _ r1⟩ k.2⟩
theorem e_tup {x1} (h : JA X Ed E es tal dal) : JE X Ed E (.Tuple es x1 pos) (tTup tal) (dTup dal) := ⟨pe_tup h.pe, sim_tup h.sim⟩
theorem e_lst (h : JA X Ed E es tal dal) : JE X Ed E (.List es pos) (tLst tal) (dLst dal) := ⟨pe_lst h.pe, sim_lst h.sim⟩
/-- where there is one -/
def onS {α : Type} (o : Option α) (Q : α → Prop) : Prop := match o with
  | some a => Q a
  | none => False
theorem onS_some {α : Type} {a : α} {Q : α → Prop} : onS (some a) Q = Q a := rfl
theorem onS_at {α : Type} {o : Option α} {Q : α → Prop} (h : onS o Q) : ∃ a, o = some a ∧ Q a := by
  cases o with
  | none => exact h.elim
  | some a => exact ⟨a, rfl, h⟩
def dIx (x y : D) (Q : D → Prop) : Prop := match x, y with
  | .tup xs, .int i => onS (atI xs i) Q
  | .lst xs, .int i => onS (atI xs i) Q
  | .lat _ xs, .int i => onS (atI xs i) Q
  | .str z, .int i => z.length ≤ sizeLine ∧ onS (atI z.cps.toList i) fun c => Q (.str ⟨#[c]⟩)
  | _, _ => False
theorem atI_rep {H : Hp} {xs : List D} {vs : List V} {i : Int} {d : D} (r : Reps K H xs vs) (h : atI xs i = some d) : ∃ v, atI vs i = some v ∧ Rep K H d v := by
  unfold atI at h ⊢
  rw [r.length]
  cases e : ixN xs.length i with
  | none => rw [e] at h; cases h
  | some j =>
    rw [e] at h
    exact r.get h
theorem s_ix : SimR2 K (rIx K) dIx := by
  intro H0 H x y dx dy sm rx ry Qd h Q q
  unfold dIx at h
  split at h
  · rename_i xs i
    obtain ⟨d, hd, h⟩ := onS_at h
    obtain ⟨a, vs, rfl, hs, r⟩ := rx
    obtain ⟨v, hv, rv⟩ := atI_rep r hd
    exact .inr (.inl ⟨a, vs, i, v, rfl, ry, sqt_mono sm hs, hv, q d v H0 H (.refl sm) rv h⟩)
  · rename_i xs i
    obtain ⟨d, hd, h⟩ := onS_at h
    obtain ⟨a, vs, rfl, hs, r⟩ := rx
    obtain ⟨v, hv, rv⟩ := atI_rep r hd
    exact .inl ⟨a, vs, i, v, rfl, ry, sm.seq hs, hv, q d v H0 H (.refl sm) rv h⟩
  · rename_i c xs i
    obtain ⟨d, hd, h⟩ := onS_at h
    obtain ⟨rfl, vs, hs, r⟩ := rx
    obtain ⟨v, hv, rv⟩ := atI_rep r hd
    exact .inl ⟨c, vs, i, v, rfl, ry, sm.seq hs, hv, q d v H0 H (.refl sm) rv h⟩
  · rename_i z i
    obtain ⟨hz, h⟩ := h
    obtain ⟨c, hc, h⟩ := onS_at h
    exact .inr (.inr ⟨z, i, c, rx, ry, hz, hc, q (.str ⟨#[c]⟩) _ H0 H (.refl sm) rfl h⟩)
  · exact h.elim
theorem e_ix (ha : JE X Ed E a ta da) (hb : JE X Ed E b tb db) (hs : PlainIx b := by exact fun _ _ => rfl) : JE X Ed E (.Subscript a b pos) (tOp (rIx X.K) ta tb) (dOp dIx da db) := ⟨pe_ix ix_seq ha.pe hb.pe hs, sim_op s_ix ha.sim hb.sim⟩
end
end DL
namespace DL
variable [TbC]
open PySem PySem.Spec PyProof.Rows L2
section
variable {X : Cx} {Ed : DX → Prop} {E : XK} {K : PySem.W.Frag} {pos : Pos} {e a b c : Expr} {te ta tb tc : TE} {de da db dc : DE} {tt tu : TT} {dt du : DT} {tal : TA} {dal : DA} {es : List Expr} {st : Stmt} {sts : List Stmt} {ts us : TS} {ds dus : DS}
def dNext (d : DEnds) (ρ : Rho) : Prop := d.nx ρ
def dSeq (t u : DS) (d : DEnds) (ρ : Rho) : Prop := t { d with nx := u d } ρ
def dBrk (d : DEnds) (ρ : Rho) : Prop := d.bk ρ
def dCnt (d : DEnds) (ρ : Rho) : Prop := d.ct ρ
def dDrop (de : DE) (d : DEnds) (ρ : Rho) : Prop := de ρ fun _ => d.nx ρ
def dRet (de : DE) (d : DEnds) (ρ : Rho) : Prop := de ρ fun x => d.rt x ρ
def dRetN (d : DEnds) (ρ : Rho) : Prop := d.rt .non ρ
def dIfS (c : DT) (t u : DS) (d : DEnds) (ρ : Rho) : Prop := c ρ fun b => if b = true then t d ρ else u d ρ
def dNever (_ : DEnds) (_ : Rho) : Prop := False
theorem EndsRel.next {B0 B1 : Hp} {d : DEnds} {D : Ends} {f : Rho → Prop} {g : L2.St → Hp → Prop} (r : EndsRel K B0 B1 d D) (h : ∀ A H0 H σ ρ, RepS K B0 B1 A H0 H σ ρ → f ρ → g σ H) : EndsRel K B0 B1 { d with nx := f } { D with nx := g } := ⟨h, r.rt, r.bk, r.ct⟩
theorem sim_next : SimS K Ed E tNext dNext := fun B0 B1 A H0 H σ ρ R X d D r h => r.nx A H0 H σ ρ R h
theorem sim_seq (h1 : SimS K Ed E ts ds) (h2 : SimS K Ed E us dus) : SimS K Ed E (tSeq ts us) (dSeq ds dus) := fun B0 B1 A H0 H σ ρ R X d D r h =>
  h1 B0 B1 A H0 H σ ρ R X _ _ (r.next fun A' H0' H' σ' ρ' R' h' => h2 B0 B1 A' H0' H' σ' ρ' R' X d D r h') h
theorem b_nil : JB X Ed E [] tNext dNext := ⟨pss_nil, sim_next⟩
theorem b_cons (h1 : JS X Ed E st ts ds) (h2 : JB X Ed E sts us dus) : JB X Ed E (st :: sts) (tSeq ts us) (dSeq ds dus) := ⟨pss_cons h1.pe h2.pe, sim_seq h1.sim h2.sim⟩
theorem b_one (h1 : JS X Ed E st ts ds) : JB X Ed E [st] ts ds := ⟨pss_one h1.pe, h1.sim⟩
theorem st_ret (he : JE X Ed E e te de) : JS X Ed E (.Return (some e) pos) (tRet te) (dRet de) :=
  ⟨ps_ret he.pe, fun B0 B1 A H0 H σ ρ R X d D r h => he.sim B0 B1 A H0 H σ ρ R X _ h _ fun x v H1 H2 R1 g1 r1 k => r.rt A H1 H2 σ ρ x v R1 r1 k⟩
theorem st_if {x y : List Stmt} (hc : JT X Ed E c tt dt) (ha : JB X Ed E x ts ds) (hb : JB X Ed E y us dus) : JS X Ed E (.If c x y pos) (tIfS tt ts us) (dIfS dt ds dus) :=
  ⟨ps_if hc.pe ha.pe hb.pe, fun B0 B1 A H0 H σ ρ R X d D r h => hc.sim B0 B1 A H0 H σ ρ R X _ h _ fun b H1 H2 R1 g1 k => by
    cases b with
    | true => exact ha.sim B0 B1 A H1 H2 σ ρ R1 X d D r k
    | false => exact hb.sim B0 B1 A H1 H2 σ ρ R1 X d D r k⟩
theorem st_never : JS X Ed E st tNever dNever := ⟨ps_never, fun _ _ _ _ _ _ _ _ _ _ _ _ h => h.elim⟩
abbrev DG := D → Rho → (Rho → Prop) → Prop
abbrev DGs := List D → Rho → (Rho → Prop) → Prop
def SimG (K : PySem.W.Frag) (g : TG) (dg : DG) : Prop := ∀ B0 B1 A H0 H σ ρ x v, RepS K B0 B1 A H0 H σ ρ → Rep K H0 x v → ∀ Qd : Rho → Prop, dg x ρ Qd → ∀ Q : L2.St → Hp → Prop,
  (∀ A' σ' ρ', RepS K B0 B1 A' H0 H σ' ρ' → (∀ i a, A' i = some a → ∃ j, A j = some a) → Qd ρ' → Q σ' H) → g v σ H Q
def SimGs (K : PySem.W.Frag) (g : TGs) (dg : DGs) : Prop := ∀ B0 B1 A H0 H σ ρ xs vs, RepS K B0 B1 A H0 H σ ρ → Reps K H0 xs vs → ∀ Qd : Rho → Prop, dg xs ρ Qd → ∀ Q : L2.St → Hp → Prop,
  (∀ A' σ' ρ', RepS K B0 B1 A' H0 H σ' ρ' → (∀ i a, A' i = some a → ∃ j, A j = some a) → Qd ρ' → Q σ' H) → g vs σ H Q
structure JG (X : Cx) (tg : Expr) (g : TG) (dg : DG) : Prop where
  pe : PG X tg g
  sim : SimG X.K g dg
structure JGs (X : Cx) (tg : List Expr) (g : TGs) (dg : DGs) : Prop where
  pe : PGs X tg g
  sim : SimGs X.K g dg
def dName (i : Nat) (x : D) (ρ : Rho) (Q : Rho → Prop) : Prop := Q (ρ.set i (some (.d x)))
def dgNil (xs : List D) (ρ : Rho) (Q : Rho → Prop) : Prop := match xs with
  | [] => Q ρ
  | _ => False
def dgCons (t : DG) (u : DGs) (xs : List D) (ρ : Rho) (Q : Rho → Prop) : Prop := match xs with
  | x :: r => t x ρ fun ρ' => u r ρ' Q
  | [] => False
def dgTup (t : DGs) (x : D) (ρ : Rho) (Q : Rho → Prop) : Prop := match x with
  | .tup xs => t xs ρ Q
  | _ => False
theorem sim_name {i : Nat} : SimG K (gName i) (dName i) := fun B0 B1 A H0 H σ ρ x v R r Qd h Q q => q _ _ _ (R.setD i r) (fun j a e => ⟨j, (clr_some e).2⟩) h
theorem g_name {x : Str} (i : Nat) (hN : X.N.Nodup) (hi : X.N[i]? = some x := by rfl) (hx : Loc X.env.scope x := by first | exact Or.inl rfl | exact Or.inr rfl) (hf : X.fn x = true ∨ X.env.scope.names.lookup x = some .local := by first | exact .inl rfl | exact .inr rfl | assumption) : JG X (.Name x pos) (gName i) (dName i) := ⟨pg_name hN hi hx hf, sim_name⟩
theorem gs_nil : JGs X [] gNil dgNil := ⟨pgs_nil, fun B0 B1 A H0 H σ ρ xs vs R r Qd h Q q => by
  unfold dgNil at h
  split at h
  · cases (show vs = _ from r)
    exact ⟨rfl, q A σ ρ R (fun i a e => ⟨i, e⟩) h⟩
  · exact h.elim⟩
theorem gs_cons {g : TG} {dg : DG} {gs : TGs} {dgs : DGs} (h1 : JG X e g dg) (h2 : JGs X es gs dgs) (hs : (assignEach (e :: es) X.env).map (·.2) = assign e X.env :: (assignEach es X.env).map (·.2) := by rfl) : JGs X (e :: es) (gCons g gs) (dgCons dg dgs) :=
  ⟨pgs_cons h1.pe h2.pe hs, fun B0 B1 A H0 H σ ρ xs vs R r Qd h Q q => by
    unfold dgCons at h
    split at h
    · obtain ⟨v, vr, rfl, r1, r2⟩ := r
      exact ⟨v, vr, rfl, h1.sim B0 B1 A H0 H σ ρ _ v R r1 _ h _ fun A' σ' ρ' R' o' h' => h2.sim B0 B1 A' H0 H σ' ρ' _ vr R' r2 _ h' _ fun A2 σ2 ρ2 R2 o2 k2 =>
        q A2 σ2 ρ2 R2 (fun i a e => let ⟨j, z⟩ := o2 i a e; o' j a z) k2⟩
    · exact h.elim⟩
theorem g_tup {gs : TGs} {dgs : DGs} {k : Nat} {n : Nat} (hc : X.calm = true) (h : JGs X es gs dgs) (hd : ∀ xs ρ Q, dgs xs ρ Q → xs.length = n)
    (hn : (assignEach es X.env).length = n := by rfl) (hst : (assignEach es X.env).findIdx? (·.1) = none := by rfl) : JG X (.Tuple es k pos) (gTup X.K n gs) (dgTup dgs) := ⟨pg_tup hc h.pe hn hst, fun B0 B1 A H0 H σ ρ x v R r Qd hq Q q => by
  unfold dgTup at hq
  split at hq
  · obtain ⟨l, vs, rfl, hs, r1⟩ := r
    exact ⟨l, vs, rfl, sqt_mono R.ex hs, by rw [r1.length]; exact hd _ _ _ hq, h.sim B0 B1 A H0 H σ ρ _ vs R r1 Qd hq Q q⟩
  · exact hq.elim⟩
theorem len_nil : ∀ xs ρ Q, dgNil xs ρ Q → xs.length = 0 := fun xs ρ Q h => by
  cases xs with
  | nil => rfl
  | cons x r => exact (show False from h).elim
/-- names from the left -/
def dNames : List Nat → DGs
  | [] => dgNil
  | i :: r => dgCons (dName i) (dNames r)
theorem len_names : ∀ (l : List Nat) xs ρ Q, dNames l xs ρ Q → xs.length = l.length
  | [], xs, ρ, Q, h => len_nil xs ρ Q h
  | i :: r, [], ρ, Q, h => (show False from h).elim
  | i :: r, x :: xs, ρ, Q, h => congrArg (· + 1) (len_names r xs _ Q (show dNames r xs (ρ.set i (some (.d x))) Q from h))
def dAsg (de : DE) (g : DG) (d : DEnds) (ρ : Rho) : Prop := de ρ fun x => g x ρ d.nx
theorem sim_asg {g : TG} {dg : DG} (h : SimE K Ed E te de) (hg : SimG K g dg) : SimS K Ed E (tAsg te g) (dAsg de dg) := fun B0 B1 A H0 H σ ρ R X d D r hd =>
  h B0 B1 A H0 H σ ρ R X _ hd _ fun x v H1 H2 R1 g1 r1 k => hg B0 B1 A H1 H2 σ ρ x v R1 r1 _ k _ fun A' σ' ρ' R' _ k' => r.nx A' H1 H2 σ' ρ' R' k'
theorem st_asg {tg : Expr} {g : TG} {dg : DG} (he : JE X Ed E e te de) (hg : JG X tg g dg) (hs : swapsWithSole [tg] e pos.line X.env = pure false := by rfl) (hw : swappedStores [tg] e X.env = pure none := by rfl)
    (h1 : (assignEach [tg] X.env).map (·.2) = [assign tg X.env] := by rfl) : JS X Ed E (.Assign [tg] e pos) (tAsg te g) (dAsg de dg) := ⟨ps_asg he.pe hg.pe hs hw h1, sim_asg he.sim hg.sim⟩
theorem st_set {x : Str} {p2 : Pos} (i : Nat) (hN : X.N.Nodup) (he : JE X Ed E e te de) (hi : X.N[i]? = some x := by rfl) (hx : Loc X.env.scope x := by first | exact Or.inl rfl | exact Or.inr rfl) (hs : swapsWith e (some (.Name x p2)) pos.line X.env = pure false := by rfl)
    (hf : X.fn x = true ∨ X.env.scope.names.lookup x = some .local := by first | exact .inl rfl | exact .inr rfl | assumption) : JS X Ed E (.Assign [.Name x p2] e pos) (tAsg te (gName i)) (dAsg de (dName i)) := ⟨ps_set hN hi hx he.pe hs hf, sim_asg he.sim sim_name⟩
/-- a, b = x, y -/
def dPar (i j : Nat) (da : DA) (d : DEnds) (ρ : Rho) : Prop := da ρ fun xs => match xs with
  | [x, y] => d.nx ((ρ.set i (some (.d x))).set j (some (.d y)))
  | _ => False
abbrev DI := Rho → (List D → Prop) → Prop
/-- J yields the data xs, one after another, as long as what stood at its start stands -/
def Walks (K : PySem.W.Frag) (J : It) (Hs : Hp) (xs : List D) : Prop :=
  ∀ (i : Nat) (H0 H : Hp), Same H0 H → Same Hs H0 → (∀ x, xs[i]? = some x → J.go i H ∧ ∀ v H', J.yld i H v H' → ∃ H0', Grow H0 H H0' H' ∧ Rep K H0' x v) ∧ (xs[i]? = none → J.stop i H)
def SimI (K : PySem.W.Frag) (Ed : DX → Prop) (E : XK) (ti : TI) (di : DI) : Prop := ∀ B0 B1 A H0 H σ ρ, RepS K B0 B1 A H0 H σ ρ → ExRel K B0 B1 Ed E → ∀ Ld : List D → Prop, di ρ Ld → ∀ R : It → Hp → Prop,
  (∀ J xs H0' H', RepS K B0 B1 A H0' H' σ ρ → Grow H0 H H0' H' → Walks K J H0' xs → Ld xs → R J H') → ti σ H R
structure JI (X : Cx) (Ed : DX → Prop) (E : XK) (tg iter : Expr) (ti : TI) (di : DI) : Prop where
  pe : PI X tg iter ti
  sim : SimI X.K Ed E ti di
/-- a list or a tuple -/
def dSeqI (de : DE) (ρ : Rho) (L : List D → Prop) : Prop := de ρ fun x => match x with
  | .lst xs => L xs
  | .tup xs => L xs
  | _ => False
def dLstI (de : DE) (ρ : Rho) (L : List D → Prop) : Prop := de ρ fun x => match x with
  | .lst xs => L xs
  | _ => False
def dTupI (de : DE) (ρ : Rho) (L : List D → Prop) : Prop := de ρ fun x => match x with
  | .tup xs => L xs
  | _ => False
theorem walks_lst' {Hs : Hp} {l : Addr} {vs : List V} {xs : List D} (h : SqL K Hs l vs) (r : Reps K Hs xs vs) : Walks K (Itl K l) Hs xs := fun i H0 H sm s0 => by
  have hs := sm.seq (s0.seq h)
  refine ⟨fun x hx => ?_, fun hx => ⟨vs, hs, ?_⟩⟩
  · obtain ⟨v, hv, rv⟩ := r.get hx
    refine ⟨⟨vs, v, hs, hv⟩, fun u H' y => ?_⟩
    obtain ⟨rfl, y⟩ := y
    have e := y vs hs
    rw [hv] at e
    cases e
    exact ⟨H0, .refl sm, Rep.mono s0 _ _ rv⟩
  · rw [r.length]
    exact List.getElem?_eq_none_iff.mp hx
theorem walks_tup {Hs : Hp} {l : Addr} {vs : List V} {xs : List D} (h : SqT K Hs l vs) (r : Reps K Hs xs vs) : Walks K (Itt K l) Hs xs := fun i H0 H sm s0 => by
  have hs := sqt_mono sm (sqt_mono s0 h)
  refine ⟨fun x hx => ?_, fun hx => ⟨vs, hs, ?_⟩⟩
  · obtain ⟨v, hv, rv⟩ := r.get hx
    refine ⟨⟨vs, v, hs, hv⟩, fun u H' y => ?_⟩
    obtain ⟨rfl, y⟩ := y
    have e := y vs hs
    rw [hv] at e
    cases e
    exact ⟨H0, .refl sm, Rep.mono s0 _ _ rv⟩
  · rw [r.length]
    exact List.getElem?_eq_none_iff.mp hx
def intsD (lo : Int) (n : Nat) : List D := (List.range n).map fun (i : Nat) => D.int (lo + (i : Int))
theorem walks_rng {Hs : Hp} {lo : Int} {n : Nat} : Walks K (Itr lo n) Hs (intsD lo n) := fun i H0 H sm s0 => by
  refine ⟨fun x hx => ?_, fun hx => ?_⟩
  · obtain ⟨hi, e⟩ := List.getElem?_eq_some_iff.mp hx
    have hi : i < n := by simpa [intsD] using hi
    refine ⟨hi, fun u H' y => ?_⟩
    obtain ⟨rfl, rfl⟩ := y
    refine ⟨H0, .refl sm, ?_⟩
    rw [← e]
    simp [intsD, Rep]
  · have e := List.getElem?_eq_none_iff.mp hx
    show n ≤ i
    simpa [intsD] using e
/-- a list or a tuple, whichever it is -/
def iSeq (K : PySem.W.Frag) (tl : TE) : TI := fun σ H R => tl σ H fun x H1 => (∃ a, x = .ref a ∧ (∃ xs, SqL K H1 a xs) ∧ R (Itl K a) H1) ∨ (∃ a, x = .ref a ∧ (∃ xs, SqT K H1 a xs) ∧ R (Itt K a) H1)
theorem pi_seq {tg l : Expr} {tl : TE} (hl : PE X l tl) : PI X tg l (iSeq X.K tl) := by
  refine ⟨fun pins s σ H R I h => ?_⟩
  refine thn (hl.run pins s σ H _ I h) fun v s1 ⟨x, H1, I1, r1, q1⟩ => ?_
  rcases q1 with ⟨a, e, ⟨xs, hq⟩, q⟩ | ⟨a, e, ⟨xs, hq⟩, q⟩
  · subst e
    cases r1
    obtain ⟨its, rv, p, hz⟩ := I1.list hq
    refine wpAny_pyIter_list p.isList ⟨s1.heap.objs.size, [s1.heap.objs.size], _, _, H1, rfl, I1.kept (t' := s1.toks) fun b o e => Heap.get?_push_of_some _ e, turn_list a _, ⟨_, Heap.get?_push_size _ rfl, rfl, rfl⟩, fun b hb => ?_, q⟩
    obtain rfl : b = s1.heap.objs.size := by simpa using hb
    exact I1.fpOk (Nat.le_refl _) (I1.hok.fresh (Nat.le_refl _))
  · subst e
    cases r1
    obtain ⟨its, rv, p, hz⟩ := I1.tuple hq
    refine wpAny_pyIter_tuple (show s1.heap.IsTuple a its.toArray from p) ⟨s1.heap.objs.size, [s1.heap.objs.size], _, _, H1, rfl, I1.kept (t' := s1.toks) fun b o e => Heap.get?_push_of_some _ e, turn_tuple a _, ⟨_, Heap.get?_push_size _ rfl, rfl, rfl⟩, fun b hb => ?_, q⟩
    obtain rfl : b = s1.heap.objs.size := by simpa using hb
    exact I1.fpOk (Nat.le_refl _) (I1.hok.fresh (Nat.le_refl _))
theorem i_seq {tg : Expr} (h : JE X Ed E e te de) : JI X Ed E tg e (iSeq X.K te) (dSeqI de) := ⟨pi_seq h.pe, fun B0 B1 A H0 H σ ρ R X Ld hd Q q => h.sim B0 B1 A H0 H σ ρ R X _ hd _ fun x v H1 H2 R1 g1 r1 k => by
  split at k
  · obtain ⟨l, vs, rfl, hs, r⟩ := r1
    exact .inl ⟨l, rfl, ⟨vs, R1.ex.seq hs⟩, q _ _ H1 H2 R1 g1 (walks_lst' hs r) k⟩
  · obtain ⟨l, vs, rfl, hs, r⟩ := r1
    exact .inr ⟨l, rfl, ⟨vs, sqt_mono R1.ex hs⟩, q _ _ H1 H2 R1 g1 (walks_tup hs r) k⟩
  · exact k.elim⟩
def dRng1 (da : DA) (ρ : Rho) (L : List D → Prop) : Prop := da ρ fun xs => match xs with
  | [.int n] => (-(2 ^ 62) ≤ n ∧ n < 2 ^ 62) ∧ L (intsD 0 n.toNat)
  | _ => False
def dRng2 (da : DA) (ρ : Rho) (L : List D → Prop) : Prop := da ρ fun xs => match xs with
  | [.int i, .int j] => (-(2 ^ 62) ≤ i ∧ i < 2 ^ 62 ∧ -(2 ^ 62) ≤ j ∧ j < 2 ^ 62) ∧ L (intsD i (j - i).toNat)
  | _ => False
theorem i_rng1 {tg : Expr} {p : Pos} (hm : X.mg "range" = none) (ha : JA X Ed E [a] tal dal) (hg : Gl X "range" := by rfl) (hs : starEach [a] X.env = [(false, eval a X.env)] := by rfl) : JI X Ed E tg (.Call (.Name "range" p) [a] [] pos) (iRng1 tal) (dRng1 dal) :=
  ⟨pi_range1 hg hm ha.pe hs, fun B0 B1 A H0 H σ ρ R X Ld hd Q q => ha.sim B0 B1 A H0 H σ ρ R X _ hd _ fun xs vs H1 H2 R1 g1 r1 k => by
    split at k
    · rename_i n
      obtain ⟨v, vr, rfl, q1, e3⟩ := r1
      cases (show vr = _ from e3)
      cases (show v = _ from q1)
      exact ⟨n, rfl, k.1.1, k.1.2, q _ _ H1 H2 R1 g1 walks_rng k.2⟩
    · exact k.elim⟩
def loopD (g : DG) (tb : DS) (d : DEnds) : List D → Rho → Prop
  | [], ρ => d.nx ρ
  | x :: r, ρ => g x ρ fun ρ' => tb { d with nx := loopD g tb d r, ct := loopD g tb d r, bk := d.nx } ρ'
def dFor (di : DI) (g : DG) (tb : DS) (d : DEnds) (ρ : Rho) : Prop := di ρ fun xs => loopD g tb d xs ρ
theorem drop_at {α : Type} {xs : List α} {i : Nat} : (∃ x, xs[i]? = some x ∧ xs.drop i = x :: xs.drop (i + 1)) ∨ (xs[i]? = none ∧ xs.drop i = []) := by
  by_cases h : i < xs.length
  · exact .inl ⟨xs[i], List.getElem?_eq_getElem h, List.drop_eq_getElem_cons h⟩
  · exact .inr ⟨List.getElem?_eq_none (by omega), List.drop_eq_nil_of_le (by omega)⟩
theorem sim_for {ti : TI} {di : DI} {g : TG} {dg : DG} {tb : TS} {dtb : DS} (hi : SimI K Ed E ti di) (hg : SimG K g dg) (hb : SimS K Ed E tb dtb) : SimS K Ed E (tFor ti g tb) (dFor di dg dtb) := fun B0 B1 A H0 H σ ρ R X d D r hd =>
  hi B0 B1 A H0 H σ ρ R X _ hd _ fun J xs Hs0 Hs Rs gs wk hl => by
    obtain ⟨B1', Rb, smB, nB, oB, bk⟩ := Rs.rebase
    have hbn : ∀ p, B1' p = none → B1 p = none := fun p hp => by
      by_cases ho : ∃ i, A i = some p
      · obtain ⟨i, hi⟩ := ho
        exact (Rs.own i p hi).2.1
      · by_cases hH : Hs p = none
        · exact Rs.gr.g1.free hH
        · rw [oB p hH (fun i z => ho ⟨i, z⟩)] at hp
          exact absurd hp hH
    have X' : ExRel K Hs0 B1' Ed E := X.grow smB bk
    -- the word: the rest of the walk
    refine ⟨fun i m σ' H' => m = xs.length - i ∧ ∃ A' H0' ρ', RepS K Hs0 B1' A' H0' H' σ' ρ' ∧ loopD dg dtb d (xs.drop i) ρ', ⟨xs.length, by simp, A, Hs0, ρ, Rb, by simpa using hl⟩, ?_⟩
    rintro i m σ' H' ⟨rfl, A', H0', ρ', R', hq⟩
    obtain ⟨hgo, hst⟩ := wk i H0' H' R'.ex R'.gr.g0
    rcases drop_at (xs := xs) (i := i) with ⟨x, hx, hdr⟩ | ⟨hx, hdr⟩
    · rw [hdr] at hq
      obtain ⟨go, yl⟩ := hgo x hx
      have hlt : i < xs.length := (List.getElem?_eq_some_iff.mp hx).1
      refine .inr ⟨go, fun σ2 H2 => ∃ A2 H02 ρ2, RepS K Hs0 B1' A2 H02 H2 σ2 ρ2 ∧ loopD dg dtb d (xs.drop (i + 1)) ρ2, fun σ2 H2 n2 => ⟨xs.length - (i + 1), by omega, rfl, n2⟩, fun v Hn y => ?_⟩
      obtain ⟨H0n, gn, rn⟩ := yl v Hn y
      refine hg Hs0 B1' A' H0n Hn σ' ρ' x v (R'.grow gn) rn _ hq _ fun A2 σ2 ρ2 R2 _ k2 => ?_
      refine hb Hs0 B1' A2 H0n Hn σ2 ρ2 R2 X' { d with nx := loopD dg dtb d (xs.drop (i + 1)), ct := loopD dg dtb d (xs.drop (i + 1)), bk := d.nx } _ ⟨fun A3 H03 H3 σ3 ρ3 R3 k3 => ⟨A3, H03, ρ3, R3, k3⟩, fun A3 H03 H3 σ3 ρ3 z w R3 rz k3 => r.rt A3 H03 H3 σ3 ρ3 z w (R3.unbase bk hbn) rz k3, fun A3 H03 H3 σ3 ρ3 R3 k3 => r.nx A3 H03 H3 σ3 ρ3 (R3.unbase bk hbn) k3, fun A3 H03 H3 σ3 ρ3 R3 k3 => ⟨A3, H03, ρ3, R3, k3⟩⟩ k2
    · rw [hdr] at hq
      exact .inl ⟨hst hx, r.nx A' H0' H' σ' ρ' (R'.unbase bk hbn) hq⟩
theorem st_for {tg iter : Expr} {ti : TI} {di : DI} {g : TG} {dg : DG} {tb : TS} {dtb : DS} {body : List Stmt} (hp : PassesOwn (model X.prog X.w) X.A X.env X.xe) (hc : X.calm = true) (hi : JI X Ed E tg iter ti di) (hg : JG X tg g dg) (hb : JB X Ed E body tb dtb)
    (hs : ∀ x, foldedSetIterable iter X.env x = pure x := by intro _; rfl) : JS X Ed E (.For tg iter body [] pos) (tFor ti g tb) (dFor di dg dtb) := ⟨ps_for hp hc hi.pe hg.pe hb.pe hs, sim_for hi.sim hg.sim hb.sim⟩
/-- a loop by its invariant -/
theorem loopD_inv {g : DG} {tb : DS} {d : DEnds} (Inv : List D → Rho → Prop) : ∀ (xs : List D) (ρ : Rho), Inv xs ρ → (∀ x r ρ, Inv (x :: r) ρ → (∀ N : Rho → Prop, (∀ ρ', Inv r ρ' → N ρ') → g x ρ fun ρ' => tb { d with nx := N, ct := N, bk := d.nx } ρ')) → (∀ ρ, Inv [] ρ → d.nx ρ) → loopD g tb d xs ρ
  | [], ρ, h, _, hd => hd ρ h
  | x :: r, ρ, h, hs, hd => hs x r ρ h _ fun ρ' h' => loopD_inv Inv r ρ' h' hs hd
end
end DL
namespace DL
variable [TbC]
open PySem PySem.Spec PyProof.Rows L2
abbrev Wp := List D → (D → Prop) → (DX → Prop) → Prop
def SpW (K : PySem.W.Frag) (wp : Wp) : Sp := fun vs H Q E => ∃ (H0 : Hp) (ds : List D) (Qd : D → Prop) (Ed : DX → Prop), Same H0 H ∧ Reps K H0 ds vs ∧ wp ds Qd Ed ∧
  (∀ d v H0' H', Grow H0 H H0' H' → Rep K H0' d v → Qd d → Q v H') ∧ ExRel K H0 H Ed E
def startD : Nat → List D → Rho
  | 0, _ => []
  | n + 1, d :: ds => some (.d d) :: startD n ds
  | n + 1, [] => none :: startD n []
theorem startD_len : ∀ (n : Nat) (ds : List D), (startD n ds).length = n
  | 0, _ => rfl
  | n + 1, d :: ds => congrArg (· + 1) (startD_len n ds)
  | n + 1, [] => congrArg (· + 1) (startD_len n [])
theorem startD_at : ∀ {n : Nat} {ds : List D} {i : Nat} {w : Option SV}, (startD n ds)[i]? = some w → w = none ∨ ∃ d, ds[i]? = some d ∧ w = some (.d d)
  | 0, _, i, w, h => by simp [startD] at h
  | n + 1, d :: ds, 0, w, h => by
    have h : some (some (SV.d d)) = some w := h
    cases h
    exact .inr ⟨d, rfl, rfl⟩
  | n + 1, d :: ds, i + 1, w, h => by
    rcases startD_at (n := n) (ds := ds) (i := i) (w := w) h with e | ⟨x, e1, e2⟩
    · exact .inl e
    · exact .inr ⟨x, by simpa using e1, e2⟩
  | n + 1, [], 0, w, h => by
    have h : some none = some w := h
    cases h
    exact .inl rfl
  | n + 1, [], i + 1, w, h => by
    rcases startD_at (n := n) (ds := []) (i := i) (w := w) h with e | ⟨x, e1, e2⟩
    · exact .inl e
    · simp at e1
section
variable {K : PySem.W.Frag} {B0 B1 H0 H : Hp}
omit [TbC] in
theorem start_at {N : List Str} {vs : List V} {i : Nat} {v : V} (h : vs[i]? = some v) : (L2.start N vs)[i]? = some (some v) := by
  unfold L2.start
  have hi := (List.getElem?_eq_some_iff.mp h).1
  rw [List.getElem?_append_left (by simpa using hi), List.getElem?_map, h]
  rfl
theorem start_len {N : List Str} {vs : List V} (h : vs.length ≤ N.length) : (L2.start N vs).length = N.length := by
  unfold L2.start
  rw [List.length_append, List.length_map, List.length_replicate]
  omega
theorem start_has {N : List Str} {vs : List V} {i : Nat} (h : vs.length ≤ N.length) (hi : i < N.length) : ∃ v, (L2.start N vs)[i]? = some v := ⟨_, List.getElem?_eq_getElem (by rw [start_len h]; exact hi)⟩
theorem startS {N : List Str} {ds : List D} {vs : List V} (sm : Same H0 H) (r : Reps K H0 ds vs) (hl : ds.length ≤ N.length) (hz : N.length ≤ 1000) : RepS K H0 H (fun _ => none) H0 H (L2.start N vs) (startD N.length ds) := by
  have hv : vs.length ≤ N.length := by rw [r.length]; exact hl
  refine ⟨sm, .refl sm, by rw [start_len hv, startD_len], fun i w e => ?_, (fun _ _ _ h => nomatch h), (fun _ _ h => nomatch h), by rw [startD_len]; exact hz, fun i x C fs q xs e => by
    rcases startD_at e with h | ⟨d, _, h⟩ <;> cases h⟩
  rcases startD_at e with rfl | ⟨d, e1, rfl⟩
  · have hi : i < N.length := by
      have := (List.getElem?_eq_some_iff.mp e).1
      rwa [startD_len] at this
    obtain ⟨v, hv⟩ := start_has hv hi
    exact ⟨v, hv, rfl⟩
  · obtain ⟨v, hv, rv⟩ := r.get e1
    exact ⟨some v, start_at hv, rfl, v, rfl, rv⟩
end
section
variable {P : Program} {w : World} {K : PySem.W.Frag} {mg : Str → Option Value} {base : Heap}
/-- a def (or method) of the text as it stands behind the top, whatever its defaults -/
structure FunX (K : PySem.W.Frag) (x qual : Str) (st : Stmt) (f : Addr) (fd : FuncData) : Prop where
  ex : ∃ (oc : Value) (od : Option Addr) (dV kV doc pm : Value) (an : Option Addr) (cdv ct : Value) (osl : Array (Option Value)),
    fd = PySem.W.fnOf x qual (defArgs st) (defBody st) (defScope st) dV kV doc pm an cdv ct ∧ K.lookup f = some ⟨oc, od, .func fd, osl⟩ ∧ PySem.W.codeIn K cdv qual = true
  kp : PySem.W.keepIn K (.ref f) = true
theorem FunX.okX {x qual : Str} {st : Stmt} {f : Addr} {fd : FuncData} {N ps : List Str} {k : Nat} {sp : Sp} (F : FunX K x qual st f fd) (S : FnScope N ps (defScope st)) (len : ∀ vs H Q E, sp vs H Q E → vs.length = ps.length)
    (hbody : ∀ (cdv : Value) (A : Around) (outer : List Env) (s : Shared) (H : Hp) (vs : List V) (Q : VK) (E : XK), Room k (A.deeper (envOfC qual (defScope st) s.heap.objs.size f cdv)) → sp vs H Q E →
      ∃ t, PSs (cxOf (L2.CX P w) P w K mg base N qual (defScope st) f cdv A outer s H E) (defBody st) t ∧ t { nx := fun _ H' => Q .non H', rt := Q } (L2.start N vs) H) : FnOk P w K mg base (L2.CX P w) (k + 1) f fd ps sp := by
  obtain ⟨oc, od, dV, kV, doc, pm, an, cdv, ct, osl, rfl, lk, hcd⟩ := F.ex
  exact fn_of lk hcd S len fun A outer s H vs Q E hr hsp => hbody cdv A outer s H vs Q E hr hsp
theorem funX_mk {x qual : Str} {st : Stmt} {f : Addr} {oc dV : Value} {od an : Option Addr} {osl : Array (Option Value)} {kV doc pm cdv ct : Value} (l : K.lookup f = some ⟨oc, od, .func (PySem.W.fnOf x qual (defArgs st) (defBody st) (defScope st) dV kV doc pm an cdv ct), osl⟩)
    (c : PySem.W.codeIn K cdv qual = true) (k : PySem.W.keepIn K (.ref f) = true) : FunX K x qual st f (PySem.W.fnOf x qual (defArgs st) (defBody st) (defScope st) dV kV doc pm an cdv ct) := ⟨⟨oc, od, dV, kV, doc, pm, an, cdv, ct, osl, rfl, l, c⟩, k⟩
/-- how its arguments bind where there are no defaults -/
theorem bindsX {x qual : Str} {st : Stmt} {kV doc pm : Value} {an : Option Addr} {cdv ct : Value} {ps : List Str}
    (h : ∀ us : List Value, us.length = ps.length → bindArgs (PySem.W.fnOf x qual (defArgs st) (defBody st) (defScope st) .none kV doc pm an cdv ct) ⟨us, []⟩ = pure (ps.zip us)) : Binds K (PySem.W.fnOf x qual (defArgs st) (defBody st) (defScope st) .none kV doc pm an cdv ct) ps [] := .all h
/-- .. n values given, the rest from the defaults behind the first j -/
theorem bindsXD {x qual : Str} {st : Stmt} {kV doc pm : Value} {an : Option Addr} {cdv ct : Value} {ps : List Str} {T : Addr} {o : Obj} {its : List Value} {m : Nat} (n j : Nat) (lT : K.lookup T = some o) (oT : o.data = .seq its.toArray m) (hn : n + (its.length - j) = ps.length)
    (h : ∀ us : List Value, us.length = n → ∃ k, bindArgs (PySem.W.fnOf x qual (defArgs st) (defBody st) (defScope st) (.ref T) kV doc pm an cdv ct) ⟨us, []⟩ = seqItems? (.ref T) >>= k ∧ k (some its.toArray) = pure (ps.zip (us ++ its.drop j))) :
    Binds K (PySem.W.fnOf x qual (defArgs st) (defBody st) (defScope st) (.ref T) kV doc pm an cdv ct) ps (its.drop j) := fun s us X hlen => by
  have l2 : us.length = n := by
    rw [List.length_append, List.length_drop] at hlen
    omega
  obtain ⟨k, e1, e2⟩ := h us l2
  refine BindsTo.of_looks fun M => ?_
  rw [e1]
  exact looks_items X lT oT (.of_pure e2)
/-- the place of a def's body -/
abbrev bx (P : Program) (w : World) (K : PySem.W.Frag) (mg : Str → Option Value) (base : Heap) (N : List Str) (qual : Str) (st : Stmt) (f : Addr) (cdv : Value) (A : Around) (outer : List Env) (s : Shared) (H : Hp) (E : XK) : Cx :=
  cxOf (L2.CX P w) P w K mg base N qual (defScope st) f cdv A outer s H E
theorem passE {N : List Str} {qual : Str} {st : Stmt} {f : Addr} {cdv : Value} {A : Around} {outer : List Env} {s : Shared} {H : Hp} {E : XK} : Passes (L2.CX P w) (bx P w K mg base N qual st f cdv A outer s H E) E :=
  passes_call (X := bx P w K mg base N qual st f cdv A outer s H E) (W := fun c d _ H => E c d H) (takes_of rfl rfl rfl rfl) fun _ _ _ _ h => h
theorem fn_ok {x qual : Str} {st : Stmt} {f : Addr} {fd : FuncData} {N ps : List Str} {k : Nat} {wp : Wp} (n : Nat) (hn : N.length = n) (F : FunX K x qual st f fd) (S : FnScope N ps (defScope st)) (len : ∀ ds Q Ed, wp ds Q Ed → ds.length = ps.length)
    (body : ∀ (cdv : Value) (A : Around) (outer : List Env) (s : Shared) (H : Hp) (E : XK), Room k (A.deeper (envOfC qual (defScope st) s.heap.objs.size f cdv)) → ∀ (ds : List D) (Qd : D → Prop) (Ed : DX → Prop), wp ds Qd Ed →
      ∃ ts bs, JB (bx P w K mg base N qual st f cdv A outer s H E) Ed E (defBody st) ts bs ∧ bs { nx := fun _ => Qd .non, rt := fun x _ => Qd x } (startD n ds)) (hz : n ≤ 1000 := by decide) : FnOk P w K mg base (L2.CX P w) (k + 1) f fd ps (SpW K wp) := by
  have hpl : ps.length ≤ N.length := by
    have e := congrArg List.length S.pre
    rw [List.length_take] at e
    omega
  subst hn
  refine F.okX S (fun vs H Q E h => ?_) (fun cdv A outer s H vs Q E hr h => ?_)
  · obtain ⟨H0, ds, Qd, Ed, sm, r, hw, _⟩ := h
    rw [r.length]
    exact len ds Qd Ed hw
  · obtain ⟨H0, ds, Qd, Ed, sm, r, hw, q, x⟩ := h
    obtain ⟨ts, bs, jb, hb⟩ := body cdv A outer s H E hr ds Qd Ed hw
    refine ⟨ts, jb.pe, jb.sim H0 H _ H0 H _ _ (startS sm r (by rw [len ds Qd Ed hw]; exact hpl) hz) x { nx := fun _ => Qd .non, rt := fun x _ => Qd x } _ ⟨fun A H0' H' σ ρ R h => q .non .non H0' H' R.gr rfl h, fun A H0' H' σ ρ d v R rv h => q d v H0' H' R.gr rv h, fun _ _ _ _ _ _ h => h.elim, fun _ _ _ _ _ _ h => h.elim⟩ hb⟩
/-- a def of the module by its name; dvs, dd: what fills the parameters that are not given -/
structure Callee (P : Program) (w : World) (K : PySem.W.Frag) (mg : Str → Option Value) (base : Heap) (x : Str) (k : Nat) (wp : Wp) (dvs : List V) (dd : List D) : Prop where
  ex : ∃ (f : Addr) (fd : FuncData) (ps : List Str) (ds : List Value), mg x = some (.ref f) ∧ PySem.W.keepIn K (.ref f) = true ∧ FnOk P w K mg base (L2.CX P w) k f fd ps (SpW K wp) ∧ Binds K fd ps ds ∧ Vals dvs ds ∧ ∀ H, Reps K H dd dvs
theorem Callee.mono {x : Str} {j k : Nat} {wp : Wp} {dvs : List V} {dd : List D} (c : Callee P w K mg base x j wp dvs dd) (h : j ≤ k) : Callee P w K mg base x k wp dvs dd := by
  obtain ⟨f, fd, ps, ds, h1, h2, F, h3⟩ := c.ex
  exact ⟨f, fd, ps, ds, h1, h2, F.mono h, h3⟩
end
section
variable {X : Cx} {Ed : DX → Prop} {E : XK} {K : PySem.W.Frag} {pos p : Pos} {e a b c o : Expr} {te ta tb tc : TE} {de da db dc : DE} {tal : TA} {dal : DA} {es : List Expr} {wp : Wp} {k : Nat} {x : Str}
def dCall (wp : Wp) (Ed : DX → Prop) (da : DA) (ρ : Rho) (Q : D → Prop) : Prop := da ρ fun ds => wp ds Q Ed
def dCallD (wp : Wp) (dd : List D) (Ed : DX → Prop) (da : DA) (ρ : Rho) (Q : D → Prop) : Prop := da ρ fun ds => wp (ds ++ dd) Q Ed
theorem sp_of {B0 B1 H0 H : Hp} {A : Nat → Option Addr} {σ : L2.St} {ρ : Rho} {ds : List D} {vs : List V} {Qd : D → Prop} {Q : VK} (R : RepS K B0 B1 A H0 H σ ρ) (x : ExRel K B0 B1 Ed E) (r : Reps K H0 ds vs) (h : wp ds Qd Ed)
    (q : ∀ x v H0' H', RepS K B0 B1 A H0' H' σ ρ → Grow H0 H H0' H' → Rep K H0' x v → Qd x → Q v H') : SpW K wp vs H Q E :=
  ⟨H0, ds, Qd, Ed, R.ex, r, h, fun d v H0' H' g rv hd => q d v H0' H' (R.grow g) g rv hd, x.grow R.ex fun _ _ g => R.gr.trans g⟩
theorem sim_call (ha : SimA K Ed E tal dal) : SimE K Ed E (tCall (SpW K wp) [] E tal) (dCall wp Ed dal) := fun B0 B1 A H0 H σ ρ R X Qd h Q q =>
  ha B0 B1 A H0 H σ ρ R X _ h _ fun ds vs H1 H2 R1 g1 r1 k => by
    rw [List.append_nil]
    exact sp_of R1 X r1 k fun x v H3 H4 R2 g2 r2 k2 => q x v H3 H4 R2 (g1.trans g2) r2 k2
theorem e_call (F : Callee X.prog X.w X.K X.mg X.base x k wp [] []) (hr : Room k X.A) (hx : Passes (L2.CX X.prog X.w) X E) (ha : JA X Ed E (e :: es) tal dal) (hg : Gl X x := by rfl) (hdb : (x == ("__debug__" : Str)) = false := by decide)
    (he : starEach (e :: es) X.env = (false, eval e X.env) :: starEach es X.env := by rfl) (hpl : (backTo pos (starEach es X.env)).any (·.1) = false := by rfl) : JE X Ed E (.Call (.Name x p) (e :: es) [] pos) (tCall (SpW X.K wp) [] E tal) (dCall wp Ed dal) := by
  obtain ⟨f, fd, ps, ds, h1, h2, h3, h4, h5, h6⟩ := F.ex
  exact ⟨pe_call h3 hr hg h1 h2 h4 h5 hx ha.pe hdb he hpl, sim_call ha.sim⟩
def dCB (rd : List D → (D → Prop) → Prop) (da : DA) (ρ : Rho) (Q : D → Prop) : Prop := da ρ fun ds => rd ds Q
theorem sim_CB {r : List V → Hp → VK → Prop} {rd : List D → (D → Prop) → Prop} (sr : SimRC K r rd) (ha : SimA K Ed E tal dal) : SimE K Ed E (tCB r tal) (dCB rd dal) := fun B0 B1 A H0 H σ ρ R X Qd h Q q =>
  ha B0 B1 A H0 H σ ρ R X _ h _ fun ds vs H1 H2 R1 g1 r1 k => sr H1 H2 vs ds R1.ex r1 Qd k Q fun z v H3 H4 g3 r3 k3 => q z v H3 H4 (R1.grow g3) (g1.trans g3) r3 k3
theorem e_callB {id : String} {r : List V → Hp → VK → Prop} {rd : List D → (D → Prop) → Prop} (hc : CallR X (.builtin id) r) (sr : SimRC X.K r rd) (hm : X.mg x = none) (ha : JA X Ed E (e :: es) tal dal) (hv : bootBuiltins x = some (.builtin id) := by decide +kernel) (hg : Gl X x := by rfl) (hn : x ≠ "__name__" := by decide) (hdb : (x == ("__debug__" : Str)) = false := by decide)
    (he : starEach (e :: es) X.env = (false, eval e X.env) :: starEach es X.env := by rfl) (hpl : (backTo pos (starEach es X.env)).any (·.1) = false := by rfl) : JE X Ed E (.Call (.Name x p) (e :: es) [] pos) (tCB r tal) (dCB rd dal) :=
  ⟨pe_callB hc hg hm hv ha.pe hn hdb he hpl, sim_CB sr ha.sim⟩
theorem e_callTy {T : String} {r : List V → Hp → VK → Prop} {rd : List D → (D → Prop) → Prop} (hc : CallR X (.type T) r) (sr : SimRC X.K r rd) (hm : X.mg x = none) (ha : JA X Ed E (e :: es) tal dal) (hv : bootBuiltins x = some (.type T) := by decide +kernel) (hg : Gl X x := by rfl) (hn : x ≠ "__name__" := by decide) (hdb : (x == ("__debug__" : Str)) = false := by decide)
    (he : starEach (e :: es) X.env = (false, eval e X.env) :: starEach es X.env := by rfl) (hpl : (backTo pos (starEach es X.env)).any (·.1) = false := by rfl) : JE X Ed E (.Call (.Name x p) (e :: es) [] pos) (tCB r tal) (dCB rd dal) :=
  ⟨pe_callTy hc hg hm hv ha.pe hn hdb he hpl, sim_CB sr ha.sim⟩
def fget (f : Str) : List (Str × D) → Option D
  | [] => none
  | (g, d) :: r => if f = g then some d else fget f r
theorem fget_lookup (f : Str) : ∀ fs : List (Str × D), fget f fs = fs.lookup f
  | [] => rfl
  | (g, d) :: r => by
    unfold fget
    by_cases h : f = g
    · subst h
      rw [if_pos rfl, List.lookup_cons_self]
    · have hb : (f == g) = false := by simpa using h
      rw [if_neg h, fget_lookup f r]
      simp only [List.lookup, hb]
def fput (f : Str) (v : D) : List (Str × D) → List (Str × D)
  | [] => [(f, v)]
  | (g, x) :: r => if g = f then (g, v) :: r else (g, x) :: fput f v r
theorem fput_rep {H : Hp} {f : Str} {d : D} {v : V} (rv : Rep K H d v) : ∀ {fs : List (Str × D)} {vs : List (Str × V)}, Repf K H fs vs → Repf K H (fput f d fs) (putF f v vs)
  | [], vs, h => by
    cases (show vs = _ from h)
    exact ⟨v, [], rfl, rv, rfl⟩
  | (g, x) :: r, vs, ⟨u, ur, e, h1, h2⟩ => by
    subst e
    unfold fput putF
    by_cases hg : g = f
    · rw [if_pos hg, if_pos hg]
      exact ⟨v, ur, rfl, rv, h2⟩
    · rw [if_neg hg, if_neg hg]
      exact ⟨u, _, rfl, h1, fput_rep rv h2⟩
def dFld (C : Addr) (f : Str) (da : DE) (ρ : Rho) (Q : D → Prop) : Prop := da ρ fun o => match o with
  | .ins C' fs => C' = C ∧ onS (fget f fs) Q
  | _ => False
theorem sim_fld {C : Addr} {f : Str} (c : Cls K C) (n : NoAttr K C f) (ha : SimE K Ed E ta da) : SimE K Ed E (tFld K ta f) (dFld C f da) := fun B0 B1 A H0 H σ ρ R X Qd h Q q =>
  ha B0 B1 A H0 H σ ρ R X _ h _ fun o v H1 H2 R1 g1 r1 k => by
    split at k
    · obtain ⟨rfl, k⟩ := k
      obtain ⟨d, hd, k⟩ := onS_at k
      obtain ⟨l, dx, fvs, rfl, hl, rf⟩ := r1
      rw [fget_lookup] at hd
      obtain ⟨u, hu, ru⟩ := rf.get hd
      exact ⟨l, _, dx, fvs, u, rfl, R1.ex _ _ hl, c, n, hu, q d u H1 H2 R1 g1 ru k⟩
    · exact k.elim
theorem e_fld {C : Addr} {f : Str} (c : Cls X.K C) (n : NoAttr X.K C f) (ha : JE X Ed E e ta da) (hb : attributeBase e f X.env (eval e X.env) = eval e X.env := by rfl) : JE X Ed E (.Attribute e f pos) (tFld X.K ta f) (dFld C f da) := ⟨pe_fld ha.pe hb, sim_fld c n ha.sim⟩
/-- .. of a thing of one's own -/
def dFldO (i : Nat) (C : Addr) (f : Str) (ρ : Rho) (Q : D → Prop) : Prop := match lk i ρ with
  | some (.ins _ C' fs) => C' = C ∧ onS (fget f fs) Q
  | _ => False
/-- self.f = e, self one's own -/
def dPutO (i : Nat) (C : Addr) (f : Str) (de : DE) (d : DEnds) (ρ : Rho) : Prop := de ρ fun y => match lk i ρ with
  | some (.ins x C' fs) => C' = C ∧ fs.length < 1000 ∧ d.nx (ρ.set i (some (.ins x C (fput f y fs))))
  | _ => False
theorem repf_len {H : Hp} : ∀ {fs : List (Str × D)} {vs : List (Str × V)}, Repf K H fs vs → vs.length = fs.length
  | [], vs, h => by cases (show vs = _ from h); rfl
  | (g, x) :: r, vs, ⟨u, ur, e, _, h2⟩ => by subst e; exact congrArg (· + 1) (repf_len h2)
theorem st_putO {C : Addr} {f y : Str} {p2 p3 : Pos} (i : Nat) (c : Cls X.K C) (n : NoAttr X.K C f) (he : JE X Ed E e te de) (hN : X.N[i]? = some y := by rfl) (hv : Vis X.env.scope y := by first | exact Or.inl rfl | exact Or.inr (Or.inl rfl) | exact Or.inr (Or.inr rfl)) (hd : (y == ("__debug__" : Str)) = false := by decide)
    (hcd : (y == ("__classdict__" : Str)) = false := by decide) (hs : swapsWith e (some (.Attribute (.Name y p2) f p3)) pos.line X.env = pure false := by rfl) : JS X Ed E (.Assign [.Attribute (.Name y p2) f p3] e pos) (sFld X.K (tVar i) te f) (dPutO i C f de) :=
  ⟨ps_fld (pe_var hN hv hd hcd) he.pe hs, fun B0 B1 A H0 H σ ρ R X d D r h => he.sim B0 B1 A H0 H σ ρ R X _ h _ fun y v H1 H2 R1 g1 r1 k => by
    split at k
    · rename_i x C' fs e
      obtain ⟨rfl, hl, k⟩ := k
      obtain ⟨l, ho, e1, e2, n0, nb, hh, rr⟩ := R1.ownAt (lk_some e) (fun _ z => nomatch z)
      obtain ⟨rfl, dx, fvs, rfl, rf⟩ := rr
      have hi : i < ρ.length := (List.getElem?_eq_some_iff.mp (lk_some e)).1
      refine ⟨.ref x, e1, x, _, dx, fvs, rfl, hh, c, n, by rw [repf_len rf]; exact hl, r.nx _ H1 _ σ _ (R1.updOwn (w := .ins x C' (fput f y fs)) hi e1 e2 ⟨rfl, dx, _, rfl, fput_rep r1 rf⟩) k⟩
    · exact k.elim⟩
/-- o.m(e, ..) -/
structure Metd (P : Program) (w : World) (K : PySem.W.Frag) (mg : Str → Option Value) (base : Heap) (C : Addr) (m : Str) (k : Nat) (wp : Wp) (dvs : List V) (dd : List D) : Prop where
  cls : Cls K C
  ex : ∃ (f : Addr) (fd : FuncData) (ps : List Str) (ds : List Value), Meth K C m f ∧ FnOk P w K mg base (L2.CX P w) k f fd ps (SpW K wp) ∧ Binds K fd ps ds ∧ Vals dvs ds ∧ ∀ H, Reps K H dd dvs
def dMeth (C : Addr) (m : Str) (wp : Wp) (dd : List D) (Ed : DX → Prop) (da : DE) (dal : DA) (ρ : Rho) (Q : D → Prop) : Prop := da ρ fun o => match o with
  | .ins C' fs => C' = C ∧ fget m fs = none ∧ dal ρ fun ds => wp (.ins C' fs :: (ds ++ dd)) Q Ed
  | _ => False
theorem sim_meth {C : Addr} {m : Str} {dvs : List V} {dd : List D} (hd : ∀ H, Reps K H dd dvs) (hs : SimE K Ed E ta da) (ha : SimA K Ed E tal dal) : SimE K Ed E (tMeth C m (SpW K wp) dvs E ta tal) (dMeth C m wp dd Ed da dal) := fun B0 B1 A H0 H σ ρ R X Qd h Q q =>
  hs B0 B1 A H0 H σ ρ R X _ h _ fun o v H1 H2 R1 g1 r1 k => by
    split at k
    · obtain ⟨rfl, hn, k⟩ := k
      obtain ⟨l, dx, fvs, rfl, hl, rf⟩ := r1
      rw [fget_lookup] at hn
      refine ⟨l, dx, fvs, rfl, R1.ex _ _ hl, rf.none_of hn, ha B0 B1 A H1 H2 σ ρ R1 X _ k _ fun ds vs H3 H4 R2 g2 r2 k2 => ?_⟩
      refine sp_of (ds := .ins _ _ :: (ds ++ dd)) R2 X ⟨.ref l, _, rfl, ⟨l, dx, fvs, rfl, g2.g0 _ _ hl, Repf.mono g2.g0 _ _ rf⟩, r2.append (hd _)⟩ k2 fun x v H5 H6 R3 g3 r3 k3 => q x v H5 H6 R3 ((g1.trans g2).trans g3) r3 k3
    · exact k.elim
theorem e_meth {C : Addr} {m : Str} {dvs : List V} {dd : List D} {apos : Pos} {pl : Sem Bool} (M : Metd X.prog X.w X.K X.mg X.base C m k wp dvs dd) (hr : Room k X.A) (hx : Passes (L2.CX X.prog X.w) X E) (ho : JE X Ed E o ta da) (ha : JA X Ed E (e :: es) tal dal)
    (hst : starEach (e :: es) X.env = (false, eval e X.env) :: starEach es X.env := by rfl) (hpl : (backTo pos (starEach es X.env)).any (·.1) = false := by rfl)
    (ht : eval (.Call (.Attribute o m apos) (e :: es) [] pos) X.env = (do
      let ov ← eval o X.env
      standAt apos.atName
      let (f, first) ← holding [ov] (getMethod ov m pl)
      callWith pos f first (backTo pos (starEach (e :: es) X.env)) (backToKw pos (keywordEach [] X.env))) := by rfl) : JE X Ed E (.Call (.Attribute o m apos) (e :: es) [] pos) (tMeth C m (SpW X.K wp) dvs E ta tal) (dMeth C m wp dd Ed da dal) := by
  obtain ⟨f, fd, ps, ds, h1, h2, h3, h4, h5⟩ := M.ex
  exact ⟨pe_meth ho.pe M.cls h1 h2 hr h3 h4 hx ha.pe hst hpl ht, sim_meth h5 ho.sim ha.sim⟩
abbrev WpI := List D → (List (Str × D) → Prop) → (DX → Prop) → Prop
def wo (H : Hp) (x : Addr) : Hp := fun p => if p = x then none else H p
theorem wo_same {H : Hp} {x : Addr} : wo H x x = none := if_pos rfl
theorem wo_ne {H : Hp} {x p : Addr} (h : p ≠ x) : wo H x p = H p := if_neg h
theorem wo_sub {H : Hp} {x : Addr} : Same (wo H x) H := fun b o e => by
  by_cases hb : b = x
  · subst hb
    rw [wo_same] at e
    cases e
  · rw [wo_ne hb] at e
    exact e
def SpI (K : PySem.W.Frag) (C : Addr) (wp : WpI) : Sp := fun vs H Q E => ∃ (x dx : Addr) (ws : List V) (H0 : Hp) (ds : List D) (Qf : List (Str × D) → Prop) (Ed : DX → Prop), vs = .ref x :: ws ∧ H x = some (.ins C dx []) ∧ H0 x = none ∧ Same H0 H ∧ Reps K H0 ds ws ∧ wp ds Qf Ed ∧
  (∀ fs dx' fvs H0' H', Grow H0 (wo H x) H0' H' → H0' x = none → H' x = some (.ins C dx' fvs) → Repf K H0' fs fvs → Qf fs → Q .non H') ∧ ExRel K H0 (wo H x) Ed E
structure Maker (P : Program) (w : World) (K : PySem.W.Frag) (mg : Str → Option Value) (base : Heap) (x : Str) (C : Addr) (k : Nat) (wp : WpI) (dvs : List V) (dd : List D) : Prop where
  ex : ∃ (f : Addr) (fd : FuncData) (ps : List Str) (ds : List Value), mg x = some (.ref C) ∧ Mk K C f ∧ FnOk P w K mg base (L2.CX P w) k f fd ps (SpI K C wp) ∧ Binds K fd ps ds ∧ Vals dvs ds ∧ ∀ H, Reps K H dd dvs
def dMake (C : Addr) (wp : WpI) (dd : List D) (Ed : DX → Prop) (da : DA) (ρ : Rho) (Q : D → Prop) : Prop := da ρ fun ds => wp (ds ++ dd) (fun fs => Q (.ins C fs)) Ed
theorem sim_make {C : Addr} {wp : WpI} {dvs : List V} {dd : List D} (hd : ∀ H, Reps K H dd dvs) (ha : SimA K Ed E tal dal) : SimE K Ed E (tMake C (SpI K C wp) dvs E tal) (dMake C wp dd Ed dal) := fun B0 B1 A H0 H σ ρ R X Qd h Q q =>
  ha B0 B1 A H0 H σ ρ R X _ h _ fun ds vs H1 H2 R1 g1 r1 k => fun x dx nx ndx nex => by
    have n0 : H1 x = none := R1.ex.free nx
    have sub : Same H2 (wo (upd (upd H2 dx (.own x)) x (.ins C dx [])) x) := fun b o e => by
      have bx : b ≠ x := ne_of_none e nx
      rw [wo_ne bx, upd_ne bx, upd_ne (ne_of_none e ndx)]
      exact e
    have sm2 : Same H1 (upd (upd H2 dx (.own x)) x (.ins C dx [])) := (R1.ex.trans sub).trans wo_sub
    refine ⟨x, dx, vs ++ dvs, H1, ds ++ dd, _, Ed, rfl, upd_same, n0, sm2, r1.append (hd _), k, fun fs dx' fvs H0' H' g n' hx' rf hq => ⟨rfl, ?_⟩, X.grow (R1.ex.trans sub) fun H0' H' g => ?_⟩
    · have gx : Grow H1 H2 (upd H0' x (.ins C dx' fvs)) H' := ⟨g.g0.trans (same_upd n'), sub.ext.trans g.g1, fun b o e => by
          by_cases hb : b = x
          · subst hb
            rw [upd_same] at e
            cases e
            exact hx'
          · rw [upd_ne hb] at e
            exact g.g2 b o e, fun p hp => by
          have px : p ≠ x := fun z => hp (by rw [z]; exact nx)
          rw [upd_ne px]
          exact g.nw p (ne_none_of sub.ext hp), fun t => td_frz (g.tb (td_of t sub))⟩
      exact q (.ins C fs) (.ref x) _ H' (R1.grow gx) (g1.trans gx) ⟨x, dx', fvs, rfl, upd_same, Repf.mono (same_upd n') _ _ rf⟩ hq
    · exact R1.gr.trans ⟨g.g0, sub.ext.trans g.g1, g.g2, fun p hp => g.nw p (ne_none_of sub.ext hp), fun t => g.tb (td_of t sub)⟩
theorem e_make {C : Addr} {wp : WpI} {dvs : List V} {dd : List D} (M : Maker X.prog X.w X.K X.mg X.base x C k wp dvs dd) (hr : Room (k + 1) X.A) (hx : Passes (L2.CX X.prog X.w) X E) (ha : JA X Ed E (e :: es) tal dal) (hg : Gl X x := by rfl) (hdb : (x == ("__debug__" : Str)) = false := by decide)
    (he : starEach (e :: es) X.env = (false, eval e X.env) :: starEach es X.env := by rfl) (hpl : (backTo pos (starEach es X.env)).any (·.1) = false := by rfl) : JE X Ed E (.Call (.Name x p) (e :: es) [] pos) (tMake C (SpI X.K C wp) dvs E tal) (dMake C wp dd Ed dal) := by
  obtain ⟨f, fd, ps, ds, h1, h2, h3, h4, h5, h6⟩ := M.ex
  exact ⟨pe_make h2 h3 hr hg h1 h4 h5 hx ha.pe hdb he hpl, sim_make h6 ha.sim⟩
end
section
variable {P : Program} {w : World} {K : PySem.W.Frag} {mg : Str → Option Value} {base : Heap}
theorem init_ok {x qual : Str} {st : Stmt} {f C : Addr} {fd : FuncData} {N ps : List Str} {k : Nat} {wp : WpI} (n : Nat) (hn : N.length - 1 = n) (F : FunX K x qual st f fd) (S : FnScope N ps (defScope st)) (len : ∀ ds Q Ed, wp ds Q Ed → ds.length + 1 = ps.length)
    (body : ∀ (cdv : Value) (A : Around) (outer : List Env) (s : Shared) (H : Hp) (E : XK), Room k (A.deeper (envOfC qual (defScope st) s.heap.objs.size f cdv)) → ∀ (x : Addr) (ds : List D) (Qf : List (Str × D) → Prop) (Ed : DX → Prop), wp ds Qf Ed →
      ∃ ts bs, JB (bx P w K mg base N qual st f cdv A outer s H E) Ed E (defBody st) ts bs ∧ bs { nx := fun ρ => (match lk 0 ρ with | some (.ins x' C' fs) => x' = x ∧ C' = C ∧ Qf fs | _ => False), rt := fun _ _ => False } (some (.ins x C []) :: startD n ds)) (hz : n ≤ 999 := by decide) :
    FnOk P w K mg base (L2.CX P w) (k + 1) f fd ps (SpI K C wp) := by
  have hpl : ps.length ≤ N.length := by
    have e := congrArg List.length S.pre
    rw [List.length_take] at e
    omega
  subst hn
  refine F.okX S (fun vs H Q E h => ?_) (fun cdv A outer s H vs Q E hr h => ?_)
  · obtain ⟨x, dx, ws, H0, ds, Qf, Ed, rfl, _, _, sm, r, hw, _⟩ := h
    show ws.length + 1 = _
    rw [r.length]
    exact len ds Qf Ed hw
  · obtain ⟨x, dx, ws, H0, ds, Qf, Ed, rfl, hx, n0, sm, r, hw, q, xr⟩ := h
    obtain ⟨ts, bs, jb, hb⟩ := body cdv A outer s H E hr x ds Qf Ed hw
    have hl := len ds Qf Ed hw
    have hN : 0 < N.length := by omega
    have smw : Same H0 (wo H x) := fun b o e => by
      rw [wo_ne (fun z => by rw [z, n0] at e; cases e)]
      exact sm b o e
    have hv : (V.ref x :: ws).length ≤ N.length := by
      show ws.length + 1 ≤ _
      rw [r.length]
      omega
    have R : RepS K H0 (wo H x) (fun i => if i = 0 then some x else none) H0 H (L2.start N (.ref x :: ws)) (some (.ins x C []) :: startD (N.length - 1) ds) := by
      refine ⟨sm, ⟨.refl _, wo_sub.ext, sm, fun _ _ => rfl, fun t => td_of t wo_sub⟩, by rw [start_len hv]; show N.length = (startD (N.length - 1) ds).length + 1; rw [startD_len]; omega, fun i w e => ?_, fun i j a h1 h2 => ?_, fun i a h => ?_, (by show (startD (N.length - 1) ds).length + 1 ≤ 1000; rw [startD_len]; omega), fun i x C fs q xs e => ?_⟩
      · cases i with
        | zero =>
          have e : some (some (SV.ins x C [])) = some w := e
          cases e
          exact ⟨_, start_at rfl, x, _, rfl, rfl, n0, wo_same, hx, rfl, dx, [], rfl, rfl⟩
        | succ i =>
          have e : (startD (N.length - 1) ds)[i]? = some w := by simpa using e
          rcases startD_at e with rfl | ⟨d, e1, rfl⟩
          · have hi : i + 1 < N.length := by
              have := (List.getElem?_eq_some_iff.mp e).1
              rw [startD_len] at this
              omega
            obtain ⟨v, hv⟩ := start_has hv hi
            exact ⟨v, hv, rfl⟩
          · obtain ⟨v, hv', rv⟩ := r.get e1
            exact ⟨some v, start_at (by simpa using hv'), rfl, v, rfl, rv⟩
      · by_cases hi : i = 0
        · by_cases hj : j = 0
          · rw [hi, hj]
          · rw [if_neg hj] at h2
            cases h2
        · rw [if_neg hi] at h1
          cases h1
      · by_cases hi : i = 0
        · rw [if_pos hi] at h
          cases h
          exact ⟨n0, wo_same, _, hx, plain_ins⟩
        · rw [if_neg hi] at h
          cases h
      · cases i with
        | zero => cases e
        | succ i =>
          have e : (startD (N.length - 1) ds)[i]? = some (some (SV.pg x C fs q xs)) := by simpa using e
          rcases startD_at e with h | ⟨d, _, h⟩ <;> cases h
    refine ⟨ts, jb.pe, jb.sim H0 (wo H x) _ H0 H _ _ R xr { nx := fun ρ => (match lk 0 ρ with | some (.ins x' C' fs) => x' = x ∧ C' = C ∧ Qf fs | _ => False), rt := fun _ _ => False } _ ⟨fun A H0' H' σ ρ R' h => ?_, fun _ _ _ _ _ _ _ _ _ h => h.elim, fun _ _ _ _ _ _ h => h.elim, fun _ _ _ _ _ _ h => h.elim⟩ hb⟩
    dsimp only at h
    split at h
    · rename_i x' C' fs e
      obtain ⟨rfl, rfl, h⟩ := h
      obtain ⟨a, o, e1, e2, m0, mb, hh, rr⟩ := R'.ownAt (lk_some e) (fun _ z => nomatch z)
      obtain ⟨rfl, dx', fvs, rfl, rf⟩ := rr
      exact q fs dx' fvs H0' H' R'.gr m0 hh rf h
    · exact h.elim
end
end DL
namespace DL
variable [TbC]
open PySem PySem.Spec PyProof.Rows L2
section
variable {X : Cx} {Ed : DX → Prop} {E : XK} {K : PySem.W.Frag} {pos p : Pos} {e a b c o e2 : Expr} {te ta tb tc : TE} {de da db dc : DE} {tal : TA} {dal : DA} {es : List Expr} {k : Nat} {x : Str} {tt : TT} {dt : DT}
theorem one_of {H : Hp} {d : D} {vs : List V} (h : Reps K H [d] vs) : ∃ v, vs = [v] ∧ Rep K H d v := by
  obtain ⟨v, r, e, h1, h2⟩ := h
  cases (show r = _ from h2)
  exact ⟨v, e, h1⟩
theorem two_of {H : Hp} {d d2 : D} {vs : List V} (h : Reps K H [d, d2] vs) : ∃ v u, vs = [v, u] ∧ Rep K H d v ∧ Rep K H d2 u := by
  obtain ⟨v, r, e, h1, h2⟩ := h
  obtain ⟨u, e2, h3⟩ := one_of h2
  subst e2
  exact ⟨v, u, e, h1, h3⟩
def tyD : D → Option String
  | .non => some "NoneType"
  | .bl _ => some "bool"
  | .int _ => some "int"
  | .str _ => some "str"
  | .tup _ => some "tuple"
  | .lst _ => some "list"
  | _ => none
theorem ty_of {H0 H : Hp} {d : D} {v : V} {n : String} (sm : Same H0 H) (r : Rep K H0 d v) (h : tyD d = some n) : TyX K H v (.type n) := by
  cases d with
  | non => cases h; subst r; exact .base .non
  | bl b => cases h; subst r; exact .base (.bl b)
  | int b => cases h; subst r; exact .base (.int b)
  | str b => cases h; subst r; exact .base (.str b)
  | tup xs =>
    cases h
    obtain ⟨l, vs, rfl, hs, _⟩ := r
    rcases sqt_mono sm hs with (h | ⟨o, h⟩) | ⟨o, its, n, h1, h2, _⟩
    · exact .base (.tup h)
    · exact .fTuple h
    · exact .kTuple h1 h2
  | lst xs =>
    cases h
    obtain ⟨l, vs, rfl, hs, _⟩ := r
    rcases sm.seq hs with (h | ⟨o, h⟩) | ⟨o, its, n, h1, h2, _⟩
    · exact .base (.lst h)
    · exact .base (.frz h)
    · exact .kList h1 h2
  | _ => cases h
/-- isinstance(x, T), T a built-in class -/
def dIsi (ds : List D) (Q : D → Prop) : Prop := match ds with
  | [x, .ty n] => onS (tyD x) fun m => onS (kitB m n) fun b => Q (.bl b)
  | _ => False
theorem s_isi : SimRC K (rIsi K) dIsi := by
  intro H0 H xs ds sm r Qd h Q q
  unfold dIsi at h
  split at h
  · rename_i d n
    obtain ⟨m, hm, h⟩ := onS_at h
    obtain ⟨b, hb, h⟩ := onS_at h
    obtain ⟨v, u, rfl, h1, h2⟩ := two_of r
    cases (show u = _ from h2)
    exact ⟨v, .ty n, _, _, b, rfl, .ty n, ty_of sm h1 hm, kit_ty hb, q (.bl b) _ H0 H (.refl sm) rfl h⟩
  · exact h.elim
theorem e_isi (hm : X.mg "isinstance" = none) (ha : JA X Ed E (e :: es) tal dal) (hg : Gl X "isinstance" := by rfl) (he : starEach (e :: es) X.env = (false, eval e X.env) :: starEach es X.env := by rfl) (hpl : (backTo pos (starEach es X.env)).any (·.1) = false := by rfl) :
    JE X Ed E (.Call (.Name "isinstance" p) (e :: es) [] pos) (tCB (rIsi X.K) tal) (dCB dIsi dal) := e_callB call_isi s_isi hm ha (by decide +kernel) hg (by decide) (by decide) he hpl
def kitAnyB (m : String) : List D → Option Bool
  | [] => some false
  | .ty n :: r => match kitB m n, kitAnyB m r with
    | some a, some b => some (a || b)
    | _, _ => none
  | _ => none
theorem kitAny_of {m : String} {H : Hp} : ∀ {cs : List D} {vs : List V} {b : Bool}, Reps K H cs vs → kitAnyB m cs = some b → ∃ us, Paired ClsV vs us ∧ PySem.W.kitAny K (.type m) us = some b
  | [], vs, b, r, h => by
    cases (show vs = _ from r)
    exact ⟨[], .nil, by rw [← h]; rfl⟩
  | d :: cs, vs, b, ⟨v, r, e, h1, h2⟩, h => by
    subst e
    cases d with
    | ty n =>
      cases (show v = _ from h1)
      unfold kitAnyB at h
      split at h
      · rename_i b1 b2 hk hr
        cases h
        obtain ⟨us, p, e⟩ := kitAny_of h2 hr
        refine ⟨.type n :: us, .cons (.ty n) p, kitAny_cons (b := b1) (kit_ty hk) (fun z => ?_) fun z => ?_⟩
        · subst z
          rw [e]
          rfl
        · subst z
          rfl
      · cases h
    | _ => cases h
/-- isinstance(x, (S, T, ..)) -/
def dIsiT (ds : List D) (Q : D → Prop) : Prop := match ds with
  | [x, .tup cs] => onS (tyD x) fun m => onS (kitAnyB m cs) fun b => Q (.bl b)
  | _ => False
def dAbs (ds : List D) (Q : D → Prop) : Prop := match ds with
  | [.int i] => Q (.int (if i < 0 then -i else i))
  | _ => False
theorem s_abs : SimRC K (fun xs H Q => ∃ i, xs = [.int i] ∧ Q (.int (if i < 0 then -i else i)) H) dAbs := by
  intro H0 H xs ds sm r Qd h Q q
  unfold dAbs at h
  split at h
  · rename_i i
    obtain ⟨v, rfl, h1⟩ := one_of r
    cases (show v = _ from h1)
    exact ⟨i, rfl, q (.int _) _ H0 H (.refl sm) rfl h⟩
  · exact h.elim
theorem e_abs (hm : X.mg "abs" = none) (ha : JA X Ed E (e :: es) tal dal) (hg : Gl X "abs" := by rfl) (he : starEach (e :: es) X.env = (false, eval e X.env) :: starEach es X.env := by rfl) (hpl : (backTo pos (starEach es X.env)).any (·.1) = false := by rfl) :
    JE X Ed E (.Call (.Name "abs" p) (e :: es) [] pos) (tCB (fun xs H Q => ∃ i, xs = [.int i] ∧ Q (.int (if i < 0 then -i else i)) H) tal) (dCB dAbs dal) := e_callB call_abs s_abs hm ha (by decide +kernel) hg (by decide) (by decide) he hpl
def dIntC (ds : List D) (Q : D → Prop) : Prop := match ds with
  | [.int i] => Q (.int i)
  | [.bl b] => Q (.int (if b then 1 else 0))
  | _ => False
def rIntC : List V → Hp → VK → Prop := fun xs H Q => (∃ i, xs = [.int i] ∧ Q (.int i) H) ∨ ∃ k, xs = [.bl k] ∧ Q (.int (if k then 1 else 0)) H
theorem s_intC : SimRC K rIntC dIntC := by
  intro H0 H xs ds sm r Qd h Q q
  unfold dIntC at h
  split at h
  · rename_i i
    obtain ⟨v, rfl, h1⟩ := one_of r
    cases (show v = _ from h1)
    exact .inl ⟨i, rfl, q (.int _) _ H0 H (.refl sm) rfl h⟩
  · rename_i i
    obtain ⟨v, rfl, h1⟩ := one_of r
    cases (show v = _ from h1)
    exact .inr ⟨i, rfl, q (.int _) _ H0 H (.refl sm) rfl h⟩
  · exact h.elim
theorem e_int_ (hm : X.mg "int" = none) (ha : JA X Ed E (e :: es) tal dal) (hg : Gl X "int" := by rfl) (he : starEach (e :: es) X.env = (false, eval e X.env) :: starEach es X.env := by rfl) (hpl : (backTo pos (starEach es X.env)).any (·.1) = false := by rfl) :
    JE X Ed E (.Call (.Name "int" p) (e :: es) [] pos) (tCB rIntC tal) (dCB dIntC dal) := e_callTy call_int1 s_intC hm ha (by decide +kernel) hg (by decide) (by decide) he hpl
def dLen (ds : List D) (Q : D → Prop) : Prop := match ds with
  | [.lst xs] => Q (.int xs.length)
  | [.tup xs] => Q (.int xs.length)
  | [.lat _ xs] => Q (.int xs.length)
  | [.str z] => z.length ≤ sizeLine ∧ Q (.int z.length)
  | _ => False
def rLen (K : PySem.W.Frag) : List V → Hp → VK → Prop := fun xs H Q => (∃ p ys, xs = [.ref p] ∧ (SqL K H p ys ∨ SqT K H p ys) ∧ Q (.int ys.length) H) ∨ (∃ z, xs = [.str z] ∧ z.length ≤ sizeLine ∧ Q (.int z.length) H)
theorem s_len : SimRC K (rLen K) dLen := by
  intro H0 H xs ds sm r Qd h Q q
  unfold dLen at h
  split at h
  · rename_i ys
    obtain ⟨v, rfl, l, vs, rfl, hs, rr⟩ := one_of r
    exact .inl ⟨l, vs, rfl, .inl (sm.seq hs), by rw [rr.length]; exact q (.int _) _ H0 H (.refl sm) rfl h⟩
  · rename_i ys
    obtain ⟨v, rfl, l, vs, rfl, hs, rr⟩ := one_of r
    exact .inl ⟨l, vs, rfl, .inr (sqt_mono sm hs), by rw [rr.length]; exact q (.int _) _ H0 H (.refl sm) rfl h⟩
  · rename_i c ys
    obtain ⟨v, rfl, rfl, vs, hs, rr⟩ := one_of r
    exact .inl ⟨c, vs, rfl, .inl (sm.seq hs), by rw [rr.length]; exact q (.int _) _ H0 H (.refl sm) rfl h⟩
  · rename_i z
    obtain ⟨v, rfl, h1⟩ := one_of r
    cases (show v = _ from h1)
    exact .inr ⟨z, rfl, h.1, q (.int _) _ H0 H (.refl sm) rfl h.2⟩
  · exact h.elim
theorem e_len (hm : X.mg "len" = none) (ha : JA X Ed E (e :: es) tal dal) (hg : Gl X "len" := by rfl) (he : starEach (e :: es) X.env = (false, eval e X.env) :: starEach es X.env := by rfl) (hpl : (backTo pos (starEach es X.env)).any (·.1) = false := by rfl) :
    JE X Ed E (.Call (.Name "len" p) (e :: es) [] pos) (tCB (rLen X.K) tal) (dCB dLen dal) := e_callB (call_len_seq.or call_len_str) s_len hm ha (by decide +kernel) hg (by decide) (by decide) he hpl
/-- list(x), a new one -/
def dList (ds : List D) (Q : D → Prop) : Prop := match ds with
  | [.lst xs] => Q (.lst xs)
  | [.tup xs] => Q (.lst xs)
  | _ => False
def rList (K : PySem.W.Frag) : List V → Hp → VK → Prop := fun xs H Q => ∃ p ys, xs = [.ref p] ∧ (SqL K H p ys ∨ SqT K H p ys) ∧ ∀ l, H l = none → Q (.ref l) (upd H l (.lst ys))
theorem s_list : SimRC K (rList K) dList := by
  intro H0 H xs ds sm r Qd h Q q
  unfold dList at h
  split at h
  · rename_i ys
    obtain ⟨v, rfl, l, vs, rfl, hs, rr⟩ := one_of r
    refine ⟨l, vs, rfl, .inl (sm.seq hs), fun n hn => ?_⟩
    have g := Grow.new (o := .lst vs) sm hn
    exact q (.lst ys) _ _ _ g ⟨n, vs, rfl, .inl (.inl upd_same), Reps.mono g.g0 _ _ rr⟩ h
  · rename_i ys
    obtain ⟨v, rfl, l, vs, rfl, hs, rr⟩ := one_of r
    refine ⟨l, vs, rfl, .inr (sqt_mono sm hs), fun n hn => ?_⟩
    have g := Grow.new (o := .lst vs) sm hn
    exact q (.lst ys) _ _ _ g ⟨n, vs, rfl, .inl (.inl upd_same), Reps.mono g.g0 _ _ rr⟩ h
  · exact h.elim
theorem e_list (hm : X.mg "list" = none) (ha : JA X Ed E (e :: es) tal dal) (hg : Gl X "list" := by rfl) (he : starEach (e :: es) X.env = (false, eval e X.env) :: starEach es X.env := by rfl) (hpl : (backTo pos (starEach es X.env)).any (·.1) = false := by rfl) :
    JE X Ed E (.Call (.Name "list" p) (e :: es) [] pos) (tCB (rList X.K) tal) (dCB dList dal) := e_callTy call_list_of s_list hm ha (by decide +kernel) hg (by decide) (by decide) he hpl
/-- tuple(x) -/
def dTuple (ds : List D) (Q : D → Prop) : Prop := match ds with
  | [.lst xs] => Q (.tup xs)
  | [.tup xs] => Q (.tup xs)
  | _ => False
/-- a list of bools, of ints -/
def bools : List D → Option (List Bool)
  | [] => some []
  | .bl b :: r => (bools r).map (b :: ·)
  | _ => none
def intL : List D → Option (List Int)
  | [] => some []
  | .int b :: r => (intL r).map (b :: ·)
  | _ => none
theorem bools_rep {H : Hp} : ∀ {xs : List D} {vs : List V} {bs : List Bool}, Reps K H xs vs → bools xs = some bs → vs = bs.map V.bl
  | [], vs, bs, r, h => by
    cases h
    exact r
  | d :: xs, vs, bs, ⟨v, vr, e, h1, h2⟩, h => by
    subst e
    cases d with
    | bl b =>
      cases (show v = _ from h1)
      unfold bools at h
      cases hb : bools xs with
      | none => rw [hb] at h; cases h
      | some cs =>
        rw [hb] at h
        cases h
        rw [bools_rep h2 hb]
        rfl
    | _ => cases h
def dAllB (ds : List D) (Q : D → Prop) : Prop := match ds with
  | [.lst xs] => onS (bools xs) fun bs => Q (.bl (bs.all id))
  | _ => False
def dAnyB (ds : List D) (Q : D → Prop) : Prop := match ds with
  | [.lst xs] => onS (bools xs) fun bs => Q (.bl (bs.any id))
  | _ => False
def dSum (ds : List D) (Q : D → Prop) : Prop := match ds with
  | [.lst xs] => onS (intL xs) fun bs => Q (.int bs.sum)
  | _ => False
theorem s_all : SimRC K (rAll K) dAllB := by
  intro H0 H xs ds sm r Qd h Q q
  unfold dAllB at h
  split at h
  · obtain ⟨bs, hb, h⟩ := onS_at h
    obtain ⟨v, rfl, l, vs, rfl, hs, rr⟩ := one_of r
    rw [bools_rep rr hb] at hs
    exact ⟨l, bs, rfl, sm.seq hs, q (.bl _) _ H0 H (.refl sm) rfl h⟩
  · exact h.elim
theorem e_all (hc : X.calm = true) (hm : X.mg "all" = none) (ha : JA X Ed E (e :: es) tal dal) (hg : Gl X "all" := by rfl) (he : starEach (e :: es) X.env = (false, eval e X.env) :: starEach es X.env := by rfl) (hpl : (backTo pos (starEach es X.env)).any (·.1) = false := by rfl) :
    JE X Ed E (.Call (.Name "all" p) (e :: es) [] pos) (tCB (rAll X.K) tal) (dCB dAllB dal) := e_callB (cr_all hc) s_all hm ha (by decide +kernel) hg (by decide) (by decide) he hpl
abbrev DO := Rho → (Option Int → Prop) → Prop
def SimO (K : PySem.W.Frag) (Ed : DX → Prop) (E : XK) (to : TO) (d : DO) : Prop := ∀ B0 B1 A H0 H σ ρ, RepS K B0 B1 A H0 H σ ρ → ExRel K B0 B1 Ed E → ∀ Qd : Option Int → Prop, d ρ Qd → ∀ Q : Option Int → Hp → Prop,
  (∀ x H0' H', RepS K B0 B1 A H0' H' σ ρ → Grow H0 H H0' H' → Qd x → Q x H') → to σ H Q
structure JO (X : Cx) (Ed : DX → Prop) (E : XK) (e : Option Expr) (to : TO) (d : DO) : Prop where
  pe : PO X e to
  sim : SimO X.K Ed E to d
def dNoPart (_ : Rho) (Q : Option Int → Prop) : Prop := Q none
def dPart (de : DE) (ρ : Rho) (Q : Option Int → Prop) : Prop := de ρ fun x => match x with
  | .int i => Q (some i)
  | _ => False
theorem o_none : JO X Ed E none tNoPart dNoPart := ⟨po_none, fun B0 B1 A H0 H σ ρ R X Qd h Q q => q none H0 H R (.refl R.ex) h⟩
theorem o_some (h : JE X Ed E e te de) : JO X Ed E (some e) (tPart te) (dPart de) := ⟨po_some h.pe, fun B0 B1 A H0 H σ ρ R X Qd hd Q q => h.sim B0 B1 A H0 H σ ρ R X _ hd _ fun x v H1 H2 R1 g1 r1 k => by
  split at k
  · exact ⟨_, r1, q _ H1 H2 R1 g1 k⟩
  · exact k.elim⟩
def cutD {α : Type} (xs : List α) (lo hi : Option Int) : List α := (xs.drop (HT.sIx xs.length 0 lo)).take (HT.sIx xs.length xs.length hi - HT.sIx xs.length 0 lo)
theorem cut_rep {H : Hp} {xs : List D} {vs : List V} (r : Reps K H xs vs) (lo hi : Option Int) : Reps K H (cutD xs lo hi) (cutV vs lo hi) := by
  unfold cutD cutV
  rw [r.length]
  exact Reps.take _ (Reps.drop _ r)
/-- xs[lo:hi] of a list -/
def dSlL (x : D) (lo hi : Option Int) (Q : D → Prop) : Prop := match x with
  | .lst xs => Q (.lst (cutD xs lo hi))
  | _ => False
def dSl (r : D → Option Int → Option Int → (D → Prop) → Prop) (de : DE) (dl dh : DO) (ρ : Rho) (Q : D → Prop) : Prop := de ρ fun x => dl ρ fun l => dh ρ fun h => r x l h Q
def SimSl (K : PySem.W.Frag) (r : V → Option Int → Option Int → Hp → VK → Prop) (rd : D → Option Int → Option Int → (D → Prop) → Prop) : Prop := ∀ (H0 H : Hp) (x : V) (d : D) (lo hi : Option Int), Same H0 H → Rep K H0 d x → ∀ Qd : D → Prop, rd d lo hi Qd → ∀ Q : VK,
  (∀ z v H0' H', Grow H0 H H0' H' → Rep K H0' z v → Qd z → Q v H') → r x lo hi H Q
theorem s_slL : SimSl K (rSlL K) dSlL := by
  intro H0 H x d lo hi sm r Qd h Q q
  unfold dSlL at h
  split at h
  · rename_i xs
    obtain ⟨l, vs, rfl, hs, rr⟩ := r
    refine ⟨l, vs, rfl, sm.seq hs, fun n hn => ?_⟩
    have g := Grow.new (o := .lst (cutV vs lo hi)) sm hn
    exact q (.lst _) _ _ _ g ⟨n, _, rfl, .inl (.inl upd_same), Reps.mono g.g0 _ _ (cut_rep rr lo hi)⟩ h
  · exact h.elim
theorem e_slice {r : V → Option Int → Option Int → Hp → VK → Prop} {rd : D → Option Int → Option Int → (D → Prop) → Prop} {lo hi : Option Expr} {tl th : TO} {dl dh : DO} {p2 : Pos} (hr : SlR X r) (sr : SimSl X.K r rd) (he : JE X Ed E e te de) (hl : JO X Ed E lo tl dl) (hu : JO X Ed E hi th dh) :
    JE X Ed E (.Subscript e (.Slice lo hi none p2) pos) (tSl r te tl th) (dSl rd de dl dh) := ⟨pe_slice hr he.pe hl.pe hu.pe, fun B0 B1 A H0 H σ ρ R X Qd h Q q =>
  he.sim B0 B1 A H0 H σ ρ R X _ h _ fun x v H1 H2 R1 g1 r1 k => hl.sim B0 B1 A H1 H2 σ ρ R1 X _ k _ fun l H3 H4 R2 g2 k2 => hu.sim B0 B1 A H3 H4 σ ρ R2 X _ k2 _ fun u H5 H6 R3 g3 k3 =>
    sr H5 H6 v x l u R3.ex (Rep.mono g3.g0 _ _ (Rep.mono g2.g0 _ _ r1)) Qd k3 Q fun z w H7 H8 g4 r4 k4 => q z w H7 H8 (R3.grow g4) (((g1.trans g2).trans g3).trans g4) r4 k4⟩
theorem e_slL {lo hi : Option Expr} {tl th : TO} {dl dh : DO} {p2 : Pos} (he : JE X Ed E e te de) (hl : JO X Ed E lo tl dl) (hu : JO X Ed E hi th dh) : JE X Ed E (.Subscript e (.Slice lo hi none p2) pos) (tSl (rSlL X.K) te tl th) (dSl dSlL de dl dh) := e_slice sl_list s_slL he hl hu
def wipeD (ρ : Rho) : List Nat → Rho
  | [] => ρ
  | v :: vs => (wipeD ρ vs).set v none
def dTs1 (_ : Rho) (Q : Bool → Prop) : Prop := Q true
structure JTs (X : Cx) (Ed : DX → Prop) (E : XK) (ifs : List Expr) (tt : TT) (dt : DT) : Prop where
  pe : PTs X ifs tt
  sim : SimT X.K Ed E tt dt
theorem ts_nil : JTs X Ed E [] tYes dTs1 := ⟨pts_nil, fun B0 B1 A H0 H σ ρ R X Qd hd Q q => q true H0 H R (.refl R.ex) hd⟩
def compD (g : DG) (tt : DT) (te : DE) : List D → List D → Rho → (D → Prop) → Prop
  | [], acc, _, Q => Q (.lst acc)
  | x :: r, acc, ρ, Q => g x ρ fun ρ' => tt ρ' fun b => if b = true then te ρ' fun y => acc.length < 100000 ∧ compD g tt te r (acc ++ [y]) ρ Q else compD g tt te r acc ρ Q
def dComp (di : DI) (g : DG) (tt : DT) (te : DE) (vs : List Nat) (ρ : Rho) (Q : D → Prop) : Prop := di ρ fun xs => compD g tt te xs [] (wipeD ρ vs) Q
/-- the target's names are the block's own -/
def OwnG (g : TG) (vs : List Nat) : Prop := ∀ (x : V) (σ : L2.St) (H : Hp) (Q Q' : L2.St → Hp → Prop), g x σ H Q → (∀ σ', Q σ' H → wipe σ' vs = wipe σ vs → Q' σ' H) → g x σ H Q'
theorem wipe_get {σ : L2.St} : ∀ (vs : List Nat) (j : Nat), (L2.wipe σ vs)[j]? = if j ∈ vs ∧ j < σ.length then some none else σ[j]?
  | [], j => by simp [L2.wipe]
  | v :: vs, j => by
    have ih := wipe_get (σ := σ) vs j
    unfold L2.wipe
    by_cases hj : v = j
    · subst hj
      by_cases hl : v < σ.length
      · rw [List.getElem?_set_self (by rw [wipe_length]; exact hl), if_pos ⟨List.mem_cons_self, hl⟩]
      · rw [List.getElem?_eq_none (by simp [wipe_length]; omega), if_neg (fun z => hl z.2), List.getElem?_eq_none (by omega)]
    · rw [List.getElem?_set_ne hj, ih]
      have e : (j ∈ v :: vs ∧ j < σ.length) ↔ (j ∈ vs ∧ j < σ.length) := by
        rw [List.mem_cons]
        exact ⟨fun ⟨a, b⟩ => ⟨a.elim (fun z => absurd z.symm hj) id, b⟩, fun ⟨a, b⟩ => ⟨.inr a, b⟩⟩
      simp only [e]
theorem wipe_eq {σ τ : L2.St} {vs : List Nat} (hl : σ.length = τ.length) (h : ∀ j, j ∉ vs → σ[j]? = τ[j]?) : L2.wipe σ vs = L2.wipe τ vs := by
  apply List.ext_getElem?
  intro j
  rw [wipe_get, wipe_get, hl]
  by_cases hj : j ∈ vs ∧ j < τ.length
  · rw [if_pos hj, if_pos hj]
  · rw [if_neg hj, if_neg hj]
    by_cases hm : j ∈ vs
    · have : ¬ j < τ.length := fun z => hj ⟨hm, z⟩
      rw [List.getElem?_eq_none (by omega), List.getElem?_eq_none (by omega)]
    · exact h j hm
theorem wipe_set {σ : L2.St} {vs : List Nat} {i : Nat} {x : Option V} (hi : i ∈ vs) : L2.wipe (σ.set i x) vs = L2.wipe σ vs := wipe_eq (by simp) fun j hj => by
  rw [List.getElem?_set_ne (fun z => hj (by rw [← z]; exact hi))]
theorem wipe_wipe {σ : L2.St} {vs : List Nat} : L2.wipe (L2.wipe σ vs) vs = L2.wipe σ vs := wipe_eq (wipe_length σ vs) fun j hj => by
  rw [wipe_get, if_neg (fun z => hj z.1)]
theorem own_name {i : Nat} {vs : List Nat} (hi : i ∈ vs := by decide) : OwnG (gName i) vs := fun x σ H Q Q' h q => q _ h (wipe_set hi)
/-- names, one after another -/
def OwnGs (g : TGs) (vs : List Nat) : Prop := ∀ (xs : List V) (σ : L2.St) (H : Hp) (Q Q' : L2.St → Hp → Prop), g xs σ H Q → (∀ σ', Q σ' H → wipe σ' vs = wipe σ vs → Q' σ' H) → g xs σ H Q'
theorem own_nil {vs : List Nat} : OwnGs gNil vs := fun xs σ H Q Q' h q => ⟨h.1, q σ h.2 rfl⟩
theorem own_cons {g : TG} {gs : TGs} {vs : List Nat} (h1 : OwnG g vs) (h2 : OwnGs gs vs) (kp : ∀ x σ H Q, g x σ H Q → ∃ σ', Q σ' H ∧ ∀ Q', Q' σ' H → g x σ H Q') : OwnGs (gCons g gs) vs := fun xs σ H Q Q' h q => by
  obtain ⟨v, r, e, h⟩ := h
  obtain ⟨σ', k, back⟩ := kp _ _ _ _ h
  refine ⟨v, r, e, h1 v σ H _ _ h fun σ1 k1 e1 => h2 r σ1 H Q Q' k1 fun σ2 k2 e2 => q σ2 k2 (e2.trans e1)⟩
theorem own_tup {K : PySem.W.Frag} {n : Nat} {gs : TGs} {vs : List Nat} (h : OwnGs gs vs) : OwnG (gTup K n gs) vs := fun x σ H Q Q' ⟨a, xs, e, hs, hl, k⟩ q => ⟨a, xs, e, hs, hl, h xs σ H Q Q' k q⟩
theorem kp_name {i : Nat} : ∀ x σ H Q, gName i x σ H Q → ∃ σ', Q σ' H ∧ ∀ Q' : L2.St → Hp → Prop, Q' σ' H → gName i x σ H Q' := fun x σ H Q h => ⟨_, h, fun Q' h => h⟩
theorem own_cons' {i : Nat} {gs : TGs} {vs : List Nat} (h2 : OwnGs gs vs) (hi : i ∈ vs := by decide) : OwnGs (gCons (gName i) gs) vs := own_cons (own_name hi) h2 kp_name
theorem RepS.wipe {B0 B1 H0 H : Hp} {σ : L2.St} {ρ : Rho} : ∀ {A : Nat → Option Addr} (vs : List Nat), RepS K B0 B1 A H0 H σ ρ → ∃ A', RepS K B0 B1 A' H0 H (L2.wipe σ vs) (wipeD ρ vs) ∧ ∀ i a, A' i = some a → A i = some a
  | A, [], R => ⟨A, R, fun _ _ h => h⟩
  | A, v :: vs, R => by
    obtain ⟨A', R', h⟩ := RepS.wipe vs R
    exact ⟨clr A' v, R'.setNone v, fun i a e => h i a (clr_some e).2⟩
/-- another object of the heap, no slot's, not of the data -/
theorem RepS.other {B0 B1 H0 H : Hp} {A : Nat → Option Addr} {σ : L2.St} {ρ : Rho} {q : Addr} {ob : HO} (R : RepS K B0 B1 A H0 H σ ρ) (n0 : H0 q = none) (nb : B1 q = none) (na : ∀ i, A i ≠ some q) (np : H q = none ∨ ∃ o, H q = some o ∧ Plainy q o) : RepS K B0 B1 A H0 (upd H q ob) σ ρ := by
  have ne : ∀ j b, A j = some b → b ≠ q := fun j b h e => by
    subst e
    exact na j h
  refine ⟨same_updR R.ex n0, ⟨R.gr.g0, ext_updR R.gr.g1 nb, same_updR R.ex n0, R.gr.nw, fun t => td_less (R.gr.tb t) fun p => by
    by_cases hp : p = q
    · subst hp
      exact .inr np
    · exact .inl (upd_ne hp)⟩, R.len, fun j x e => ?_, R.inj, fun j b h => ?_, R.sz, fun j x C fs q2 xs e => ?_⟩
  · obtain ⟨v, e1, s⟩ := R.slot j x e
    refine ⟨v, e1, ?_⟩
    cases x with
    | none => exact s
    | some x =>
      cases x with
      | d y => exact s
      | lst x2 xs =>
        obtain ⟨b, o', e2, e3, n, b1, ho, r⟩ := s
        exact ⟨b, o', e2, e3, n, b1, by rw [upd_ne (ne j b e3)]; exact ho, r⟩
      | ins x2 C fs =>
        obtain ⟨b, o', e2, e3, n, b1, ho, r⟩ := s
        exact ⟨b, o', e2, e3, n, b1, by rw [upd_ne (ne j b e3)]; exact ho, r⟩
      | dk x2 kvs =>
        obtain ⟨b, o', e2, e3, n, b1, ho, r⟩ := s
        exact ⟨b, o', e2, e3, n, b1, by rw [upd_ne (ne j b e3)]; exact ho, r⟩
      | dt x2 w2 kvs =>
        obtain ⟨b, o', e2, e3, n, b1, ho, r⟩ := s
        exact ⟨b, o', e2, e3, n, b1, by rw [upd_ne (ne j b e3)]; exact ho, r⟩
      | pg x2 C2 fs2 q2 xs2 =>
        obtain ⟨b, o', e2, e3, n, b1, ho, r⟩ := s
        exact ⟨b, o', e2, e3, n, b1, by rw [upd_ne (ne j b e3)]; exact ho, r⟩
  · obtain ⟨q1, q2, o2, q3, q4⟩ := R.own j b h
    exact ⟨q1, q2, o2, by rw [upd_ne (ne j b h)]; exact q3, q4⟩
  · obtain ⟨h1, us, h2, h3⟩ := R.nest j x C fs q2 xs e
    exact ⟨h1, us, by rw [upd_ne (ne _ _ h1)]; exact h2, h3⟩
theorem RepS.freeA {B0 B1 H0 H : Hp} {A : Nat → Option Addr} {σ : L2.St} {ρ : Rho} {q : Addr} (R : RepS K B0 B1 A H0 H σ ρ) (h : H q = none) (i : Nat) : A i ≠ some q := fun z => by
  obtain ⟨_, _, o, e, _⟩ := R.own i q z
  rw [h] at e
  cases e
theorem sim_comp {ti : TI} {di : DI} {g : TG} {dg : DG} {vs : List Nat} (hi : SimI K Ed E ti di) (hg : SimG K g dg) (og : OwnG g vs) (ht : SimT K (fun _ => False) E0 tt dt) (he : SimE K (fun _ => False) E0 te de) : SimE K Ed E (tLc ti g tt te vs) (dComp di dg dt de vs) := fun B0 B1 A H0 H σ ρ R X Qd h Q q =>
  hi B0 B1 A H0 H σ ρ R X _ h _ fun J xs Hs0 Hs Rs gs wk hl => fun Dl hD => by
    obtain ⟨Aw, Rw, hw⟩ := Rs.wipe vs
    have nbD : B1 Dl = none := Rs.gr.g1.free hD
    have naD : ∀ i, Aw i ≠ some Dl := fun i z => Rw.freeA hD i z
    -- what stands at each turn
    refine ⟨fun i m H' => m = xs.length - i ∧ ∃ H0' acc us, RepS K B0 B1 Aw H0' H' (L2.wipe σ vs) (wipeD ρ vs) ∧ Grow Hs0 Hs H0' H' ∧ H0' Dl = none ∧ H' Dl = some (.lst us) ∧ Reps K H0' acc us ∧ compD dg dt de (xs.drop i) acc (wipeD ρ vs) Qd,
      ⟨xs.length, by simp, Hs0, [], [], Rw.other (Rw.ex.free hD) nbD naD (.inl hD), ⟨.refl _, (same_upd hD).ext, same_updR Rw.ex (Rw.ex.free hD), fun _ _ => rfl, fun t => td_newB t hD⟩, Rw.ex.free hD, upd_same, rfl, by simpa using hl⟩, ?_⟩
    rintro i m H' ⟨rfl, H0', acc, us, R', g', n', hD', ra, hq⟩
    obtain ⟨hgo, hst⟩ := wk i H0' H' R'.ex g'.g0
    rcases drop_at (xs := xs) (i := i) with ⟨x, hx, hdr⟩ | ⟨hx, hdr⟩
    · rw [hdr] at hq
      obtain ⟨go, yl⟩ := hgo x hx
      have hlt : i < xs.length := (List.getElem?_eq_some_iff.mp hx).1
      refine .inr ⟨go, fun H2 => ∃ H02 acc us, RepS K B0 B1 Aw H02 H2 (L2.wipe σ vs) (wipeD ρ vs) ∧ Grow Hs0 Hs H02 H2 ∧ H02 Dl = none ∧ H2 Dl = some (.lst us) ∧ Reps K H02 acc us ∧ compD dg dt de (xs.drop (i + 1)) acc (wipeD ρ vs) Qd, fun H2 n2 => ⟨xs.length - (i + 1), by omega, rfl, n2⟩, fun v Hn y => ?_⟩
      obtain ⟨H0n, gn, rn⟩ := yl v Hn y
      have hDn : H' Dl ≠ none := by rw [hD']; exact fun z => nomatch z
      refine og v _ Hn (fun σ2 H2 => tt σ2 H2 fun b H3 => if b = true then te σ2 H3 fun y H4 => ∃ acc, H4 Dl = some (.lst acc) ∧ acc.length < sizeLine ∧ (∃ H02 acc' us, RepS K B0 B1 Aw H02 (upd H4 Dl (.lst (acc ++ [y]))) (L2.wipe σ vs) (wipeD ρ vs) ∧ Grow Hs0 Hs H02 (upd H4 Dl (.lst (acc ++ [y]))) ∧ H02 Dl = none ∧ (upd H4 Dl (.lst (acc ++ [y]))) Dl = some (.lst us) ∧ Reps K H02 acc' us ∧ compD dg dt de (xs.drop (i + 1)) acc' (wipeD ρ vs) Qd)
        else ∃ H02 acc us, RepS K B0 B1 Aw H02 H3 (L2.wipe σ vs) (wipeD ρ vs) ∧ Grow Hs0 Hs H02 H3 ∧ H02 Dl = none ∧ H3 Dl = some (.lst us) ∧ Reps K H02 acc us ∧ compD dg dt de (xs.drop (i + 1)) acc (wipeD ρ vs) Qd) _ (hg B0 B1 Aw H0n Hn (L2.wipe σ vs) (wipeD ρ vs) x v (R'.grow gn) rn _ hq _ fun A2 σ2 ρ2 R2 o2 k2 => ?_) fun σ2 k2 e2 => ⟨e2.trans wipe_wipe, k2⟩
      refine ht B0 B1 A2 H0n Hn σ2 ρ2 R2 X.td0 _ k2 _ fun b H3 H4 R3 g3 k3 => ?_
      have gn3 := gn.trans g3
      cases b with
      | false => exact ⟨H3, acc, us, R'.grow gn3, g'.trans gn3, (gn3.nw Dl hDn).trans n', gn3.g1.at hD', Reps.mono gn3.g0 _ _ ra, k3⟩
      | true =>
        refine he B0 B1 A2 H3 H4 σ2 ρ2 R3 X.td0 _ k3 _ fun y u H5 H6 R4 g4 r4 k4 => ?_
        have gn4 := gn3.trans g4
        have n5 : H5 Dl = none := (gn4.nw Dl hDn).trans n'
        have rs := R'.grow gn4
        refine ⟨us, gn4.g1.at hD', by rw [ra.length]; exact Nat.lt_of_lt_of_le k4.1 (by decide), H5, acc ++ [y], us ++ [u], rs.other n5 nbD naD (.inr ⟨_, gn4.g1.at hD', plain_lst⟩), ?_, n5, upd_same, (Reps.mono gn4.g0 _ _ ra).append ⟨u, [], rfl, r4, rfl⟩, k4.2⟩
        have gg := g'.trans gn4
        exact ⟨gg.g0, ext_updR gg.g1 hD, same_updR gg.g2 n5, gg.nw, fun t => td_own (gg.tb t) (gn4.g1.at hD') plain_lst⟩
    · rw [hdr] at hq
      refine .inl ⟨hst hx, ?_⟩
      have gx : Grow Hs0 Hs (upd H0' Dl (.lst us)) H' := ⟨g'.g0.trans (same_upd n'), g'.g1, fun b o e => by
          by_cases hb : b = Dl
          · subst hb
            rw [upd_same] at e
            cases e
            exact hD'
          · rw [upd_ne hb] at e
            exact g'.g2 b o e, fun p hp => by
          have px : p ≠ Dl := fun z => hp (by rw [z]; exact hD)
          rw [upd_ne px]
          exact g'.nw p hp, fun t => td_frz (g'.tb t)⟩
      exact q (.lst acc) (.ref Dl) _ H' (Rs.grow gx) (gs.trans gx) ⟨Dl, us, rfl, .inl (.inl upd_same), Reps.mono (same_upd n') _ _ ra⟩ hq
end
end DL
namespace DL
variable [TbC]
open PySem PySem.Spec PyProof.Rows L2
open RZ (ItzT iZipA pi_zipA)
section
variable {X : Cx} {Ed : DX → Prop} {E : XK} {K : PySem.W.Frag} {pos p : Pos} {e a b c o e2 tg iter elt : Expr} {te ta tb tc : TE} {de da db dc : DE} {tal : TA} {dal : DA} {es ifs : List Expr} {k : Nat} {x : Str} {tt : TT} {dt : DT} {ti : TI} {di : DI} {g : TG} {dg : DG} {scope : Scope} {own : List (Str × Nat)}
theorem e_comp (hc : X.calm = true) (hN : X.N.Nodup) (hi : JI X Ed E tg iter ti di) (ok : BlkOk X.N X.env.scope scope own) (og : OwnG g (own.map (·.2)))
    (hg : ∀ (s : Shared) (H : Hp) (C : Addr) (cl : List (Str × Addr)) (fp : List Addr), JG (X.blk s H scope (compEnvC scope cl C X.env) fp) tg g dg)
    (ht : ∀ (s : Shared) (H : Hp) (C : Addr) (cl : List (Str × Addr)) (fp : List Addr), JTs (X.blk s H scope (compEnvC scope cl C X.env) fp) (fun _ => False) E0 ifs tt dt)
    (he : ∀ (s : Shared) (H : Hp) (C : Addr) (cl : List (Str × Addr)) (fp : List Addr), JE (X.blk s H scope (compEnvC scope cl C X.env) fp) (fun _ => False) E0 elt te de) (hs : ∀ x, foldedSetIterable iter X.env x = pure x := by intro _; rfl) :
    JE X Ed E (.ListComp elt [⟨tg, iter, ifs, 0⟩] scope pos) (tLc ti g tt te (own.map (·.2))) (dComp di dg dt de (own.map (·.2))) :=
  ⟨pe_lc hc hN hi.pe ok (fun s H C cl fp => (hg s H C cl fp).pe) (fun s H C cl fp => (ht s H C cl fp).pe) (fun s H C cl fp => (he s H C cl fp).pe) hs,
    sim_comp hi.sim (hg X.s_0 X.H_0 0 [] []).sim og (ht X.s_0 X.H_0 0 [] []).sim (he X.s_0 X.H_0 0 [] []).sim⟩
def zipD : List D → List D → List D
  | x :: xs, y :: ys => .tup [x, y] :: zipD xs ys
  | _, _ => []
theorem zipD_get : ∀ {xs ys : List D} {i : Nat}, (zipD xs ys)[i]? = match xs[i]?, ys[i]? with | some x, some y => some (.tup [x, y]) | _, _ => none
  | [], _, i => by simp [zipD]
  | _ :: _, [], i => by simp [zipD]
  | x :: xs, y :: ys, 0 => by simp [zipD]
  | x :: xs, y :: ys, i + 1 => by
    have := zipD_get (xs := xs) (ys := ys) (i := i)
    simpa [zipD] using this
def dZip (da : DA) (ρ : Rho) (L : List D → Prop) : Prop := da ρ fun ds => match ds with
  | [.lst xs, .lst ys] => L (zipD xs ys)
  | [.tup xs, .tup ys] => L (zipD xs ys)
  | _ => False
theorem walks_zip {Hs : Hp} {l l' : Addr} {vs us : List V} {xs ys : List D} (h : SqL K Hs l vs) (h' : SqL K Hs l' us) (r : Reps K Hs xs vs) (r' : Reps K Hs ys us) : Walks K (Itz K l l') Hs (zipD xs ys) := fun i H0 H sm s0 => by
  have hs := sm.seq (s0.seq h)
  have hs' := sm.seq (s0.seq h')
  rw [zipD_get]
  refine ⟨fun z hz => ?_, fun hz => ?_⟩
  · cases e1 : xs[i]? with
    | none => rw [e1] at hz; cases hz
    | some x =>
      cases e2 : ys[i]? with
      | none => rw [e1, e2] at hz; cases hz
      | some y =>
        rw [e1, e2] at hz
        cases hz
        obtain ⟨v, hv, rv⟩ := r.get e1
        obtain ⟨u, hu, ru⟩ := r'.get e2
        refine ⟨⟨vs, us, v, u, hs, hs', hv, hu⟩, fun w H' q => ?_⟩
        obtain ⟨T, x', y', rfl, nT, rfl, f1, f2⟩ := q
        have ex := f1 vs hs
        have ey := f2 us hs'
        rw [hv] at ex
        rw [hu] at ey
        cases ex
        cases ey
        have gr := Grow.new (o := .tup [v, u]) sm nT
        exact ⟨_, gr, T, [v, u], rfl, .inl (.inl upd_same), v, [u], rfl, Rep.mono gr.g0 _ _ (Rep.mono s0 _ _ rv), u, [], rfl, Rep.mono gr.g0 _ _ (Rep.mono s0 _ _ ru), rfl⟩
  · refine ⟨vs, us, hs, hs', ?_⟩
    rw [r.length, r'.length]
    cases e1 : xs[i]? with
    | none => exact .inl (List.getElem?_eq_none_iff.mp e1)
    | some x =>
      cases e2 : ys[i]? with
      | none => exact .inr (List.getElem?_eq_none_iff.mp e2)
      | some y => rw [e1, e2] at hz; cases hz
theorem walks_zipT {Hs : Hp} {l l' : Addr} {vs us : List V} {xs ys : List D} (h : SqT K Hs l vs) (h' : SqT K Hs l' us) (r : Reps K Hs xs vs) (r' : Reps K Hs ys us) : Walks K (ItzT K l l') Hs (zipD xs ys) := fun i H0 H sm s0 => by
  have hs := sqt_mono sm (sqt_mono s0 h)
  have hs' := sqt_mono sm (sqt_mono s0 h')
  rw [zipD_get]
  refine ⟨fun z hz => ?_, fun hz => ?_⟩
  · cases e1 : xs[i]? with
    | none => rw [e1] at hz; cases hz
    | some x =>
      cases e2 : ys[i]? with
      | none => rw [e1, e2] at hz; cases hz
      | some y =>
        rw [e1, e2] at hz
        cases hz
        obtain ⟨v, hv, rv⟩ := r.get e1
        obtain ⟨u, hu, ru⟩ := r'.get e2
        refine ⟨⟨vs, us, v, u, hs, hs', hv, hu⟩, fun w H' q => ?_⟩
        obtain ⟨T, x', y', rfl, nT, rfl, f1, f2⟩ := q
        have ex := f1 vs hs
        have ey := f2 us hs'
        rw [hv] at ex
        rw [hu] at ey
        cases ex
        cases ey
        have gr := Grow.new (o := .tup [v, u]) sm nT
        exact ⟨_, gr, T, [v, u], rfl, .inl (.inl upd_same), v, [u], rfl, Rep.mono gr.g0 _ _ (Rep.mono s0 _ _ rv), u, [], rfl, Rep.mono gr.g0 _ _ (Rep.mono s0 _ _ ru), rfl⟩
  · refine ⟨vs, us, hs, hs', ?_⟩
    rw [r.length, r'.length]
    cases e1 : xs[i]? with
    | none => exact .inl (List.getElem?_eq_none_iff.mp e1)
    | some x =>
      cases e2 : ys[i]? with
      | none => exact .inr (List.getElem?_eq_none_iff.mp e2)
      | some y => rw [e1, e2] at hz; cases hz
theorem i_zip {tpos : Pos} {elts : List Expr} {kk : Nat} (hm : X.mg "zip" = none) (ha : JA X Ed E [e, e2] tal dal) (hg : Gl X "zip" := by rfl) (hs : starEach [e, e2] X.env = (false, eval e X.env) :: starEach [e2] X.env := by rfl) (hpl : (backTo pos (starEach [e2] X.env)).any (·.1) = false := by rfl) :
    JI X Ed E (.Tuple elts kk tpos) (.Call (.Name "zip" p) [e, e2] [] pos) (iZipA X.K tal) (dZip dal) := ⟨pi_zipA hg hm ha.pe hs hpl, fun B0 B1 A H0 H σ ρ R X Ld hd Q q => ha.sim B0 B1 A H0 H σ ρ R X _ hd _ fun ds vs H1 H2 R1 g1 r1 k => by
  split at k
  · obtain ⟨v, u, rfl, ⟨l, vs, rfl, hs, r⟩, ⟨l', us, rfl, hs', r'⟩⟩ := two_of r1
    exact ⟨l, l', vs, us, rfl, .inl ⟨R1.ex.seq hs, R1.ex.seq hs', q _ _ H1 H2 R1 g1 (walks_zip hs hs' r r') k⟩⟩
  · obtain ⟨v, u, rfl, ⟨l, vs, rfl, hs, r⟩, ⟨l', us, rfl, hs', r'⟩⟩ := two_of r1
    exact ⟨l, l', vs, us, rfl, .inr ⟨sqt_mono R1.ex hs, sqt_mono R1.ex hs', q _ _ H1 H2 R1 g1 (walks_zipT hs hs' r r') k⟩⟩
  · exact k.elim⟩
def enumD : Nat → List D → List D
  | _, [] => []
  | n, x :: xs => .tup [.int (n : Int), x] :: enumD (n + 1) xs
def dEnum (da : DA) (ρ : Rho) (L : List D → Prop) : Prop := da ρ fun ds => match ds with
  | [.lst xs] => L (enumD 0 xs)
  | _ => False
def signs (z : Str) : List D := z.cps.toList.map fun c => .str ⟨#[c]⟩
def dStrI (de : DE) (ρ : Rho) (L : List D → Prop) : Prop := de ρ fun x => match x with
  | .str z => L (signs z)
  | _ => False
end
end DL
namespace DL
variable [TbC]
open PySem PySem.Spec PyProof.Rows L2
section
variable {X : Cx} {Ed : DX → Prop} {E : XK} {K : PySem.W.Frag} {pos p : Pos} {e a b c o e2 tg iter elt : Expr} {te ta tb tc : TE} {de da db dc : DE} {tal : TA} {dal : DA} {es ifs : List Expr} {k : Nat} {x : Str} {tt : TT} {dt : DT} {st : Stmt} {sts : List Stmt} {ts us : TS} {ds dus : DS}
theorem e_isiT (hm : X.mg "isinstance" = none) (h1 : JE X Ed E e te de) {x1 : Nat} {p2 : Pos} (h2 : JA X Ed E es tal dal) (hg : Gl X "isinstance" := by rfl) (he : starEach [e, .Tuple es x1 p2] X.env = (false, eval e X.env) :: starEach [.Tuple es x1 p2] X.env := by rfl) (hpl : (backTo pos (starEach [.Tuple es x1 p2] X.env)).any (·.1) = false := by rfl) :
    JE X Ed E (.Call (.Name "isinstance" p) [e, .Tuple es x1 p2] [] pos) (tCB (rIsiT X.K) (tCons te (tCons (tTup tal) tNil))) (dCB dIsiT (dCons de (dCons (dTup dal) dNil))) := by
  refine ⟨pe_callB call_isiT hg hm (by decide +kernel) (a_cons h1 (a_cons (e_tup h2) a_nil) he).pe (by decide) (by decide) he hpl, ?_⟩
  intro B0 B1 A H0 H σ ρ R X Qd h Q q
  refine h1.sim B0 B1 A H0 H σ ρ R X _ h _ fun d v H1 H2 R1 g1 r1 k => ?_
  refine h2.sim B0 B1 A H1 H2 σ ρ R1 X _ k _ fun cs vs H3 H4 R2 g2 r2 k2 => ⟨by rw [r2.length]; exact line1000 k2.1, fun t ht => ?_⟩
  have k2 := k2.2
  dsimp only [dIsiT, dNil] at k2
  obtain ⟨m, hm', k2⟩ := onS_at k2
  obtain ⟨b, hb, k2⟩ := onS_at k2
  have g := Grow.new (o := .tup vs) R2.ex ht
  obtain ⟨us, pu, ku⟩ := kitAny_of (K := _) r2 hb
  have R3 := R2.grow g
  exact ⟨v, t, vs, _, us, b, rfl, upd_same, pu, ty_of R3.ex (Rep.mono g.g0 _ _ (Rep.mono g2.g0 _ _ r1)) hm', ku, q (.bl b) _ _ _ R3 ((g1.trans g2).trans g) rfl k2⟩
/-- x = [e, ..] -/
def dNewL (i : Nat) (da : DA) (d : DEnds) (ρ : Rho) : Prop := da ρ fun xs => xs.length ≤ 1000 ∧ i < ρ.length ∧ ∀ a, d.nx (ρ.set i (some (.lst a xs)))
theorem st_newL {y : Str} {p2 p3 : Pos} (i : Nat) (hN : X.N.Nodup) (ha : JA X Ed E es tal dal) (hi : X.N[i]? = some y := by rfl) (hx : Loc X.env.scope y := by first | exact Or.inl rfl | exact Or.inr rfl) (hs : swapsWith (.List es p3) (some (.Name y p2)) pos.line X.env = pure false := by rfl)
    (hf : X.fn y = true ∨ X.env.scope.names.lookup y = some .local := by first | exact .inl rfl | exact .inr rfl | assumption) : JS X Ed E (.Assign [.Name y p2] (.List es p3) pos) (tAsg (tLst tal) (gName i)) (dNewL i dal) :=
  ⟨ps_set hN hi hx (pe_lst ha.pe) hs hf, fun B0 B1 A H0 H σ ρ R X d D r h => ha.sim B0 B1 A H0 H σ ρ R X _ h _ fun xs vs H1 H2 R1 g1 r1 k => ⟨by rw [r1.length]; exact line1000 k.1, fun q hq =>
    r.nx _ H1 _ _ _ (R1.setOwn (w := .lst q xs) i k.2.1 hq ⟨rfl, vs, rfl, r1⟩) (k.2.2 q)⟩⟩
/-- x = list(e) -/
def dOwnL (i : Nat) (da : DE) (d : DEnds) (ρ : Rho) : Prop := da ρ fun x => match x with
  | .lst xs => i < ρ.length ∧ ∀ a, d.nx (ρ.set i (some (.lst a xs)))
  | .tup xs => i < ρ.length ∧ ∀ a, d.nx (ρ.set i (some (.lst a xs)))
  | _ => False
/-- x[k] = e -/
def dSetL (i : Nat) (de dk : DE) (d : DEnds) (ρ : Rho) : Prop := de ρ fun v => match lk i ρ with
  | some (.lst a xs) => dk ρ fun z => (match z with
    | .int j => onS (ixN xs.length j) fun m => d.nx (ρ.set i (some (.lst a (xs.set m v))))
    | _ => False)
  | _ => False
theorem lk_lt {i : Nat} {ρ : Rho} {w : SV} (h : lk i ρ = some w) : i < ρ.length := (List.getElem?_eq_some_iff.mp (lk_some h)).1
/-- the slot's own list, later on -/
theorem RepS.lstAt {B0 B1 H0 H : Hp} {A : Nat → Option Addr} {σ : L2.St} {ρ : Rho} (R : RepS K B0 B1 A H0 H σ ρ) {i : Nat} {q : Addr} {xs : List D} (h : lk i ρ = some (.lst q xs)) : σ[i]? = some (some (.ref q)) ∧ A i = some q ∧ ∃ vs, H q = some (.lst vs) ∧ Reps K H0 xs vs := by
  obtain ⟨l, ho, e1, e2, n0, nb, hh, rr⟩ := R.ownAt (lk_some h) (fun _ z => nomatch z)
  obtain ⟨rfl, vs, rfl, rf⟩ := rr
  exact ⟨e1, e2, vs, hh, rf⟩
theorem st_setL {y : Str} {p2 p3 : Pos} (i : Nat) (he : JE X Ed E e te de) (hk : JE X Ed E b tb db) (hN : X.N[i]? = some y := by rfl) (hv : Vis X.env.scope y := by first | exact Or.inl rfl | exact Or.inr (Or.inl rfl) | exact Or.inr (Or.inr rfl)) (hd : (y == ("__debug__" : Str)) = false := by decide)
    (hcd : (y == ("__classdict__" : Str)) = false := by decide)
    (ha : ∀ v, assign (.Subscript (.Name y p2) b p3) X.env v = (do
      let ov ← holding [v] (eval (.Name y p2) X.env)
      let iv ← holding [v, ov] (eval b X.env)
      standAt p3
      holding [v, ov, iv] (setItem ov iv v)
      release [v, ov, iv] []) := by intro _; rfl) (hs : swapsWithSole [.Subscript (.Name y p2) b p3] e pos.line X.env = pure false := by rfl) (hw : swappedStores [.Subscript (.Name y p2) b p3] e X.env = pure none := by rfl)
    (h1 : (assignEach [.Subscript (.Name y p2) b p3] X.env).map (·.2) = [assign (.Subscript (.Name y p2) b p3) X.env] := by rfl) : JS X Ed E (.Assign [.Subscript (.Name y p2) b p3] e pos) (tAsg te (gSub (tVar i) tb rSetL)) (dSetL i de db) :=
  ⟨ps_asg he.pe (pg_sub (pe_var hN hv hd hcd) hk.pe set_list ha) hs hw h1, fun B0 B1 A H0 H σ ρ R X d D r h => he.sim B0 B1 A H0 H σ ρ R X _ h _ fun z v H1 H2 R1 g1 r1 k => by
    split at k
    · rename_i q xs e
      refine ⟨.ref q, (R1.lstAt e).1, hk.sim B0 B1 A H1 H2 σ ρ R1 X _ k _ fun w u H3 H4 R2 g2 r2 k2 => ?_⟩
      split at k2
      · rename_i j
        obtain ⟨m, hm, k2⟩ := onS_at k2
        obtain ⟨e1, e2, vs, hh, rr⟩ := R2.lstAt e
        cases (show u = _ from r2)
        exact ⟨q, vs, j, m, rfl, rfl, hh, by rw [rr.length]; exact hm, r.nx _ _ _ _ _ (R2.updOwn (w := .lst q (xs.set m z)) (lk_lt e) e1 e2 ⟨rfl, _, rfl, Reps.set (Rep.mono g2.g0 _ _ r1) m rr⟩) k2⟩
      · exact k2.elim
    · exact k.elim⟩
/-- x[k] -/
def dIxO (i : Nat) (dk : DE) (ρ : Rho) (Q : D → Prop) : Prop := match lk i ρ with
  | some (.lst _ xs) => dk ρ fun z => (match z with
    | .int j => onS (atI xs j) Q
    | _ => False)
  | _ => False
theorem e_ixO {y : Str} {p2 : Pos} (i : Nat) (hk : JE X Ed E b tb db) (hN : X.N[i]? = some y := by rfl) (hv : Vis X.env.scope y := by first | exact Or.inl rfl | exact Or.inr (Or.inl rfl) | exact Or.inr (Or.inr rfl)) (hd : (y == ("__debug__" : Str)) = false := by decide)
    (hcd : (y == ("__classdict__" : Str)) = false := by decide) (hs : PlainIx b := by exact fun _ _ => rfl) : JE X Ed E (.Subscript (.Name y p2) b pos) (tOp (rIx X.K) (tVar i) tb) (dIxO i db) :=
  ⟨pe_ix ix_seq (pe_var hN hv hd hcd) hk.pe hs, fun B0 B1 A H0 H σ ρ R X Qd h Q q => by
    unfold dIxO at h
    split at h
    · rename_i l xs e
      refine ⟨.ref l, (R.lstAt e).1, hk.sim B0 B1 A H0 H σ ρ R X _ h _ fun w u H3 H4 R2 g2 r2 k2 => ?_⟩
      split at k2
      · rename_i j
        obtain ⟨d, hd', k2⟩ := onS_at k2
        obtain ⟨e1, e2, vs, hh, rr⟩ := R2.lstAt e
        cases (show u = _ from r2)
        obtain ⟨v, hv', rv⟩ := atI_rep rr hd'
        exact .inl ⟨l, vs, j, v, rfl, rfl, .inl (.inl hh), hv', q d v _ _ R2 g2 rv k2⟩
      · exact k2.elim
    · exact h.elim⟩
/-- x.append(e) -/
def dApp (i : Nat) (de : DE) (d : DEnds) (ρ : Rho) : Prop := match lk i ρ with
  | some (.lst a xs) => de ρ fun y => xs.length < 100000 ∧ d.nx (ρ.set i (some (.lst a (xs ++ [y]))))
  | _ => False
/-- len(x) -/
def dLenO (i : Nat) (ρ : Rho) (Q : D → Prop) : Prop := match lk i ρ with
  | some (.lst _ xs) => Q (.int xs.length)
  | _ => False
/-- from here on x is data -/
def dFrz (i : Nat) (ds : DS) (d : DEnds) (ρ : Rho) : Prop := match lk i ρ with
  | some (.lst _ xs) => ds d (ρ.set i (some (.d (.lst xs))))
  | some (.ins _ C fs) => ds d (ρ.set i (some (.d (.ins C fs))))
  | some (.dk _ kvs) => ds d (ρ.set i (some (.d (.dk kvs))))
  | some (.dt _ w kvs) => ds d (ρ.set i (some (.d (.dt w kvs))))
  | _ => False
theorem b_frz (i : Nat) (h : JB X Ed E sts ts ds) : JB X Ed E sts ts (dFrz i ds) := ⟨h.pe, fun B0 B1 A H0 H σ ρ R X d D r hd => by
  unfold dFrz at hd
  split at hd
  · rename_i l xs e
    obtain ⟨a, o, _, _, _, _, _, R'⟩ := R.freeze (lk_some e) (fun _ z => nomatch z)
    exact h.sim B0 B1 _ _ H σ _ R' X d D r hd
  · rename_i x C fs e
    obtain ⟨a, o, _, _, _, _, _, R'⟩ := R.freeze (lk_some e) (fun _ z => nomatch z)
    exact h.sim B0 B1 _ _ H σ _ R' X d D r hd
  · rename_i x kvs e
    obtain ⟨a, o, _, _, _, _, _, R'⟩ := R.freeze (lk_some e) (fun _ z => nomatch z)
    exact h.sim B0 B1 _ _ H σ _ R' X d D r hd
  · rename_i x w kvs e
    obtain ⟨a, o, _, _, _, _, _, R'⟩ := R.freeze (lk_some e) (fun _ z => nomatch z)
    exact h.sim B0 B1 _ _ H σ _ R' X d D r hd
  · exact hd.elim⟩
end
abbrev WpO := List D → List D → (List D → D → Prop) → (DX → Prop) → Prop
def SpO (K : PySem.W.Frag) (wp : WpO) : Sp := fun vs H Q E => ∃ (q : Addr) (ws us : List V) (H0 : Hp) (xs ds : List D) (Qf : List D → D → Prop) (Ed : DX → Prop), vs = .ref q :: ws ∧ H q = some (.lst us) ∧ H0 q = none ∧ Same H0 H ∧ Reps K H0 xs us ∧ Reps K H0 ds ws ∧ wp xs ds Qf Ed ∧
  (∀ xs' us' d v H0' H', Grow H0 (wo H q) H0' H' → H0' q = none → H' q = some (.lst us') → Reps K H0' xs' us' → Rep K H0' d v → Qf xs' d → Q v H') ∧ ExRel K H0 (wo H q) Ed E
section
variable {P : Program} {w : World} {K : PySem.W.Frag} {mg : Str → Option Value} {base : Heap}
theorem fnO_ok {x qual : Str} {st : Stmt} {f : Addr} {fd : FuncData} {N ps : List Str} {k : Nat} {wp : WpO} (n : Nat) (hn : N.length - 1 = n) (F : FunX K x qual st f fd) (S : FnScope N ps (defScope st)) (len : ∀ xs ds Q Ed, wp xs ds Q Ed → ds.length + 1 = ps.length)
    (body : ∀ (cdv : Value) (A : Around) (outer : List Env) (s : Shared) (H : Hp) (E : XK), Room k (A.deeper (envOfC qual (defScope st) s.heap.objs.size f cdv)) → ∀ (q : Addr) (xs ds : List D) (Qf : List D → D → Prop) (Ed : DX → Prop), wp xs ds Qf Ed →
      ∃ ts bs, JB (bx P w K mg base N qual st f cdv A outer s H E) Ed E (defBody st) ts bs ∧ bs { nx := fun _ => False, rt := fun d ρ => (match lk 0 ρ with | some (.lst q' xs') => q' = q ∧ Qf xs' d | _ => False) } (some (.lst q xs) :: startD n ds)) (hz : n ≤ 999 := by decide) :
    FnOk P w K mg base (L2.CX P w) (k + 1) f fd ps (SpO K wp) := by
  have hpl : ps.length ≤ N.length := by
    have e := congrArg List.length S.pre
    rw [List.length_take] at e
    omega
  subst hn
  refine F.okX S (fun vs H Q E h => ?_) (fun cdv A outer s H vs Q E hr h => ?_)
  · obtain ⟨q, ws, us, H0, xs, ds, Qf, Ed, rfl, _, _, sm, r, r', hw, _⟩ := h
    show ws.length + 1 = _
    rw [r'.length]
    exact len xs ds Qf Ed hw
  · obtain ⟨q, ws, us, H0, xs, ds, Qf, Ed, rfl, hx, n0, sm, r, r', hw, kq, xr⟩ := h
    obtain ⟨ts, bs, jb, hb⟩ := body cdv A outer s H E hr q xs ds Qf Ed hw
    have hl := len xs ds Qf Ed hw
    have hN : 0 < N.length := by omega
    have hv : (V.ref q :: ws).length ≤ N.length := by
      show ws.length + 1 ≤ _
      rw [r'.length]
      omega
    have R : RepS K H0 (wo H q) (fun i => if i = 0 then some q else none) H0 H (L2.start N (.ref q :: ws)) (some (.lst q xs) :: startD (N.length - 1) ds) := by
      refine ⟨sm, ⟨.refl _, wo_sub.ext, sm, fun _ _ => rfl, fun t => td_of t wo_sub⟩, by rw [start_len hv]; show N.length = (startD (N.length - 1) ds).length + 1; rw [startD_len]; omega, fun i w e => ?_, fun i j a h1 h2 => ?_, fun i a h => ?_, (by show (startD (N.length - 1) ds).length + 1 ≤ 1000; rw [startD_len]; omega), fun i x C fs q xs e => ?_⟩
      · cases i with
        | zero =>
          have e : some (some (SV.lst q xs)) = some w := e
          cases e
          exact ⟨_, start_at rfl, q, _, rfl, rfl, n0, wo_same, hx, rfl, us, rfl, r⟩
        | succ i =>
          have e : (startD (N.length - 1) ds)[i]? = some w := by simpa using e
          rcases startD_at e with rfl | ⟨d, e1, rfl⟩
          · have hi : i + 1 < N.length := by
              have := (List.getElem?_eq_some_iff.mp e).1
              rw [startD_len] at this
              omega
            obtain ⟨v, hv⟩ := start_has hv hi
            exact ⟨v, hv, rfl⟩
          · obtain ⟨v, hv', rv⟩ := r'.get e1
            exact ⟨some v, start_at (by simpa using hv'), rfl, v, rfl, rv⟩
      · by_cases hi : i = 0
        · by_cases hj : j = 0
          · rw [hi, hj]
          · rw [if_neg hj] at h2
            cases h2
        · rw [if_neg hi] at h1
          cases h1
      · by_cases hi : i = 0
        · rw [if_pos hi] at h
          cases h
          exact ⟨n0, wo_same, _, hx, plain_lst⟩
        · rw [if_neg hi] at h
          cases h
      · cases i with
        | zero => cases e
        | succ i =>
          have e : (startD (N.length - 1) ds)[i]? = some (some (SV.pg x C fs q xs)) := by simpa using e
          rcases startD_at e with h | ⟨d, _, h⟩ <;> cases h
    refine ⟨ts, jb.pe, jb.sim H0 (wo H q) _ H0 H _ _ R xr { nx := fun _ => False, rt := fun d ρ => (match lk 0 ρ with | some (.lst q' xs') => q' = q ∧ Qf xs' d | _ => False) } _ ⟨fun _ _ _ _ _ _ h => h.elim, fun A H0' H' σ ρ d v R' rv h => ?_, fun _ _ _ _ _ _ h => h.elim, fun _ _ _ _ _ _ h => h.elim⟩ hb⟩
    dsimp only at h
    split at h
    · rename_i q' xs' e
      obtain ⟨rfl, h⟩ := h
      obtain ⟨e1, e2, vs, hh, rr⟩ := R'.lstAt e
      exact kq xs' vs d v H0' H' R'.gr (R'.own 0 _ e2).1 hh rr rv h
    · exact h.elim
end
end DL
namespace DL
variable [TbC]
open PySem PySem.Spec PyProof.Rows L2
section
variable {P : Program} {w : World} {K : PySem.W.Frag} {mg : Str → Option Value} {base : Heap} {H : Hp} {h : Heap} {b c : Addr} {m : Nat}
theorem bagO_ne_own {x : Addr} : bagO b c m ≠ .own x := fun z => by
  unfold bagO at z
  cases z
theorem bagO_ne_tup {xs : List V} : bagO b c m ≠ .tup xs := fun z => by
  unfold bagO at z
  cases z
theorem bag_ok (x : BagIn h b c m) : ObjOk P w H h b (bagO b c m) := by
  obtain ⟨i, g, s, n, t1, t2, t3, t4, z, e, q⟩ := x.ex
  refine ⟨x, ⟨_, e⟩, fun h1 h2 hb hk => ?_⟩
  obtain ⟨i, g, s, n, t1, t2, t3, t4, z, e, q⟩ := hb.ex
  exact ⟨⟨i, g, s, n, t1, t2, t3, t4, z, hk _ e, q⟩⟩
/-- what such a list holds -/
def bagV (c : Addr) (i g s n : Int) : List V := [.ref c, .int i, .int g, .int s, .int n]
theorem bag_vals {i g s n : Int} {t1 t2 t3 t4 : Tok} : Vals (bagV c i g s n) [.ref c, .int i t1, .int g t2, .int s t3, .int n t4] := .cons rfl (.cons ⟨_, rfl⟩ (.cons ⟨_, rfl⟩ (.cons ⟨_, rfl⟩ (.cons ⟨_, rfl⟩ .nil))))
/-- another thing known of the object at b, neither an instance's dict nor a tuple -/
theorem hok_swap {o : HO} (hok : HOk P w H h) (hb : ObjOk P w (upd H b o) h b o) (n1 : ∀ x, H b ≠ some (.own x)) (n2 : ∀ xs, H b ≠ some (.tup xs)) : HOk P w (upd H b o) h := fun a u e => by
  by_cases ha : a = b
  · subst ha
    rw [upd_same] at e
    cases e
    exact hb
  · rw [upd_ne ha] at e
    refine (hok a u e).stay (fun _ _ _ q => q) (fun p q => ?_) fun p xs q => ?_
    · rw [upd_ne (fun z => n1 a (by rw [← z]; exact q))]
      exact q
    · rw [upd_ne (fun z => n2 xs (by rw [← z]; exact q))]
      exact q
theorem un_swap {fs : List Addr} {H1' : Hp} {h' : Heap} {o o1 o2 : HO} (hH : H b = some o) (u : Un fs [] (upd H b o1) H1' h h') (hn : ∀ z, H b ≠ some (.tup z)) (hf : ∀ z y, H b ≠ some (.frz z y)) (ht : ∀ z, H b ≠ some (.tbl z)) : Un fs [] H (upd H1' b o2) h h' := by
  have ne : ∀ a, H a = none → a ≠ b := fun a n e => by rw [e, hH] at n; cases n
  refine ⟨fun a o' q n hb hx => u.keep a o' q (by rw [upd_ne (ne a n)]; exact n) hb hx, fun a o' q n hb hx => u.slot a o' q (by rw [upd_ne (ne a n)]; exact n) hb hx, fun a o' q n hx => ?_, u.there, fun a xs q => ?_, fun a o' y q => ?_, fun a ps q => ?_⟩
  · rw [upd_ne (ne a n)]
    exact u.free a o' q (by rw [upd_ne (ne a n)]; exact n) hx
  · have ab : a ≠ b := fun e => hn xs (by rw [← e]; exact q)
    rw [upd_ne ab]
    exact u.tups a xs (by rw [upd_ne ab]; exact q)
  · have ab : a ≠ b := fun e => hf o' y (by rw [← e]; exact q)
    rw [upd_ne ab]
    exact u.frzs a o' y (by rw [upd_ne ab]; exact q)
  · have ab : a ≠ b := fun e => ht ps (by rw [← e]; exact q)
    rw [upd_ne ab]
    exact u.tbls a ps (by rw [upd_ne ab]; exact q)
/-- the drawn number: below m, at least 0 -/
def bagD (c : Addr) (ns : List Int) (i g s n : Int) : List D := [.lat c (ns.map D.int), .int i, .int g, .int s, .int n]
def wpPullO : WpO := fun xs ds Q _ => ∃ (c : Addr) (ns : List Int) (i g s n m : Int), xs = bagD c ns i g s n ∧ ds = [.int m] ∧ ns.length ≤ 63 ∧ 0 ≤ i ∧ i ≤ (ns.length : Int) ∧ 0 ≤ g ∧ 0 ≤ s ∧ s < 2147483587 ∧ 0 < m ∧ m < 2 ^ 64 ∧
  ∀ i' g' s' n' d, 0 ≤ i' → i' ≤ (ns.length : Int) → 0 ≤ g' → 0 ≤ s' → s' < 2147483587 → 0 ≤ d → d < m → Q (bagD c ns i' g' s' n') (.int d)
def wpPull : Wp := fun ds Q _ => match ds with
  | [.bag, .int m] => (0 < m ∧ m < 2 ^ 64) ∧ ∀ d, 0 ≤ d → d < m → Q (.int d)
  | _ => False
theorem ints_rep : ∀ {ns : List Int}, Reps K H (ns.map D.int) (ns.map V.int)
  | [] => rfl
  | n :: r => ⟨.int n, _, rfl, rfl, ints_rep⟩
theorem ints_vals {H : Hp} : ∀ {ns : List Int} {vs : List V}, Reps K H (ns.map D.int) vs → vs = ns.map V.int
  | [], vs, h => h
  | n :: r, vs, ⟨v, vr, e, h1, h2⟩ => by
    subst e
    cases (show v = _ from h1)
    rw [ints_vals h2]
    rfl
theorem bag_fn {k : Nat} {f : Addr} {fd : FuncData} {ps : List Str} (F : FnOk P w K mg base (L2.CX P w) k f fd ps (SpO K wpPullO)) (hl : ps.length = 2) : FnOk P w K mg base (L2.CX P w) k f fd ps (SpW K wpPull) := by
  refine ⟨fun vs H Q E hs => ?_, fun A outer s H args us vs Q E hr he hb hv hs => ?_⟩
  · obtain ⟨H0, ds, Qd, Ed, sm, r, hw, _⟩ := hs
    rw [r.length, hl]
    unfold wpPull at hw
    split at hw
    · rfl
    · exact hw.elim
  · obtain ⟨H0, ds, Qd, Ed, sm, r, hw, q, X9⟩ := hs
    unfold wpPull at hw
    split at hw
    · rename_i m
      obtain ⟨⟨m0, m1⟩, hw⟩ := hw
      obtain ⟨v, u, rfl, ⟨b, rfl, c, ns, hb0, hc0, hn⟩, hu⟩ := two_of r
      cases (show u = _ from hu)
      have hbH := sm _ _ hb0
      have hcH := sm _ _ hc0
      have hbag : BagIn s.heap b c ns.length := (show ObjOk P w H s.heap b (bagO b c ns.length) from he.hok b _ hbH).1
      obtain ⟨i, g, sd, n, t1, t2, t3, t4, z, eb, i0, i1, g0, s0, s1⟩ := hbag.ex
      have hcb : c ≠ b := fun e => by
        rw [e, hbH] at hcH
        cases hcH
      have no1 : ∀ x, H b ≠ some (.own x) := fun x e => by rw [hbH] at e; exact bagO_ne_own (Option.some.inj e)
      have no2 : ∀ xs, H b ≠ some (.tup xs) := fun x e => by rw [hbH] at e; exact bagO_ne_tup (Option.some.inj e)
      have nb : base.get? b = none := by
        cases e : base.get? b with
        | none => rfl
        | some o =>
          rw [(he.bs b o e).2] at hbH
          cases hbH
      have he1 : Env0 P w K mg base A outer s (upd H b (.lst (bagV c i g sd n))) := by
        refine ⟨he.frames, he.mod, fun a o e => ⟨(he.bs a o e).1, ?_⟩, he.bsz, he.funs, fun a ha => ?_, hok_swap he.hok ⟨by show 5 ≤ sizeLine; decide, _, z, bag_vals, eb⟩ no1 no2, he.bare⟩
        · rw [upd_ne (fun z => by rw [z, nb] at e; cases e)]
          exact (he.bs a o e).2
        · have := he.frf a ha
          rw [upd_ne (fun z => by rw [z, hbH] at this; cases this)]
          exact this
      have sm1 : Same (wo H0 b) (upd H b (.lst (bagV c i g sd n))) := fun a o e => by
        have ab : a ≠ b := fun z => by rw [z, wo_same] at e; cases e
        rw [upd_ne ab]
        rw [wo_ne ab] at e
        exact sm a o e
      have td1 : TD (wo H0 b) (wo (upd H b (.lst (bagV c i g sd n))) b) := td_less (td_sub X9.td wo_sub) fun p => by
        by_cases hp : p = b
        · subst hp
          exact .inr (.inr ⟨_, hbH, bagO_plain⟩)
        · exact .inl (by rw [wo_ne hp, upd_ne hp])
      refine codeAny_mono (F.run A outer s _ args us _ (fun v H1' => ∃ d i' g' s' n', v = .int d ∧ 0 ≤ d ∧ d < m ∧ H1' b = some (.lst (bagV c i' g' s' n')) ∧ 0 ≤ i' ∧ i' ≤ (ns.length : Int) ∧ 0 ≤ g' ∧ 0 ≤ s' ∧ s' < 2147483587 ∧ ∃ H0', Grow (wo H0 b) (wo (upd H b (.lst (bagV c i g sd n))) b) H0' H1' ∧ H0' b = none) (fun _ _ _ => False) hr he1 hb hv
        ⟨b, [.int m], bagV c i g sd n, wo H0 b, bagD c ns i g sd n, [.int m], fun xs' d' => ∃ d i' g' s' n', xs' = bagD c ns i' g' s' n' ∧ d' = .int d ∧ 0 ≤ d ∧ d < m ∧ 0 ≤ i' ∧ i' ≤ (ns.length : Int) ∧ 0 ≤ g' ∧ 0 ≤ s' ∧ s' < 2147483587, fun _ => False, rfl, upd_same, wo_same, sm1,
          ⟨.ref c, _, rfl, ⟨rfl, _, .inl (.inl (by rw [wo_ne hcb]; exact hc0)), ints_rep⟩, .int i, _, rfl, rfl, .int g, _, rfl, rfl, .int sd, _, rfl, rfl, .int n, _, rfl, rfl, rfl⟩,
          ⟨.int m, [], rfl, rfl, rfl⟩, ⟨c, ns, i, g, sd, n, m, rfl, rfl, hn, i0, i1, g0, s0, s1, m0, m1, fun i' g' s' n' d a1 a2 a3 a4 a5 a6 a7 => ⟨d, i', g', s', n', rfl, rfl, a6, a7, a1, a2, a3, a4, a5⟩⟩, fun xs' us' d v H0' H' gr n' hq rx rv hQ => ?_, ExRel.none td1⟩) fun r s' hq => ?_
      · obtain ⟨d, i', g', s', n', rfl, rfl, a6, a7, a1, a2, a3, a4, a5⟩ := hQ
        obtain ⟨v1, r1, rfl, ⟨rfl, _⟩, v2, r2, rfl, e2, v3, r3, rfl, e3, v4, r4, rfl, e4, v5, r5, rfl, e5, e6⟩ := rx
        cases (show v2 = _ from e2)
        cases (show v3 = _ from e3)
        cases (show v4 = _ from e4)
        cases (show v5 = _ from e5)
        cases (show r5 = _ from e6)
        cases (show v = _ from rv)
        exact ⟨d, i', g', s', n', rfl, a6, a7, hq, a1, a2, a3, a4, a5, H0', gr, by assumption⟩
      · cases r with
        | error e =>
          obtain ⟨_, _, _, _, _, _, _, _, _, _, _, _, z⟩ := hq
          exact z.elim
        | ok fl =>
          cases fl with
          | ret u =>
            obtain ⟨v, H1', os, bare, un, hok, rv, d, i', g', s2, n', rfl, d0, d1, hb1, a1, a2, a3, a4, a5, H0', gr, n0'⟩ := hq
            obtain ⟨_, its, zn, vals, eits⟩ := (show ObjOk P w H1' s'.heap b (.lst (bagV c i' g' s2 n')) from hok b _ hb1)
            have hbag' : BagIn s'.heap b c ns.length := by
              cases vals with
              | cons q1 p1 => cases p1 with
                | cons q2 p2 => cases p2 with
                  | cons q3 p3 => cases p3 with
                    | cons q4 p4 => cases p4 with
                      | cons q5 p5 =>
                        cases p5
                        obtain ⟨u2, rfl⟩ := q2
                        obtain ⟨u3, rfl⟩ := q3
                        obtain ⟨u4, rfl⟩ := q4
                        obtain ⟨u5, rfl⟩ := q5
                        cases (show _ = Value.ref c from q1)
                        exact ⟨⟨i', g', s2, n', u2, u3, u4, u5, zn, eits, a1, a2, a3, a4, a5⟩⟩
            have hok' : HOk P w (upd H1' b (bagO b c ns.length)) s'.heap := hok_swap hok (bag_ok hbag') (fun x e => by rw [hb1] at e; cases e) (fun x e => by rw [hb1] at e; cases e)
            have un' : Un (frs outer) [] H (upd H1' b (bagO b c ns.length)) s.heap s'.heap := un_swap hbH un no2 (fun z y e => by rw [hbH] at e; unfold bagO at e; cases e) (fun z e => by rw [hbH] at e; unfold bagO at e; cases e)
            have g2 : Grow H0 H (upd H0' b (bagO b c ns.length)) (upd H1' b (bagO b c ns.length)) := by
              refine ⟨fun a o e => ?_, fun a o e => ?_, same_upd2 gr.g2, fun a ha => ?_, fun _ => td_own (td_frz (gr.tb td1) (fun ps z => by unfold bagO at z; cases z)) hb1 plain_lst⟩
              · by_cases hab : a = b
                · subst hab
                  rw [hb0] at e
                  rw [upd_same]
                  exact e
                · rw [upd_ne hab]
                  exact gr.g0 a o (by rw [wo_ne hab]; exact e)
              · by_cases hab : a = b
                · subst hab
                  rw [hbH] at e
                  rw [upd_same]
                  exact .inl e
                · rw [upd_ne hab]
                  exact gr.g1 a o (by rw [wo_ne hab, upd_ne hab]; exact e)
              · by_cases hab : a = b
                · subst hab
                  rw [upd_same, hb0]
                · rw [upd_ne hab, gr.nw a (by rw [wo_ne hab, upd_ne hab]; exact ha), wo_ne hab]
            exact ⟨.int d, _, os, bare, un', hok', rv, q (.int d) (.int d) _ _ g2 rfl (hw d d0 d1)⟩
          | next => exact False.elim hq
          | brk => exact False.elim hq
          | cont => exact False.elim hq
    · exact hw.elim
/-- what the bag's making leaves -/
def spBagL (K : PySem.W.Frag) : Sp := fun vs H Q _ => ∃ (a : Addr) (ns : List Int), vs = [.ref a] ∧ SqL K H a (ns.map V.int) ∧ ∀ (p c : Addr) (H' : Hp), Same H H' → H p = none → H c = none → H' c = some (.lst ((ns.take 63).map V.int)) → H' p = some (.lst (bagV c 0 0 10032 0)) → Q (.ref p) H'
def wpBag : Wp := fun ds Q _ => ∃ ns : List Int, ds = [.lst (ns.map D.int)] ∧ Q .bag
theorem un_more {fs : List Addr} {H1' : Hp} {h' : Heap} {o2 : HO} (u : Un fs [] H H1' h h') (hb : H b = none) (hn : ∀ ob, h.get? b ≠ some ob) : Un fs [] H (upd H1' b o2) h h' := by
  refine ⟨u.keep, u.slot, fun a o' q n hx => ?_, u.there, fun a xs q => ?_, fun a o' y q => ?_, fun a ps q => ?_⟩
  · rw [upd_ne (fun e => hn o' (by rw [← e]; exact q))]
    exact u.free a o' q n hx
  · rw [upd_ne (fun e => by rw [e, hb] at q; cases q)]
    exact u.tups a xs q
  · rw [upd_ne (fun e => by rw [e, hb] at q; cases q)]
    exact u.frzs a o' y q
  · rw [upd_ne (fun e => by rw [e, hb] at q; cases q)]
    exact u.tbls a ps q
theorem bag_new {k : Nat} {f : Addr} {fd : FuncData} {ps : List Str} (F : FnOk P w K mg base (L2.CX P w) k f fd ps (spBagL K)) (hl : ps.length = 1) : FnOk P w K mg base (L2.CX P w) k f fd ps (SpW K wpBag) := by
  refine ⟨fun vs H Q E hs => ?_, fun A outer s H args us vs Q E hr he hb hv hs => ?_⟩
  · obtain ⟨H0, ds, Qd, Ed, sm, r, ⟨ns, rfl, _⟩, _⟩ := hs
    rw [r.length, hl]
    rfl
  · obtain ⟨H0, ds, Qd, Ed, sm, r, ⟨ns, rfl, hw⟩, q, _⟩ := hs
    obtain ⟨v, rfl, a, ws, rfl, ha, ra⟩ := one_of r
    cases ints_vals ra
    refine codeAny_mono (F.run A outer s H args us _ (fun v H' => ∃ p c, v = .ref p ∧ Same H H' ∧ H p = none ∧ H c = none ∧ H' c = some (.lst ((ns.take 63).map V.int)) ∧ H' p = some (.lst (bagV c 0 0 10032 0))) (fun _ _ _ => False) hr he hb hv ⟨a, ns, rfl, sm.seq ha, fun p c H' s1 n1 n2 h1 h2 => ⟨p, c, rfl, s1, n1, n2, h1, h2⟩⟩) fun r s' hq => ?_
    cases r with
    | error e =>
      obtain ⟨_, _, _, _, _, _, _, _, _, _, _, _, z⟩ := hq
      exact z.elim
    | ok fl =>
      cases fl with
      | ret u =>
        obtain ⟨v, H1', os, bare, un, hok, rv, p, c, rfl, s1, np, hcH, hc, hp⟩ := hq
        obtain ⟨_, its, zn, vals, eits⟩ := (show ObjOk P w H1' s'.heap p (.lst (bagV c 0 0 10032 0)) from hok p _ hp)
        have hlen : ((ns.take 63).length : Nat) ≤ 63 := by rw [List.length_take]; omega
        have hcp : c ≠ p := fun e => by
          rw [e, hp] at hc
          have := Option.some.inj hc
          injection this with this
          have := congrArg List.head? this
          cases hq : (ns.take 63) with
          | nil => rw [hq] at this; cases this
          | cons x r => rw [hq] at this; cases this
        have hbag' : BagIn s'.heap p c (ns.take 63).length := by
          cases vals with
          | cons q1 p1 => cases p1 with
            | cons q2 p2 => cases p2 with
              | cons q3 p3 => cases p3 with
                | cons q4 p4 => cases p4 with
                  | cons q5 p5 =>
                    cases p5
                    obtain ⟨u2, rfl⟩ := q2
                    obtain ⟨u3, rfl⟩ := q3
                    obtain ⟨u4, rfl⟩ := q4
                    obtain ⟨u5, rfl⟩ := q5
                    cases (show _ = Value.ref c from q1)
                    exact ⟨⟨0, 0, 10032, 0, u2, u3, u4, u5, zn, eits, by omega, by omega, by omega, by omega, by omega⟩⟩
        have hok' : HOk P w (upd H1' p (bagO p c (ns.take 63).length)) s'.heap := hok_swap hok (bag_ok hbag') (fun x e => by rw [hp] at e; cases e) (fun x e => by rw [hp] at e; cases e)
        -- the new place is not of the old heap, or is not tracked there
        have hH : ∀ o, s.heap.get? p = some o → H1' p = none := fun o e => un.free p o e np (by simp)
        have hnp : ∀ o, s.heap.get? p ≠ some o := fun o e => by
          have := hH o e
          rw [hp] at this
          cases this
        have n0 : H0 p = none := sm.free np
        have g2 : Grow H0 H (upd (upd H0 c (.lst ((ns.take 63).map V.int))) p (bagO p c (ns.take 63).length)) (upd H1' p (bagO p c (ns.take 63).length)) := by
          have sq : Same H (upd H1' p (bagO p c (ns.take 63).length)) := fun x o e => by
            rw [upd_ne (ne_of_none e np)]
            exact s1 x o e
          refine ⟨(same_upd (sm.free hcH)).trans (same_upd (by rw [upd_ne (fun z => hcp z.symm)]; exact n0)), sq.ext, same_upd2 fun x o e => ?_, fun x hx => ?_, fun t => td_of (td_frz (td_frz t) (fun ps z => by unfold bagO at z; cases z)) sq⟩
          · by_cases hx : x = c
            · subst hx
              rw [upd_same] at e
              cases e
              exact hc
            · rw [upd_ne hx] at e
              exact s1 x o (sm x o e)
          · have xp : x ≠ p := fun z => hx (by rw [z]; exact np)
            have xc : x ≠ c := fun z => hx (by rw [z]; exact hcH)
            rw [upd_ne xp, upd_ne xc]
        refine ⟨.ref p, _, os, bare, un_more un np hnp, hok', rv, ?_⟩
        · exact q .bag (.ref p) _ _ g2 ⟨p, rfl, c, ns.take 63, upd_same, by rw [upd_ne hcp, upd_same], hlen⟩ hw
      | next => exact False.elim hq
      | brk => exact False.elim hq
      | cont => exact False.elim hq
end
end DL
namespace DL
variable [TbC]
open PySem PySem.Spec PyProof.Rows L2
section
variable {X : Cx} {Ed : DX → Prop} {E : XK} {K : PySem.W.Frag} {pos p : Pos} {e a b c o e2 tg iter elt : Expr} {te ta tb tc : TE} {de da db dc : DE} {tal : TA} {dal : DA} {es ifs : List Expr} {k : Nat} {x : Str} {tt : TT} {dt : DT} {st : Stmt} {sts : List Stmt} {ts us : TS} {ds dus : DS}
theorem t_eq (hr : Room k X.A) (ha : JE X Ed E a ta da) (hb : JE X Ed E b tb db) : JT X Ed E (.Compare a [.Eq] [b] pos) (tB (tOp (rEqN X.K 150) ta tb)) (dB (dOp dEq da db)) := t_cmp (op_eqN (room150 hr)) s_eqN ha hb (nomark _)
theorem t_ne (hr : Room k X.A) (ha : JE X Ed E a ta da) (hb : JE X Ed E b tb db) : JT X Ed E (.Compare a [.NotEq] [b] pos) (tB (tOp (rNeN X.K 150) ta tb)) (dB (dOp dNe da db)) := t_cmp (op_neN (room150 hr)) s_neN ha hb (nomark _)
theorem t_lt (ha : JE X Ed E a ta da) (hb : JE X Ed E b tb db) : JT X Ed E (.Compare a [.Lt] [b] pos) (tB (tOp (rI0 fun i j => .bl (decide (i < j))) ta tb)) (dB (dOp dLt da db)) := t_cmp op_lt (s_I0 fun _ _ _ => rfl) ha hb (nomark _)
theorem t_gt (ha : JE X Ed E a ta da) (hb : JE X Ed E b tb db) : JT X Ed E (.Compare a [.Gt] [b] pos) (tB (tOp (rI0 fun i j => .bl (decide (j < i))) ta tb)) (dB (dOp dGt da db)) := t_cmp op_gt (s_I0 fun _ _ _ => rfl) ha hb (nomark _)
theorem t_ge (ha : JE X Ed E a ta da) (hb : JE X Ed E b tb db) : JT X Ed E (.Compare a [.GtE] [b] pos) (tB (tOp (rI0 fun i j => .bl (decide (j ≤ i))) ta tb)) (dB (dOp dGe da db)) := t_cmp op_ge (s_I0 fun _ _ _ => rfl) ha hb (nomark _)
def isNonD : D → Bool
  | .non => true
  | _ => false
def dIsN (da : DE) (ρ : Rho) (Q : D → Prop) : Prop := da ρ fun x => Q (.bl (isNonD x))
def dNotN (da : DE) (ρ : Rho) (Q : D → Prop) : Prop := da ρ fun x => Q (.bl (!isNonD x))
theorem isN_rep {H : Hp} {d : D} {v : V} (r : Rep K H d v) : decide (v = .non) = isNonD d := by
  cases d with
  | non => cases (show v = _ from r); rfl
  | bl b => cases (show v = _ from r); rfl
  | int b => cases (show v = _ from r); rfl
  | str b => cases (show v = _ from r); rfl
  | ty b => cases (show v = _ from r); rfl
  | cls b => cases (show v = _ from r); rfl
  | tup xs => obtain ⟨l, vs, rfl, _⟩ := r; rfl
  | lst xs => obtain ⟨l, vs, rfl, _⟩ := r; rfl
  | ins C fs => obtain ⟨l, dx, vs, rfl, _⟩ := r; rfl
  | bag => obtain ⟨l, rfl, _⟩ := r; rfl
  | lat c xs => obtain ⟨rfl, _⟩ := r; rfl
  | dk _ => obtain ⟨l, vs, rfl, _⟩ := r; rfl
  | dt _ _ => obtain ⟨l, vs, rfl, _⟩ := r; rfl
theorem sim_isN (h : SimE K Ed E ta da) : SimE K Ed E (tIsN ta) (dIsN da) := fun B0 B1 A H0 H σ ρ R X Qd hd Q q => h B0 B1 A H0 H σ ρ R X _ hd _ fun x v H1 H2 R1 g1 r1 k => by
  rw [isN_rep r1]
  exact q (.bl _) _ H1 H2 R1 g1 rfl k
theorem e_isN {j : Nat} {p2 : Pos} (ha : JE X Ed E a ta da) : JE X Ed E (.Compare a [.Is] [.Constant .none j p2] pos) (tIsN ta) (dIsN da) := ⟨pe_cmp (pc_isN ha.pe) rfl, sim_isN ha.sim⟩
theorem t_isN {j : Nat} {p2 : Pos} (ha : JE X Ed E a ta da) : JT X Ed E (.Compare a [.Is] [.Constant .none j p2] pos) (tB (tIsN ta)) (dB (dIsN da)) := ⟨pt_cmp (pc_isN ha.pe) rfl, sim_B (sim_isN ha.sim)⟩
end
/-- a built-in class by its name, as a value -/
theorem b_ty {X : Cx} {Ed : DX → Prop} {E : XK} {pos : Pos} (n : String) {x : Str} (hm : X.mg x = none) (hv : bootBuiltins x = some (.type n) := by decide +kernel) (hg : Gl X x := by rfl) (hn : x ≠ "__name__" := by decide) (hd : (x == ("__debug__" : Str)) = false := by decide) : JE X Ed E (.Name x pos) (tC (.ty n)) (dC (.ty n)) := e_bltn hg hm hv rfl (fun _ => rfl) hn hd
end DL
namespace DL
variable [TbC]
open PySem PySem.Spec PyProof.Rows L2
section
variable {X : Cx} {Ed : DX → Prop} {E : XK} {K : PySem.W.Frag} {pos : Pos} {x : Str}
/-- a module's constant: an int, a text -/
theorem e_cInt {i : Int} (h : ∃ t, X.mg x = some (.int i t)) (hg : Gl X x := by rfl) (hd : (x == ("__debug__" : Str)) = false := by decide) : JE X Ed E (.Name x pos) (tC (.int i)) (dC (.int i)) := by
  obtain ⟨t, h⟩ := h
  exact e_glob hg h ⟨t, rfl⟩ (fun _ => rfl) hd
end
section
variable {P : Program} {w : World} {K : PySem.W.Frag} {mg : Str → Option Value} {base : Heap}
/-- a def of the text, as its callers see it -/
theorem callee_mk {x qual : Str} {st : Stmt} {f : Addr} {fd : FuncData} {ps : List Str} {k : Nat} {wp : Wp} (F : FunX K x qual st f fd) (g : mg x = some (.ref f)) (O : FnOk P w K mg base (L2.CX P w) k f fd ps (SpW K wp)) (b : Binds K fd ps []) : Callee P w K mg base x k wp [] [] :=
  ⟨f, fd, ps, [], g, F.kp, O, b, .nil, fun _ => rfl⟩
theorem maker_mk {x : Str} {C f : Addr} {fd : FuncData} {ps : List Str} {k : Nat} {wp : WpI} (g : mg x = some (.ref C)) (M : Mk K C f) (O : FnOk P w K mg base (L2.CX P w) k f fd ps (SpI K C wp)) (b : Binds K fd ps []) : Maker P w K mg base x C k wp [] [] :=
  ⟨f, fd, ps, [], g, M, O, b, .nil, fun _ => rfl⟩
end
/-- the script's end -/
def wpLaw : Wp := fun ds Q _ => ∃ ns : List Int, ds = [.lst (ns.map D.int)] ∧ ns.length ≤ 63 ∧ Q (.bl true)
theorem law_spT {K : PySem.W.Frag} {H : Hp} {a : Addr} {ns : List Int} (hl : ns.length ≤ 63) (hS : SqL K H a (ns.map V.int)) (hT : LamX.Tabs TbC.T H) : SpW K wpLaw [.ref a] H (fun v _ => v = .bl true) fun _ _ _ => False := by
  have h0 : ∃ H0 : Hp, Same H0 H ∧ SqL K H0 a (ns.map V.int) ∧ ∀ p ps, H0 p ≠ some (.tbl ps) := by
    rcases hS with (h | ⟨o, h⟩) | h
    · refine ⟨upd (fun _ => none) a (.lst (ns.map V.int)), fun b o e => ?_, .inl (.inl upd_same), fun p ps e => ?_⟩
      · by_cases hb : b = a
        · subst hb
          rw [upd_same] at e
          rw [h, e]
        · rw [upd_ne hb] at e
          cases e
      · by_cases hb : p = a
        · subst hb
          rw [upd_same] at e
          cases e
        · rw [upd_ne hb] at e
          cases e
    · refine ⟨upd (fun _ => none) a (.frz o (.lst (ns.map V.int))), fun b o e => ?_, .inl (.inr ⟨o, upd_same⟩), fun p ps e => ?_⟩
      · by_cases hb : b = a
        · subst hb
          rw [upd_same] at e
          rw [h, e]
        · rw [upd_ne hb] at e
          cases e
      · by_cases hb : p = a
        · subst hb
          rw [upd_same] at e
          cases e
        · rw [upd_ne hb] at e
          cases e
    · exact ⟨fun _ => none, (fun b o e => nomatch e), .inr h, (fun p ps e => nomatch e)⟩
  obtain ⟨H0, s0, hS0, n0⟩ := h0
  exact ⟨H0, [.lst (ns.map D.int)], fun d => d = .bl true, fun _ => False, s0, ⟨.ref a, [], rfl, ⟨a, _, rfl, hS0, ints_rep⟩, rfl⟩, ⟨ns, rfl, hl, rfl⟩, fun d v H0' H' g r h => by
    subst h
    exact r, ExRel.none ⟨n0, hT⟩⟩
/-- no tables at all -/
abbrev noTb : TbC := ⟨[]⟩
theorem law_cx {P : Program} {w : World} (H : Hp) (s : Shared) (e : Value) (s' : Shared) (h : L2.CX P w [] H s (fun _ _ _ => False) e s') : False := by
  obtain ⟨_, _, _, _, _, _, _, _, _, _, _, _, z⟩ := h
  exact z
theorem kb_NoneType_int : kitB "NoneType" "int" = some false := by decide +kernel
theorem kb_NoneType_bool : kitB "NoneType" "bool" = some false := by decide +kernel
theorem kb_NoneType_str : kitB "NoneType" "str" = some false := by decide +kernel
theorem kb_NoneType_list : kitB "NoneType" "list" = some false := by decide +kernel
theorem kb_NoneType_tuple : kitB "NoneType" "tuple" = some false := by decide +kernel
theorem kb_bool_int : kitB "bool" "int" = some true := by decide +kernel
theorem kb_bool_bool : kitB "bool" "bool" = some true := by decide +kernel
theorem kb_bool_str : kitB "bool" "str" = some false := by decide +kernel
theorem kb_bool_list : kitB "bool" "list" = some false := by decide +kernel
theorem kb_bool_tuple : kitB "bool" "tuple" = some false := by decide +kernel
theorem kb_int_int : kitB "int" "int" = some true := by decide +kernel
theorem kb_int_bool : kitB "int" "bool" = some false := by decide +kernel
theorem kb_int_str : kitB "int" "str" = some false := by decide +kernel
theorem kb_int_list : kitB "int" "list" = some false := by decide +kernel
theorem kb_int_tuple : kitB "int" "tuple" = some false := by decide +kernel
theorem kb_str_int : kitB "str" "int" = some false := by decide +kernel
theorem kb_str_bool : kitB "str" "bool" = some false := by decide +kernel
theorem kb_str_str : kitB "str" "str" = some true := by decide +kernel
theorem kb_str_list : kitB "str" "list" = some false := by decide +kernel
theorem kb_str_tuple : kitB "str" "tuple" = some false := by decide +kernel
theorem kb_tuple_int : kitB "tuple" "int" = some false := by decide +kernel
theorem kb_tuple_bool : kitB "tuple" "bool" = some false := by decide +kernel
theorem kb_tuple_str : kitB "tuple" "str" = some false := by decide +kernel
theorem kb_tuple_list : kitB "tuple" "list" = some false := by decide +kernel
theorem kb_tuple_tuple : kitB "tuple" "tuple" = some true := by decide +kernel
theorem kb_list_int : kitB "list" "int" = some false := by decide +kernel
theorem kb_list_bool : kitB "list" "bool" = some false := by decide +kernel
theorem kb_list_str : kitB "list" "str" = some false := by decide +kernel
theorem kb_list_list : kitB "list" "list" = some true := by decide +kernel
theorem kb_list_tuple : kitB "list" "tuple" = some false := by decide +kernel
mutual
def sameD : D → D → Bool
  | .non, .non => true
  | .bl a, .bl b => a == b
  | .int i, .int j => i == j
  | .str x, .str y => x == y
  | .tup xs, .tup ys => sameDs xs ys
  | .lst xs, .lst ys => sameDs xs ys
  | _, _ => false
def sameDs : List D → List D → Bool
  | [], [] => true
  | x :: xs, y :: ys => sameD x y && sameDs xs ys
  | _, _ => false
end
mutual
theorem sameD_refl : ∀ (n : Nat) (x : D), x.isData n = true → sameD x x = true
  | _, .non, _ => rfl
  | _, .bl b, _ => by simp [sameD]
  | _, .int _, _ => by simp [sameD]
  | _, .str _, _ => by simp [sameD]
  | n + 1, .tup xs, h => sameDs_refl n xs h
  | n + 1, .lst xs, h => sameDs_refl n xs h
  | 0, .tup xs, h => by simp [D.isData] at h
  | 0, .lst xs, h => by simp [D.isData] at h
  | n, .ty _, h => by simp [D.isData] at h
  | n, .cls _, h => by simp [D.isData] at h
  | n, .ins _ _, h => by simp [D.isData] at h
  | n, .bag, h => by simp [D.isData] at h
  | n, .lat _ _, h => by simp [D.isData] at h
  | n, .dk _, h => by simp [D.isData] at h
  | n, .dt _ _, h => by simp [D.isData] at h
theorem sameDs_refl : ∀ (n : Nat) (xs : List D), allData n xs = true → sameDs xs xs = true
  | _, [], _ => rfl
  | n, x :: xs, h => by
    obtain ⟨h1, h2⟩ := Bool.and_eq_true_iff.mp (show (x.isData n && allData n xs) = true from h)
    show (sameD x x && sameDs xs xs) = true
    rw [sameD_refl n x h1, sameDs_refl n xs h2]
    rfl
end
theorem compD_map {g : DG} {te : DE} {f : D → D} {ρ : Rho} {Q : D → Prop} : ∀ {xs acc : List D}, (∀ x ∈ xs, ∀ Q' : D → Prop, Q' (f x) → g x ρ fun ρ' => te ρ' Q') → (∀ x ρ (P P' : Rho → Prop), (∀ ρ', P ρ' → P' ρ') → g x ρ P → g x ρ P') → acc.length + xs.length ≤ 100000 → Q (.lst (acc ++ xs.map f)) → compD g dTs1 te xs acc ρ Q
  | [], acc, _, _, _, q => by
    rw [List.map_nil, List.append_nil] at q
    exact q
  | x :: xs, acc, h, hm, hl, q => by
    have hl' : acc.length + (xs.length + 1) ≤ 100000 := hl
    refine hm x ρ _ _ (fun ρ' k => k) (h x List.mem_cons_self _ ⟨by omega, ?_⟩)
    refine compD_map (fun y hy => h y (List.mem_cons_of_mem _ hy)) hm (by rw [List.length_append, List.length_singleton]; omega) ?_
    rw [List.append_assoc]
    exact q
theorem bools_map : ∀ bs : List Bool, bools (bs.map D.bl) = some bs
  | [] => rfl
  | b :: bs => by
    show (bools (bs.map D.bl)).map (b :: ·) = _
    rw [bools_map bs]
    rfl
theorem mono_name {i : Nat} : ∀ (x : D) (ρ : Rho) (P P' : Rho → Prop), (∀ ρ', P ρ' → P' ρ') → dName i x ρ P → dName i x ρ P' := fun x ρ P P' h q => h _ q
theorem mono_nil : ∀ (xs : List D) (ρ : Rho) (P P' : Rho → Prop), (∀ ρ', P ρ' → P' ρ') → dgNil xs ρ P → dgNil xs ρ P' := fun xs ρ P P' h q => by
  cases xs with
  | nil => exact h _ q
  | cons _ _ => exact q
theorem mono_cons {g : DG} {gs : DGs} (h1 : ∀ (x : D) (ρ : Rho) (P P' : Rho → Prop), (∀ ρ', P ρ' → P' ρ') → g x ρ P → g x ρ P') (h2 : ∀ (xs : List D) (ρ : Rho) (P P' : Rho → Prop), (∀ ρ', P ρ' → P' ρ') → gs xs ρ P → gs xs ρ P') :
    ∀ (xs : List D) (ρ : Rho) (P P' : Rho → Prop), (∀ ρ', P ρ' → P' ρ') → dgCons g gs xs ρ P → dgCons g gs xs ρ P' := fun xs ρ P P' h q => by
  cases xs with
  | nil => exact q
  | cons x r => exact h1 x ρ _ _ (fun ρ' k => h2 r ρ' P P' h k) q
theorem mono_tup {gs : DGs} (h2 : ∀ (xs : List D) (ρ : Rho) (P P' : Rho → Prop), (∀ ρ', P ρ' → P' ρ') → gs xs ρ P → gs xs ρ P') : ∀ (x : D) (ρ : Rho) (P P' : Rho → Prop), (∀ ρ', P ρ' → P' ρ') → dgTup gs x ρ P → dgTup gs x ρ P' := fun x ρ P P' h q => by
  cases x with
  | tup xs => exact h2 xs ρ P P' h q
  | _ => exact q
def pairSame : D → D
  | .tup [a, b] => .bl (sameD a b)
  | _ => .non
theorem pairs_same : ∀ {xs ys : List D}, xs.length = ys.length → ∃ bs : List Bool, (zipD xs ys).map pairSame = bs.map D.bl ∧ bs.all id = sameDs xs ys
  | [], [], _ => ⟨[], rfl, rfl⟩
  | [], _ :: _, h => by cases h
  | _ :: _, [], h => by cases h
  | x :: xs, y :: ys, h => by
    obtain ⟨bs, e1, e2⟩ := pairs_same (xs := xs) (ys := ys) (Nat.succ.inj h)
    refine ⟨sameD x y :: bs, ?_, ?_⟩
    · show pairSame (.tup [x, y]) :: (zipD xs ys).map pairSame = _
      rw [e1]
      rfl
    · rw [List.all_cons, e2]
      rfl
theorem sameDs_other : ∀ {xs ys : List D}, xs.length ≠ ys.length → sameDs xs ys = false
  | [], [], h => absurd rfl h
  | [], _ :: _, _ => rfl
  | _ :: _, [], _ => rfl
  | x :: xs, y :: ys, h => by
    show (sameD x y && sameDs xs ys) = false
    rw [sameDs_other (xs := xs) (ys := ys) (fun e => h (congrArg (· + 1) e)), Bool.and_false]
theorem zipD_mem : ∀ {xs ys : List D} {p : D}, p ∈ zipD xs ys → ∃ a b, p = .tup [a, b] ∧ a ∈ xs ∧ b ∈ ys
  | [], _, p, h => by simp [zipD] at h
  | _ :: _, [], p, h => by simp [zipD] at h
  | x :: xs, y :: ys, p, h => by
    rcases List.mem_cons.mp h with e | h
    · exact ⟨x, y, e, List.mem_cons_self, List.mem_cons_self⟩
    · obtain ⟨a, b, e, h1, h2⟩ := zipD_mem h
      exact ⟨a, b, e, List.mem_cons_of_mem _ h1, List.mem_cons_of_mem _ h2⟩
theorem allData_mem : ∀ {n : Nat} {xs : List D} {x : D}, allData n xs = true → x ∈ xs → x.isData n = true
  | n, y :: ys, x, h, hx => by
    obtain ⟨h1, h2⟩ := Bool.and_eq_true_iff.mp (show (y.isData n && allData n ys) = true from h)
    rcases List.mem_cons.mp hx with e | hx
    · rw [e]
      exact h1
    · exact allData_mem h2 hx
theorem zipD_len : ∀ {xs ys : List D}, (zipD xs ys).length ≤ xs.length
  | [], _ => by simp [zipD]
  | _ :: _, [] => by simp [zipD]
  | x :: xs, y :: ys => Nat.succ_le_succ zipD_len
mutual
theorem isData_mono : ∀ (n : Nat) (x : D), x.isData n = true → x.isData (n + 1) = true
  | _, .non, _ => rfl
  | _, .bl _, _ => rfl
  | _, .int _, _ => rfl
  | _, .str _, _ => rfl
  | n + 1, .tup xs, h => allData_mono n xs h
  | n + 1, .lst xs, h => allData_mono n xs h
  | 0, .tup _, h => by simp [D.isData] at h
  | 0, .lst _, h => by simp [D.isData] at h
  | n, .ty _, h => by simp [D.isData] at h
  | n, .cls _, h => by simp [D.isData] at h
  | n, .ins _ _, h => by simp [D.isData] at h
  | n, .bag, h => by simp [D.isData] at h
  | n, .lat _ _, h => by simp [D.isData] at h
  | n, .dk _, h => by simp [D.isData] at h
  | n, .dt _ _, h => by simp [D.isData] at h
theorem allData_mono : ∀ (n : Nat) (xs : List D), allData n xs = true → allData (n + 1) xs = true
  | _, [], _ => rfl
  | n, x :: xs, h => by
    obtain ⟨h1, h2⟩ := Bool.and_eq_true_iff.mp (show (x.isData n && allData n xs) = true from h)
    exact Bool.and_eq_true_iff.mpr ⟨isData_mono n x h1, allData_mono n xs h2⟩
end
theorem isData_le {n m : Nat} {x : D} (h : x.isData n = true) (hm : n ≤ m) : x.isData m = true := by
  induction hm with
  | refl => exact h
  | step _ ih => exact isData_mono _ _ ih
mutual
/-- no list or tuple within is long -/
def D.few : D → Bool
  | .tup xs => decide (xs.length ≤ 90000) && fewAll xs
  | .lst xs => decide (xs.length ≤ 90000) && fewAll xs
  | _ => true
def fewAll : List D → Bool
  | [] => true
  | x :: xs => x.few && fewAll xs
end
theorem fewAll_mem : ∀ {xs : List D} {x : D}, fewAll xs = true → x ∈ xs → x.few = true
  | y :: ys, x, h, hx => by
    obtain ⟨h1, h2⟩ := Bool.and_eq_true_iff.mp (show (y.few && fewAll ys) = true from h)
    rcases List.mem_cons.mp hx with e | hx
    · rw [e]
      exact h1
    · exact fewAll_mem h2 hx
/-- both at most n deep, short lists -/
def wpSame (n : Nat) (ds : List D) (Q : D → Prop) (Ed : DX → Prop) : Prop := match ds with
  | [x, y] => x.isData n = true ∧ y.isData n = true ∧ x.few = true ∧ Q (.bl (sameD x y))
  | _ => False
def wpNo (ds : List D) (Q : D → Prop) (Ed : DX → Prop) : Prop := False
theorem callee_no {P : Program} {w : World} {K : PySem.W.Frag} {mg : Str → Option Value} {base : Heap} {x qual : Str} {st : Stmt} {f : Addr} {fd : FuncData} {ps : List Str} {k : Nat} (F : FunX K x qual st f fd) (g : mg x = some (.ref f)) (b : Binds K fd ps []) : Callee P w K mg base x k wpNo [] [] :=
  callee_mk F g ⟨fun vs H Q E h => by
    obtain ⟨_, _, _, _, _, _, h, _⟩ := h
    exact False.elim h, fun A outer s H args us vs Q E hr he hb hv h => by
    obtain ⟨_, _, _, _, _, _, h, _⟩ := h
    exact False.elim h⟩ b
end DL
namespace DL
variable [TbC]
open PySem PySem.Spec PyProof.Rows L2
section
theorem seq_eq {t u : DS} {d : DEnds} {ρ : Rho} (ρ' : Rho) (h1 : ∀ N : Rho → Prop, N ρ' → t { nx := N, rt := d.rt, bk := d.bk, ct := d.ct } ρ) (h2 : u d ρ') : dSeq t u d ρ := h1 (u d) h2
theorem seq_of {t u : DS} {d : DEnds} {ρ : Rho} (R : Rho → Prop) (h1 : ∀ N : Rho → Prop, (∀ ρ', R ρ' → N ρ') → t { nx := N, rt := d.rt, bk := d.bk, ct := d.ct } ρ) (h2 : ∀ ρ', R ρ' → u d ρ') : dSeq t u d ρ := h1 (u d) h2
theorem for_of {di : DI} {g : DG} {tb : DS} {d : DEnds} {ρ : Rho} (xs : List D) (h1 : ∀ N : List D → Prop, N xs → di ρ N) (h2 : loopD g tb d xs ρ) : dFor di g tb d ρ := h1 _ h2
theorem loop_nil {g : DG} {tb : DS} {d : DEnds} {ρ : Rho} (h : d.nx ρ) : loopD g tb d [] ρ := h
theorem loop_cons {g : DG} {tb : DS} {d : DEnds} {x : D} {r : List D} {ρ : Rho} (ρ' : Rho) (h1 : ∀ N : Rho → Prop, N ρ' → g x ρ fun ρ1 => tb { nx := N, rt := d.rt, bk := d.nx, ct := N } ρ1) (h2 : loopD g tb d r ρ') : loopD g tb d (x :: r) ρ := h1 _ h2
theorem passB {X : Cx} : Passes (L2.CX X.prog X.w) X E0 := fun _ _ _ _ _ _ _ h => by
  obtain ⟨_, _, _, _, _, _, _, _, _, _, _, _, z⟩ := h
  exact z.elim
/-- the place out of an element's transformer -/
theorem castE {X : Cx} {Ed : DX → Prop} {E : XK} {e : Expr} {te te' : TE} {de : DE} (h : JE X Ed E e te' de) (q : te' = te) : JE X Ed E e te de := q ▸ h
theorem castTs {X : Cx} {Ed : DX → Prop} {E : XK} {e : List Expr} {te te' : TT} {de : DT} (h : JTs X Ed E e te' de) (q : te' = te) : JTs X Ed E e te de := q ▸ h
/-- the law's own comparison, the walk of two lists of the same length -/
theorem same_comp {wpc : Wp} {m : Nat} {xs ys : List D} {Qd : D → Prop} {u v : Option SV} (hc : wpc = wpSame m) (hx : allData m xs = true) (hy : allData m ys = true) (hn : xs.length ≤ 90000) (hf : fewAll xs = true) (hl : xs.length = ys.length) (hq : Qd (.bl (sameDs xs ys))) :
    compD (dgTup (dgCons (dName 2) (dgCons (dName 3) dgNil))) dTs1 (dCall wpc (fun _ => False) (dCons (dVar 2) (dCons (dVar 3) dNil))) (zipD xs ys) [] [u, v, none, none] fun x => dAllB [x] Qd := by
  subst hc
  refine compD_map (f := pairSame) (fun p hp Q' q => ?_) (mono_tup (mono_cons mono_name (mono_cons mono_name mono_nil))) ?_ ?_
  · obtain ⟨a, b, rfl, ha, hb⟩ := zipD_mem hp
    exact ⟨allData_mem hx ha, allData_mem hy hb, fewAll_mem hf ha, q⟩
  · have := zipD_len (xs := xs) (ys := ys)
    simp only [List.length_nil]
    omega
  · obtain ⟨bs, e1, e2⟩ := pairs_same hl
    rw [List.nil_append, e1]
    show onS (bools (bs.map D.bl)) fun bs => Qd (.bl (bs.all id))
    rw [bools_map]
    show Qd (.bl (bs.all id))
    rw [e2]
    exact hq
theorem if_n {c : Prop} {i : Decidable c} {a b : Prop} (h : ¬c) (hb : b) : @ite Prop c i a b := (if_neg h).symm ▸ hb
theorem if_y {c : Prop} {i : Decidable c} {a b : Prop} (h : c) (hb : a) : @ite Prop c i a b := (if_pos h).symm ▸ hb
theorem if_c {c : Prop} {i : Decidable c} {a b : Prop} (h1 : c → a) (h2 : ¬c → b) : @ite Prop c i a b := by
  split
  · exact h1 ‹_›
  · exact h2 ‹_›
theorem atI_0 {α : Type} {a : α} {l : List α} : atI (a :: l) 0 = some a := atI_nat (j := 0) rfl
theorem atI_1 {α : Type} {a b : α} {l : List α} : atI (a :: b :: l) 1 = some b := atI_nat (j := 1) rfl
theorem atI_2 {α : Type} {a b c : α} {l : List α} : atI (a :: b :: c :: l) 2 = some c := atI_nat (j := 2) rfl
theorem atI_3 {α : Type} {a b c d : α} {l : List α} : atI (a :: b :: c :: d :: l) 3 = some d := atI_nat (j := 3) rfl
theorem atI_4 {α : Type} {a b c d e : α} {l : List α} : atI (a :: b :: c :: d :: e :: l) 4 = some e := atI_nat (j := 4) rfl
theorem atI_5 {α : Type} {a b c d e f : α} {l : List α} : atI (a :: b :: c :: d :: e :: f :: l) 5 = some f := atI_nat (j := 5) rfl
theorem atI_6 {α : Type} {a b c d e f g : α} {l : List α} : atI (a :: b :: c :: d :: e :: f :: g :: l) 6 = some g := atI_nat (j := 6) rfl
theorem atI_7 {α : Type} {a b c d e f g h : α} {l : List α} : atI (a :: b :: c :: d :: e :: f :: g :: h :: l) 7 = some h := atI_nat (j := 7) rfl
theorem ixN_1_0 : ixN 1 0 = some 0 := rfl
theorem ixN_2_0 : ixN 2 0 = some 0 := rfl
theorem ixN_2_1 : ixN 2 1 = some 1 := rfl
theorem ixN_3_0 : ixN 3 0 = some 0 := rfl
theorem ixN_3_1 : ixN 3 1 = some 1 := rfl
theorem ixN_3_2 : ixN 3 2 = some 2 := rfl
theorem ixN_4_0 : ixN 4 0 = some 0 := rfl
theorem ixN_4_1 : ixN 4 1 = some 1 := rfl
theorem ixN_4_2 : ixN 4 2 = some 2 := rfl
theorem ixN_4_3 : ixN 4 3 = some 3 := rfl
theorem ixN_5_0 : ixN 5 0 = some 0 := rfl
theorem ixN_5_1 : ixN 5 1 = some 1 := rfl
theorem ixN_5_2 : ixN 5 2 = some 2 := rfl
theorem ixN_5_3 : ixN 5 3 = some 3 := rfl
theorem ixN_5_4 : ixN 5 4 = some 4 := rfl
theorem ixN_6_0 : ixN 6 0 = some 0 := rfl
theorem ixN_6_1 : ixN 6 1 = some 1 := rfl
theorem ixN_6_2 : ixN 6 2 = some 2 := rfl
theorem ixN_6_3 : ixN 6 3 = some 3 := rfl
theorem ixN_6_4 : ixN 6 4 = some 4 := rfl
theorem ixN_6_5 : ixN 6 5 = some 5 := rfl
theorem atI_map {α : Type} {ns : List Int} {f : Int → α} {i : Int} (h0 : 0 ≤ i) (h1 : i < (ns.length : Int)) : ∃ v, atI (ns.map f) i = some (f v) := by
  obtain ⟨j, rfl⟩ := Int.eq_ofNat_of_zero_le h0
  have h : j < ns.length := by omega
  exact ⟨ns[j], atI_nat (by rw [List.getElem?_map, List.getElem?_eq_getElem h]; rfl)⟩
theorem cdiv_ok {i m : Int} (h0 : 0 < m) (h1 : m < 2 ^ 64) : CDivW i m :=
  ⟨h0, Nat.lt_trans ((Nat.log2_lt (by omega)).mpr (show m.natAbs < 2 ^ 64 by omega)) (by decide)⟩
end
end DL
namespace DL
variable [TbC]
open PySem PySem.Spec PyProof.Rows L2
section
variable {X : Cx} {Ed : DX → Prop} {E : XK} {K : PySem.W.Frag} {pos : Pos} {a b : Expr} {ta tb : TE} {da db : DE} {k : Nat} {C : Addr} {wp : Wp}
def rOwn (C : Addr) (sp : Sp) (E : XK) : R2 := fun x y H Q => (∃ l m dx dy fs gs, x = .ref l ∧ y = .ref m ∧ H l = some (.ins C dx fs) ∧ H m = some (.ins C dy gs)) ∧ sp [x, y] H Q E
theorem own_bin {op : Operator} {sp : Sp} {f : Addr} {fd : FuncData} {ps : List Str} (F : FnOk X.prog X.w X.K X.mg X.base (L2.CX X.prog X.w) k f fd ps sp) (hr : Room k X.A) (hb : Binds X.K fd ps []) (hc : PySem.W.selfFirst X.K C = true)
    (hs : PySem.W.findIn X.K (.ref C) (PySem.dunder op.info.2) = some (some (.ref f))) (hf : PySem.W.isFn X.K (.ref f) = true) (hx : Passes (L2.CX X.prog X.w) X E) : OpR X (binaryOp op) (rOwn C sp E) := by
  intro pins s σ H x y v u Q I rx ry q
  obtain ⟨⟨l, m, dx, dy, fs, gs, rfl, rfl, hl, hm⟩, h⟩ := q
  cases rx
  cases ry
  obtain ⟨_, J1, _⟩ := ins_get I.hok hl
  obtain ⟨_, J2, _⟩ := ins_get I.hok hm
  obtain ⟨_, J1, _⟩ := J1.look
  obtain ⟨_, J2, _⟩ := J2.look
  obtain ⟨_, hF⟩ := I.fr
  refine PySem.W.binop_K hF I.ok.mod.kin J1 J2.type hc hs hf (wpAny_mono (run_fn (dvs := []) (ds := []) F hr hb .nil hx I (show Vals [V.ref l, V.ref m] [Value.ref l, Value.ref m] from .cons rfl (.cons rfl .nil)) h) (fun r s2 z => ?_) fun _ _ z => z)
  obtain ⟨v, H2, I2, rv, q2⟩ := z
  cases r with
  | notImplemented => cases v <;> first | (obtain ⟨_, rv⟩ := rv; cases rv) | (cases rv)
  | _ => exact ⟨v, H2, I2, rv, q2⟩
def dOwn (C : Addr) (wp : Wp) (Ed : DX → Prop) (da db : DE) (ρ : Rho) (Q : D → Prop) : Prop := da ρ fun x => db ρ fun y => match x, y with
  | .ins C1 f1, .ins C2 f2 => C1 = C ∧ C2 = C ∧ wp [.ins C1 f1, .ins C2 f2] Q Ed
  | _, _ => False
theorem sim_own (ha : SimE K Ed E ta da) (hb : SimE K Ed E tb db) : SimE K Ed E (tOp (rOwn C (SpW K wp) E) ta tb) (dOwn C wp Ed da db) := fun B0 B1 A H0 H σ ρ R X Qd h Q q =>
  ha B0 B1 A H0 H σ ρ R X _ h _ fun x v H1 H2 R1 g1 r1 k1 => hb B0 B1 A H1 H2 σ ρ R1 X _ k1 _ fun y u H3 H4 R2 g2 r2 k2 => by
    split at k2
    · obtain ⟨rfl, rfl, k2⟩ := k2
      have r1' := Rep.mono g2.g0 _ _ r1
      have rr : Reps K H3 [.ins _ _, .ins _ _] [v, u] := ⟨v, [u], rfl, r1', u, [], rfl, r2, rfl⟩
      obtain ⟨l, dx, fvs, rfl, hl, rf⟩ := r1'
      obtain ⟨m, dy, gvs, rfl, hm, rg⟩ := r2
      refine ⟨⟨l, m, dx, dy, fvs, gvs, rfl, rfl, R2.ex _ _ hl, R2.ex _ _ hm⟩, sp_of R2 X rr k2 fun x v H5 H6 R3 g3 r3 k3 => q x v H5 H6 R3 ((g1.trans g2).trans g3) r3 k3⟩
    · exact k2.elim
/-- what an own operator needs -/
structure Opr (P : Program) (w : World) (K : PySem.W.Frag) (mg : Str → Option Value) (base : Heap) (op : Operator) (C : Addr) (k : Nat) (wp : Wp) : Prop where
  ex : ∃ (f : Addr) (fd : FuncData) (ps : List Str), PySem.W.selfFirst K C = true ∧ PySem.W.findIn K (.ref C) (PySem.dunder op.info.2) = some (some (.ref f)) ∧ PySem.W.isFn K (.ref f) = true ∧ FnOk P w K mg base (L2.CX P w) k f fd ps (SpW K wp) ∧ Binds K fd ps []
theorem e_own {op : Operator} (M : Opr X.prog X.w X.K X.mg X.base op C k wp) (hr : Room k X.A) (hx : Passes (L2.CX X.prog X.w) X E) (ha : JE X Ed E a ta da) (hb : JE X Ed E b tb db) : JE X Ed E (.BinOp a op b pos) (tOp (rOwn C (SpW X.K wp) E) ta tb) (dOwn C wp Ed da db) := by
  obtain ⟨f, fd, ps, h1, h2, h3, h4, h5⟩ := M.ex
  exact ⟨pe_op (own_bin h4 hr h5 h1 h2 h3 hx) ha.pe hb.pe, sim_own ha.sim hb.sim⟩
def dProp (C : Addr) (wp : Wp) (da : DE) (ρ : Rho) (Q : D → Prop) : Prop := da ρ fun o => match o with
  | .ins C1 fs => C1 = C ∧ wp [.ins C1 fs] Q (fun _ => False)
  | _ => False
theorem opr_mk {m qual : Str} {st : Stmt} {f : Addr} {fd : FuncData} {ps : List Str} {op : Operator} {P : Program} {w : World} {mg : Str → Option Value} {base : Heap} (F : FunX K m qual st f fd) (c : PySem.W.selfFirst K C = true) (g : PySem.W.findIn K (.ref C) (PySem.dunder op.info.2) = some (some (.ref f))) (i : PySem.W.isFn K (.ref f) = true) (O : FnOk P w K mg base (L2.CX P w) k f fd ps (SpW K wp)) (b : Binds K fd ps []) : Opr P w K mg base op C k wp :=
  ⟨f, fd, ps, c, g, i, O, b⟩
end
end DL
namespace DL
variable [TbC]
open PySem PySem.Spec PyProof.Rows L2
section
variable {X : Cx} {Ed : DX → Prop} {E : XK} {K : PySem.W.Frag} {pos p apos : Pos} {a b e o : Expr} {es : List Expr} {ta to : TE} {da dob : DE} {tal : TA} {dal : DA} {C : Addr}
theorem e_cls {x : Str} (h : X.mg x = some (.ref C)) (hg : Gl X x := by rfl) (hd : (x == ("__debug__" : Str)) = false := by decide) : JE X Ed E (.Name x pos) (tC (.ref C)) (dC (.cls C)) := e_glob hg h rfl (fun _ => rfl) hd
/-- what isinstance asks of an instance's class -/
structure InsT (K : PySem.W.Frag) (C : Addr) : Prop where
  cl : Cls K C
  ha : PySem.W.findIn K (.ref C) "__class__" = some (some (.builtin "object.__class__"))
  hn : PySem.W.specialIn K (.builtin "object.__class__") "__get__" = some (some (.builtin "getset_descriptor.__get__"))
  ht : PySem.W.takesIn K (.builtin "object.__class__") = some true
  ho : PySem.W.mroIn K C (.type "object") = some true
def dIsiC (C : Addr) (ds : List D) (Q : D → Prop) : Prop := match ds with
  | [.ins C1 _, .cls C2] => C1 = C ∧ C2 = C ∧ Q (.bl true)
  | _ => False
theorem s_isiC (t : InsT K C) : SimRC K (rIsi K) (dIsiC C) := by
  intro H0 H xs ds sm r Qd h Q q
  unfold dIsiC at h
  split at h
  · obtain ⟨rfl, rfl, h⟩ := h
    obtain ⟨v, u, rfl, h1, h2⟩ := two_of r
    obtain ⟨l, dx, fvs, rfl, hl, rf⟩ := h1
    cases (show u = _ from h2)
    exact ⟨.ref l, .ref _, .ref _, .ref _, true, rfl, .own _, .base (.ins (sm _ _ hl) t.cl t.ha t.hn t.ht t.ho), if_pos (by simp), q (.bl true) _ H0 H (.refl sm) rfl h⟩
  · exact h.elim
theorem e_isiC (t : InsT X.K C) (hm : X.mg "isinstance" = none) (ha : JA X Ed E (e :: es) tal dal) (hg : Gl X "isinstance" := by rfl) (he : starEach (e :: es) X.env = (false, eval e X.env) :: starEach es X.env := by rfl) (hpl : (backTo pos (starEach es X.env)).any (·.1) = false := by rfl) :
    JE X Ed E (.Call (.Name "isinstance" p) (e :: es) [] pos) (tCB (rIsi X.K) tal) (dCB (dIsiC C) dal) := e_callB call_isi (s_isiC t) hm ha (by decide +kernel) hg (by decide) (by decide) he hpl
def dBM (r : D → List D → (D → Prop) → Prop) (da : DE) (dal : DA) (ρ : Rho) (Q : D → Prop) : Prop := da ρ fun x => (∃ xs, x = .lst xs) ∧ dal ρ fun ys => r x ys Q
end
end DL
namespace DL
variable [TbC]
open PySem PySem.Spec PyProof.Rows L2
section
variable {X : Cx} {Ed : DX → Prop} {E : XK} {K : PySem.W.Frag} {pos apos : Pos} {o e : Expr} {es : List Expr} {to : TE} {dob : DE} {tal : TA} {dal : DA} {k : Nat} {C : Addr} {wp : Wp} {m : Str} {pl : Sem Bool}
def dSt (C : Addr) (wp : Wp) (Ed : DX → Prop) (dob : DE) (dal : DA) (ρ : Rho) (Q : D → Prop) : Prop := dob ρ fun x => x = .cls C ∧ dal ρ fun ds => wp ds Q Ed
def dCm (C : Addr) (wp : Wp) (dd : List D) (Ed : DX → Prop) (dob : DE) (dal : DA) (ρ : Rho) (Q : D → Prop) : Prop := dob ρ fun x => x = .cls C ∧ dal ρ fun ds => wp (.cls C :: (ds ++ dd)) Q Ed
end
end DL
namespace DL
variable [TbC]
open PySem PySem.Spec PyProof.Rows L2
section
variable {X : Cx} {Ed : DX → Prop} {E : XK} {K : PySem.W.Frag} {pos p apos : Pos} {a b e o : Expr} {es : List Expr} {te ta tb to : TE} {de da db dob : DE}
def anyEq (x : D) (ys : List D) : Bool := ys.any fun z => deq z x
def dInN (n : Nat) (x y : D) (Q : D → Prop) : Prop := match y with
  | .lst ys => x.isData n = true ∧ allData n ys = true ∧ Q (.bl (anyEq x ys))
  | .tup ys => x.isData n = true ∧ allData n ys = true ∧ Q (.bl (anyEq x ys))
  | .str z => ∃ c, x = .str ⟨#[c]⟩ ∧ Q (.bl (decide (c ∈ z.cps.toList)))
  | _ => False
def dNotInN (n : Nat) (x y : D) (Q : D → Prop) : Prop := dInN n x y fun z => match z with
  | .bl b => Q (.bl (!b))
  | _ => False
/-- a slice of a text -/
def dSlS (x : D) (lo hi : Option Int) (Q : D → Prop) : Prop := match x with
  | .str z => z.length ≤ sizeLine ∧ Q (.str (cutS z lo hi))
  | _ => False
end
end DL
namespace DL
variable [TbC]
open PySem PySem.Spec PyProof.Rows L2
section
variable {X : Cx} {Ed : DX → Prop} {E : XK} {K : PySem.W.Frag} {pos p apos : Pos} {a b e o : Expr} {es : List Expr} {te ta tb to : TE} {de da db dob : DE} {tal : TA} {dal : DA} {C : Addr} {wp : WpI} {k i : Nat} {x : Str}
def dMakeV (i : Nat) (C : Addr) (wp : WpI) (dd : List D) (Ed : DX → Prop) (da : DA) (ρ : Rho) (Q : D → Prop) : Prop := lk i ρ = some (.d (.cls C)) ∧ dMake C wp dd Ed da ρ Q
end
end DL
namespace DL
variable [TbC]
open PySem PySem.Spec PyProof.Rows L2 PySem.W PySem.Builtin
section
variable {X : Cx} {Ed : DX → Prop} {E : XK} {K : PySem.W.Frag} {pos : Pos} {a b : Expr} {ta tb : TE} {da db : DE} {k : Nat} {C : Addr} {wp : Wp}
def dOwnNe (C : Addr) (wp : Wp) (Ed : DX → Prop) (da db : DE) (ρ : Rho) (Q : D → Prop) : Prop := da ρ fun x => db ρ fun y => match x, y with
  | .ins C1 f1, .ins C2 f2 => C1 = C ∧ C2 = C ∧ wp [.ins C1 f1, .ins C2 f2] (fun z => ∃ c, z = .bl c ∧ Q (.bl (!c))) Ed
  | _, _ => False
end
end DL
namespace DS
open PySem PySem.Spec PyProof.Rows L2
section
variable {P : Program} {w : World} {K : Type} [DecidableEq K]
/-- what a set asks of its kind of members, beside what a dict asks -/
structure Extra (κ : HeapKind P w K) : Prop where
  cls : ∀ {A : Around} {E : Value → Shared → Prop} {s : Shared} {k : K} {b : Addr} {Q : Bool → Shared → Prop}, κ.is s.heap k b → Q false s → wpAny (model P w) A (ofAClassStatement 8 (.ref b)) Q E s
  byv : ∀ {A : Around} {E : Value → Shared → Prop} {s : Shared} {k : K} {b : Addr} {Q : Bool → Shared → Prop}, κ.is s.heap k b → (∀ r, Q r s) → wpAny (model P w) A (hashByValue 8 (.ref b)) Q E s
  stay : ∀ {h h' : Heap} {k : K} {b d : Addr} {o : Obj} {es : Array (Int × Value)} {ep : Nat} {t : SetTable}, κ.is h k b → h.get? d = some o → o.data = .set es ep t → Heap.SameBut d h h' → κ.is h' k b
  ext : ∀ {h h' : Heap} {k : K} {b : Addr}, κ.is h k b → (∀ c o, h.get? c = some o → h'.get? c = some o) → κ.is h' k b
def rowsK (κ : HeapKind P w K) (M : List (Addr × K)) : List (Int × Value) := M.map fun p => (κ.hash p.2, Value.ref p.1)
/-- the set at a has the members M (address and key), in the order of its table -/
structure Held (κ : HeapKind P w K) (h : Heap) (a : Addr) (M : List (Addr × K)) (es : Array (Int × Value)) (ep : Nat) (t : SetTable) : Prop where
  obj : ∃ o, h.get? a = some o ∧ o.ExactSet ∧ o.data = .set es ep t
  lay : es.toList = rowsK κ M
  tab : TabOk t (M.map fun p => κ.hash p.2)
  once : (M.map (·.2)).Nodup
  mem : ∀ p ∈ M, κ.is h p.2 p.1
  led : w.params.followText "set-order" = true ∨ t.led = true
  spare : M.length * 5 < t.mask * 3
  few : M.length < 64
variable {κ : HeapKind P w K} {a : Addr} {M : List (Addr × K)} {es : Array (Int × Value)} {ep : Nat} {t : SetTable}
theorem rowsK_len (κ : HeapKind P w K) (M : List (Addr × K)) : (rowsK κ M).length = M.length := List.length_map _
theorem size_of_rows (e : es.toList = rowsK κ M) : es.size = M.length := by
  rw [← Array.length_toList, e, rowsK_len]
theorem row_at (e : es.toList = rowsK κ M) {i : Nat} {p : Addr × K} (hp : M[i]? = some p) : es[i]? = some (κ.hash p.2, Value.ref p.1) := by
  rw [← Array.getElem?_toList, e, rowsK, List.getElem?_map, hp]
  rfl
theorem fits_of (h1 : t.place.size = es.size) (h2 : t.dummies = #[]) (h3 : es.size ≤ t.mask) : t.fits es.size = true := by
  have e : t.fill = t.place.size := by
    show t.place.size + t.dummies.size = _
    rw [h2]
    rfl
  unfold SetTable.fits
  rw [e, Bool.and_eq_true]
  exact ⟨beq_iff_eq.mpr h1, decide_eq_true (by omega)⟩
section
variable {h : Heap}
theorem Held.size (R : Held κ h a M es ep t) : es.size = M.length := size_of_rows R.lay
theorem Held.pl (R : Held κ h a M es ep t) : t.place.size = M.length := by
  have e := R.tab.sz
  rwa [List.length_map] at e
theorem Held.fits (R : Held κ h a M es ep t) : t.fits es.size = true :=
  fits_of (R.pl.trans R.size.symm) R.tab.dm (by have := R.spare; have := R.size; omega)
end
variable {A : Around} {E : Value → Shared → Prop} {s : Shared}
/-- nothing can be seen of a search among such members -/
theorem unseen (X : Extra κ) {x : Addr} {k : K} (hx : κ.is s.heap k x) : ∀ {ys : List Value} {Q : Bool → Shared → Prop}, (∀ y ∈ ys, ∃ j c, y = Value.ref c ∧ κ.is s.heap j c) → Q false s → wpAny (model P w) A (searchCouldBeSeen (.ref x) ys) Q E s := by
  intro ys Q hy q
  unfold searchCouldBeSeen
  refine wpAny_bind (wpAny_forIn_list _ (fun l r s' => (r.1 = none ∧ s' = s) ∧ ∀ y ∈ l, ∃ j c, y = Value.ref c ∧ κ.is s.heap j c) _ ?_ ?_ _ _ ⟨⟨rfl, rfl⟩, hy⟩)
  · rintro y l r s' ⟨⟨hr, rfl⟩, al⟩
    obtain ⟨j, c, rfl, hc⟩ := al y List.mem_cons_self
    have al' := fun u (hu : u ∈ l) => al u (List.mem_cons_of_mem _ hu)
    by_cases same : (x == c || (carriedByValue (.ref x) && carriedByValue (.ref c))) = true
    · exact wp_if_pos same (wpAny_pure ⟨⟨rfl, rfl⟩, al'⟩)
    · refine wp_if_neg same (wpAny_bind (κ.quiet hx ?_))
      simp only [Bool.not_true, Bool.false_eq_true, if_false]
      refine wpAny_bind (κ.quiet hc ?_)
      simp only [Bool.not_true, Bool.false_eq_true, if_false]
      refine wpAny_bind (X.cls hx ?_)
      simp only [Bool.false_eq_true, if_false]
      refine wpAny_bind (X.cls hc ?_)
      simp only [Bool.false_eq_true, if_false]
      exact wpAny_pure ⟨⟨rfl, rfl⟩, al'⟩
  · rintro ⟨r1, r2⟩ s' ⟨⟨hr, rfl⟩, _⟩
    cases (show r1 = none from hr)
    exact wpAny_pure q
abbrev from0 (m : Nat) (h : Int) : SetTable.Probe := runAt m (SetTable.bits h % (m + 1)) (SetTable.bits h)
theorem no_dummy (m : Nat) : ∀ (n : Nat) (p : SetTable.Probe), p.dummy = none → (nth m p n).dummy = none
  | 0, _, h => h
  | n + 1, p, h => no_dummy m n (adv m p) (by unfold adv; split <;> exact h)
/-- the way of a key from its c-th place on: it ends at its like, or at the first free place, the n-th -/
theorem look_from (X : Extra κ) (R : Held κ s.heap a M es ep t) {x : Addr} {k : K} (hx : κ.is s.heap k x) (hu : κ.room A) {n : Nat} (hn : n < 10 * SetTable.turns t.mask) (free : way t.mask (κ.hash k) n ∉ t.place.toList)
    (full : ∀ c, c < n → way t.mask (κ.hash k) c ∈ t.place.toList) {Q : SetFound → Shared → Prop} (yes : k ∈ M.map (·.2) → Q (.there none) s) (no : k ∉ M.map (·.2) → Q (.free (way t.mask (κ.hash k) n) false) s) :
    ∀ (fuel c : Nat) (st : Option SetTable.Probe), st.getD (t.probeStart (κ.hash k)) = nth t.mask (from0 t.mask (κ.hash k)) c → c ≤ n → n - c < fuel →
      (∀ (i : Nat) p, M[i]? = some p → p.2 = k → ∃ e, c ≤ e ∧ e < n ∧ t.place.toList[i]? = some (way t.mask (κ.hash k) e)) → wpAny (model P w) A (setSearchFrom a (.ref x) (κ.hash k) true fuel st) Q E s := by
  intro fuel
  induction fuel with
  | zero => exact fun c st _ _ z _ => absurd z (Nat.not_lt_zero _)
  | succ fuel ih =>
    intro c st hst hc hfu ahead
    obtain ⟨o, ho, hex, hd⟩ := R.obj
    have hj : ∀ q, nth t.mask (nth t.mask (from0 t.mask (κ.hash k)) c) q = nth t.mask (from0 t.mask (κ.hash k)) (c + q) := fun q => (nth_add t.mask c _ q).symm
    have hw : ∀ q, (nth t.mask (nth t.mask (from0 t.mask (κ.hash k)) c) q).j = way t.mask (κ.hash k) (c + q) := fun q => congrArg (·.j) (hj q)
    have hash_at : ∀ (i : Nat) p, M[i]? = some p → (es[i]?.map (·.1)).getD 0 = κ.hash p.2 := fun i p hp => by
      rw [row_at R.lay hp]
      rfl
    rw [setSearchFrom_succ]
    refine wpAny_bind (wpAny_setState_of ho hd R.fits ?_)
    refine wp_if_neg (by unfold SetTable.gaveWay; rw [mask_odd R.tab.mok]; decide) ?_
    try refine wpAny_bind (wpAny_pure ?_)
    have g := go_spec t R.tab.ris R.tab.dm (fun i => (es[i]?.map (·.1)).getD 0) (κ.hash k) (10 * SetTable.turns t.mask) (n - c) (nth t.mask (from0 t.mask (κ.hash k)) c) (no_dummy _ c _ rfl) (by omega)
      (fun q hq => by rw [hw]; exact full _ (by omega)) (by rw [hw, Nat.add_sub_cancel' hc]; exact free)
    rw [← hst] at g
    rcases g with ⟨q, i, hq, hi, hh, before, met⟩ | ⟨before, met⟩
    · rw [hst, hw] at hi
      have hil : i < M.length := by
        have h1 := (List.getElem?_eq_some_iff.mp hi).1
        rw [Array.length_toList, R.pl] at h1
        exact h1
      obtain ⟨p, hp⟩ : ∃ p, M[i]? = some p := ⟨_, List.getElem?_eq_getElem hil⟩
      have hpm := List.mem_of_getElem? hp
      have met' : t.probe (fun i => (es[i]?.map (·.1)).getD 0) (κ.hash k) (st.getD (t.probeStart (κ.hash k))) = some (.candidate (way t.mask (κ.hash k) (c + q)) i (nth t.mask (from0 t.mask (κ.hash k)) (c + (q + 1)))) := by
        rw [← hw q, ← hj (q + 1), ← hst]
        exact met
      rw [met']
      have tail : wpAny (model P w) A (searchRest a (.ref x) (κ.hash k) true fuel es t (way t.mask (κ.hash k) (c + q)) i (nth t.mask (from0 t.mask (κ.hash k)) (c + (q + 1)))) Q E s := by
        unfold searchRest
        rw [row_at R.lay hp]
        refine wpAny_bind (wpAny_holding (κ.eqBool hu (R.mem p hpm) hx ?_))
        refine wpAny_bind (wpAny_setState_of ho hd R.fits ?_)
        by_cases same : p.2 = k
        · exact wp_if_pos (by simp [same]) (wpAny_pure (yes (List.mem_map.mpr ⟨p, hpm, same⟩)))
        · have live : t.slot (way t.mask (κ.hash k) (c + q)) = .live i := slot_live R.tab.ris hi
          refine wp_if_neg (by simp [same]) ?_
          try refine wpAny_bind (wpAny_pure ?_)
          rw [sameMem]
          simp only [if_true, live, row_at R.lay hp]
          refine wpAny_bind (wpAny_isSame_ref_self (wpAny_bind (wpAny_pure ?_)))
          simp only [if_true]
          refine wp_if_neg (by simp [same]) (ih (c + (q + 1)) _ rfl (by omega) (by omega) fun i0 p0 h0 e0 => ?_)
          obtain ⟨e, e1, e2, e3⟩ := ahead i0 p0 h0 e0
          refine ⟨e, ?_, e2, e3⟩
          have ne : e ≠ c + q := fun z => by
            rw [z] at e3
            have l2 := slot_live R.tab.ris e3
            rw [live] at l2
            cases l2
            rw [hp] at h0
            cases h0
            exact same e0
          have nb : ¬ e < c + q := fun z => before (e - c) i0 (by omega) (by rw [hst, hw, Nat.add_sub_cancel' e1]; exact e3) ((hash_at i0 p0 h0).trans (congrArg κ.hash e0))
          omega
      by_cases hl : t.led = true
      · refine wp_if_neg (by simp [hl]) ?_
        try refine wpAny_bind (wpAny_pure ?_)
        exact tail
      · refine wp_if_pos (by simp [hl]) ?_
        refine wpAny_bind (unseen X hx (fun y hy => ?_) ?_)
        · obtain ⟨e, he, rfl⟩ := List.mem_map.mp hy
          have he' : e ∈ es.toList := by
            have z := (Array.mem_filter.mp (Array.mem_toList_iff.mp he)).1
            exact Array.mem_toList_iff.mpr z
          rw [R.lay] at he'
          obtain ⟨p', hp', rfl⟩ := List.mem_map.mp he'
          exact ⟨_, _, rfl, R.mem p' hp'⟩
        · refine wp_if_neg (by decide) ?_
          try refine wpAny_bind (wpAny_pure ?_)
          exact tail
    · have met' : t.probe (fun i => (es[i]?.map (·.1)).getD 0) (κ.hash k) (st.getD (t.probeStart (κ.hash k))) = some (.empty (way t.mask (κ.hash k) n) none) := by
        have e := hw (n - c)
        rw [Nat.add_sub_cancel' hc] at e
        rw [← e, ← hst]
        exact met
      rw [met']
      refine wpAny_pure (no fun hm => ?_)
      obtain ⟨p0, m0, e0⟩ := List.mem_map.mp hm
      obtain ⟨i0, h0⟩ := List.getElem?_of_mem m0
      obtain ⟨e, e1, e2, e3⟩ := ahead i0 p0 h0 e0
      exact before (e - c) i0 (by omega) (by rw [hst, hw, Nat.add_sub_cancel' e1]; exact e3) ((hash_at i0 p0 h0).trans (congrArg κ.hash e0))
/-- .. asked for by adding -/
theorem look (X : Extra κ) (R : Held κ s.heap a M es ep t) {x : Addr} {k : K} (hx : κ.is s.heap k x) (hu : κ.room A) {Q : SetFound → Shared → Prop} (yes : k ∈ M.map (·.2) → Q (.there none) s)
    (no : ∀ n, k ∉ M.map (·.2) → way t.mask (κ.hash k) n ∉ t.place.toList → (∀ c, c < n → way t.mask (κ.hash k) c ∈ t.place.toList) → Q (.free (way t.mask (κ.hash k) n) false) s) :
    wpAny (model P w) A (setSearch a (.ref x) (κ.hash k) true) Q E s := by
  have spare := R.spare
  obtain ⟨n, n1, n2, n3⟩ := R.tab.first (by rw [List.length_map]; omega) (κ.hash k)
  have n4 : n < 100000 := by
    have z : SetTable.turns t.mask ≤ 142 := by
      unfold SetTable.turns
      rcases R.tab.mok with e | e | e <;> rw [e] <;> decide
    omega
  refine look_from X R hx hu n1 n2 n3 yes (fun q => no n q n2 n3) 100000 0 none rfl (Nat.zero_le _) (by omega) fun i p hp e => ?_
  have hil : i < t.place.toList.length := by
    rw [Array.length_toList, R.pl]
    exact (List.getElem?_eq_some_iff.mp hp).1
  obtain ⟨c, c1, c2⟩ := R.tab.before n2 (show (M.map fun p => κ.hash p.2)[i]? = some (κ.hash k) by rw [List.getElem?_map, hp, ← e]; rfl) (List.getElem?_eq_getElem hil)
  exact ⟨c, Nat.zero_le _, c1, by rw [List.getElem?_eq_getElem hil, c2]⟩
end
end DS
namespace DS
open PySem PySem.Spec PyProof.Rows L2
section
variable {P : Program} {w : World} {K : Type} [DecidableEq K] {κ : HeapKind P w K}
theorem range_pick {α : Type} : ∀ M : List α, (List.range M.length).filterMap (fun i => M[i]?) = M
  | [] => rfl
  | x :: M => by
    rw [List.length_cons, List.range_succ_eq_map, List.filterMap_cons_some (show (x :: M)[0]? = some x from rfl), List.filterMap_map]
    exact congrArg _ (range_pick M)
/-- a table told in another order -/
theorem reorder {M : List (Addr × K)} {es : Array (Int × Value)} {ord : Array Nat} (lay : es.toList = rowsK κ M) (hp : ord.toList.Perm (List.range M.length)) :
    ∃ N : List (Addr × K), (ord.filterMap (es[·]?)).toList = rowsK κ N ∧ N.Perm M ∧ (N.map fun p => κ.hash p.2) = ord.toList.map fun i => (es.map (·.1)).getD i 0 := by
  have at_ : ∀ i, es[i]? = (M[i]?).map (fun p : Addr × K => (κ.hash p.2, Value.ref p.1)) := fun i => by rw [← Array.getElem?_toList, lay, rowsK, List.getElem?_map]
  refine ⟨ord.toList.filterMap (M[·]?), ?_, ?_, ?_⟩
  · rw [Array.toList_filterMap, rowsK, List.map_filterMap]
    exact congrArg (fun f => List.filterMap f ord.toList) (funext at_)
  · have z := hp.filterMap (M[·]?)
    rwa [range_pick] at z
  · have inn : ∀ i ∈ ord.toList, i < M.length := fun i hi => List.mem_range.mp (hp.mem_iff.mp hi)
    generalize ord.toList = l at inn ⊢
    induction l with
    | nil => rfl
    | cons i l ih =>
      have hi := List.getElem?_eq_getElem (inn i List.mem_cons_self)
      rw [List.filterMap_cons_some hi, List.map_cons, List.map_cons, ih fun j hj => inn j (List.mem_cons_of_mem _ hj)]
      have z : (es.map (·.1))[i]? = some (κ.hash (M[i]'(inn i List.mem_cons_self)).2) := by rw [Array.getElem?_map, at_, hi]; rfl
      rw [Array.getD_eq_getD_getElem?, z]
      rfl
variable {A : Around} {E : Value → Shared → Prop} {s : Shared} {a : Addr}
/-- the rows of a set are written anew -/
theorem held_put (X : Extra κ) {h : Heap} {o : Obj} {es : Array (Int × Value)} {ep : Nat} {t : SetTable} (ho : h.get? a = some o) (hex : o.ExactSet) (hd : o.data = .set es ep t)
    {N : List (Addr × K)} {es' : Array (Int × Value)} {t' : SetTable} (lay : es'.toList = rowsK κ N) (tab : TabOk t' (N.map fun p => κ.hash p.2)) (once : (N.map (·.2)).Nodup) (mem : ∀ p ∈ N, κ.is h p.2 p.1)
    (led : w.params.followText "set-order" = true ∨ t'.led = true) (spare : N.length * 5 < t'.mask * 3) (few : N.length < 64) : Held κ (h.update a (Obj.putSet es' t')) a N es' (ep + 1) t' :=
  ⟨⟨_, store_at ho hd, ⟨hex.1, hex.2.1, hex.2.2⟩, rfl⟩, lay, tab, once, fun p hp => X.stay (mem p hp) ho hd (Heap.SameBut.update ..), led, spare, few⟩
/-- a larger table for the same members -/
theorem relay (X : Extra κ) {o : Obj} {es : Array (Int × Value)} {ep : Nat} {t : SetTable} {N : List (Addr × K)} (ho : s.heap.get? a = some o) (hex : o.ExactSet) (hd : o.data = .set es ep t) (lay : es.toList = rowsK κ N)
    (pl : t.place.size = N.length) (dm : t.dummies = #[]) (fl : N.length ≤ t.mask) (once : (N.map (·.2)).Nodup) (mem : ∀ p ∈ N, κ.is s.heap p.2 p.1) (led : w.params.followText "set-order" = true ∨ t.led = true)
    {want m : Nat} (e1 : SetTable.sizeAbove want = m + 1) (e2 : MaskOk m) (spare : N.length * 5 < m * 3) (few : N.length < 64) {Q : Unit → Shared → Prop}
    (q : ∀ h' N' es' ep' t', Heap.SameBut a s.heap h' → Held κ h' a N' es' ep' t' → N'.Perm N → Q () { s with heap := h' }) : wpAny (model P w) A (setRelay a want) Q E s := by
  have hz := size_of_rows lay
  have hm : m ≤ 127 := by rcases e2 with e | e | e <;> omega
  obtain ⟨t', ord, r1, r2, r3, r4, r5, _, _⟩ := relaid_ok t (hs := es.map (·.1)) (wanted := want) (M := m) (by rw [e1]; rfl) e2 (by rw [Array.size_map, hz]; omega)
  rw [Array.size_map, hz] at r2
  obtain ⟨N', n1, n2, n3⟩ := reorder lay r2
  rw [← n3] at r3
  have hz' : (ord.filterMap (es[·]?)).size = es.size := (size_of_rows n1).trans (n2.length_eq.trans hz.symm)
  rw [setRelay_eq]
  refine wpAny_bind (wpAny_setState_of ho hd (fits_of (pl.trans hz.symm) dm (by omega)) ?_)
  refine wp_if_neg (by rw [sizeLine_eq, e1]; omega) ?_
  try refine wpAny_bind (wpAny_pure ?_)
  rw [r1]
  refine wpAny_bind (wp_if_neg (by rw [hz']; simp) ?_)
  try refine wpAny_bind (wpAny_pure ?_)
  refine wpAny_pure (wpAny_storeSet_of ho hd ?_ (by rw [hz', hz, sizeLine_eq]; omega))
  refine q _ N' _ _ _ (Heap.SameBut.update ..) (held_put X ho hex hd n1 r3 ((n2.map (·.2)).nodup_iff.mpr once) (fun p hp => mem p (n2.mem_iff.mp hp)) (by rw [r5]; exact led) (by rw [n2.length_eq, r4]; exact spare) (by rw [n2.length_eq]; exact few)) n2
theorem tab_plain {t : SetTable} {hs : List Int} (T : TabOk t hs) (b : Bool) : TabOk { t with plain := b } hs := ⟨T.ris, T.dm, T.sz, T.mok, T.bd, T.reach⟩
variable {M : List (Addr × K)} {es : Array (Int × Value)} {ep : Nat} {t : SetTable}
/-- what adding k leaves: the set as it was, or k more -/
def Plus (M : List (Addr × K)) (x : Addr) (k : K) (M' : List (Addr × K)) : Prop := (k ∈ M.map (·.2) ∧ M' = M) ∨ (k ∉ M.map (·.2) ∧ M'.Perm ((x, k) :: M))
theorem add (X : Extra κ) (R : Held κ s.heap a M es ep t) {x : Addr} {k : K} (hx : κ.is s.heap k x) (hu : κ.room A) (few : M.length + 1 < 64) {Q : Bool → Shared → Prop}
    (q : ∀ b h' M' es' ep' t', Heap.SameBut a s.heap h' → Held κ h' a M' es' ep' t' → Plus M x k M' → Q b { s with heap := h' }) : wpAny (model P w) A (setAddHashed a (.ref x) (κ.hash k)) Q E s := by
  obtain ⟨o, ho, hex, hd⟩ := R.obj
  have spare := R.spare
  have hz := R.size
  refine wpAny_holding ?_
  rw [show (100000 : Nat) = 99999 + 1 from rfl, setAddHashedIn_succ]
  refine wpAny_bind (wpAny_setState_of ho hd R.fits (wp_if_neg (by simp [byScan, Value.scannable]) ?_))
  try refine wpAny_bind (wpAny_pure ?_)
  refine wpAny_bind (look X R hx hu (fun hm => wpAny_pure (q false s.heap M es ep t (Heap.SameBut.refl a s.heap) R (.inl ⟨hm, rfl⟩))) fun n hm n2 n3 => ?_)
  obtain ⟨c1, c2, c3, c4, c5, c6, c7, c8, c9⟩ := R.tab.put n2 n3
  refine wpAny_bind (wpAny_setState_of ho hd R.fits ?_)
  have tail : ∀ pb : Bool, wpAny (model P w) A (do
      storeSet a (SetTable.insertAt es (t.put (way t.mask (κ.hash k) n)).2 (κ.hash k, .ref x)) (if pb then (t.put (way t.mask (κ.hash k) n)).1 else { (t.put (way t.mask (κ.hash k) n)).1 with plain := false })
      if !false && (if pb then (t.put (way t.mask (κ.hash k) n)).1 else { (t.put (way t.mask (κ.hash k) n)).1 with plain := false }).tooFull then setRelay a (SetTable.grown (es.size + 1))
      return true) Q E s := fun pb => by
    rw [c1]
    obtain ⟨i, hi⟩ : ∃ i, i = SetTable.below t.place (way t.mask (κ.hash k) n) := ⟨_, rfl⟩
    rw [← hi] at c2 c3 ⊢
    obtain ⟨N, hN⟩ : ∃ N, N = M.take i ++ (x, k) :: M.drop i := ⟨_, rfl⟩
    have pm : N.Perm ((x, k) :: M) := hN ▸ put_perm M i (x, k)
    have len : N.length = M.length + 1 := pm.length_eq
    have lay : (SetTable.insertAt es i (κ.hash k, Value.ref x)).toList = rowsK κ N := by
      rw [SetTable.toList_insertAt, R.lay, hN]
      simp only [rowsK, List.map_append, List.map_cons, List.map_take, List.map_drop]
    have tab : TabOk (t.put (way t.mask (κ.hash k) n)).1 (N.map fun p => κ.hash p.2) := by
      rw [hN]
      simpa only [List.map_append, List.map_cons, List.map_take, List.map_drop] using c3
    have once : (N.map (·.2)).Nodup := (pm.map (·.2)).nodup_iff.mpr (List.nodup_cons.mpr ⟨hm, R.once⟩)
    have mem : ∀ p ∈ N, κ.is s.heap p.2 p.1 := fun p hp => by
      rcases List.mem_cons.mp (pm.mem_iff.mp hp) with z | z
      · exact z ▸ hx
      · exact R.mem p z
    generalize (t.put (way t.mask (κ.hash k) n)).1 = T at c4 c5 c9 tab ⊢
    rw [List.length_map] at c9
    have led : w.params.followText "set-order" = true ∨ T.led = true := c5 ▸ R.led
    obtain ⟨U, hU, u1, u2, u3, u4⟩ : ∃ U : SetTable, U = (if pb then T else { T with plain := false }) ∧ TabOk U (N.map fun p => κ.hash p.2) ∧ U.mask = t.mask ∧ U.led = T.led ∧ U.tooFull = decide ((M.length + 1) * 5 ≥ t.mask * 3) := by
      refine ⟨_, rfl, ?_⟩
      cases pb
      · refine ⟨tab_plain tab false, c4, rfl, ?_⟩
        show decide (T.fill * 5 ≥ T.mask * 3) = _
        rw [c9, c4]
      · exact ⟨tab, c4, rfl, by unfold SetTable.tooFull; simp only [if_true]; rw [c9, c4]⟩
    rw [← hU]
    have zs := size_of_rows lay
    generalize SetTable.insertAt es i (κ.hash k, Value.ref x) = es1 at lay zs ⊢
    refine wpAny_bind (wpAny_storeSet_of ho hd ?_ (by rw [zs, sizeLine_eq]; omega))
    by_cases hf : (M.length + 1) * 5 ≥ t.mask * 3
    · have tw : (t.mask = 7 ∧ M.length = 4) ∨ (t.mask = 31 ∧ M.length = 18) := by
        rcases R.tab.mok with e | e | e <;> rw [e] at hf spare <;> omega
      have go : ∀ m, SetTable.sizeAbove (SetTable.grown (es.size + 1)) = m + 1 → MaskOk m → (M.length + 1) * 5 < m * 3 → wpAny (model P w) A (setRelay a (SetTable.grown (es.size + 1))) (fun _ s' => wpAny (model P w) A (pure true) Q E s') E { s with heap := s.heap.update a (Obj.putSet es1 U) } := fun m e1 e2 e3 =>
        relay (s := { s with heap := s.heap.update a (Obj.putSet es1 U) }) X (store_at ho hd) ⟨hex.1, hex.2.1, hex.2.2⟩ rfl lay (by have := u1.sz; rwa [List.length_map] at this) u1.dm (by rw [u2, len]; rcases tw with ⟨z1, z2⟩ | ⟨z1, z2⟩ <;> omega) once
          (fun p hp => X.stay (mem p hp) ho hd (Heap.SameBut.update ..)) (by rw [u3]; exact led) e1 e2 (by rw [len]; exact e3) (by rw [len]; exact few)
          fun h' N' es' ep' t' sb H pm' => wpAny_pure (q true h' N' es' ep' t' ((Heap.SameBut.update ..).trans sb) H (.inr ⟨hm, pm'.trans pm⟩))
      first
        | (refine wpAny_bind ?_; refine wp_if_pos (by simp [u4, hf]) ?_)
        | (refine wp_if_pos (by simp [u4, hf]) ?_; refine wpAny_bind ?_)
      rcases tw with ⟨_, z⟩ | ⟨_, z⟩
      · exact go 31 (by rw [hz, z, size_20]) (.inr (.inl rfl)) (by omega)
      · exact go 127 (by rw [hz, z, size_76]) (.inr (.inr rfl)) (by omega)
    · first
        | refine wp_if_neg (by simp [u4]; omega) ?_
        | (refine wpAny_bind ?_; refine wp_if_neg (by simp [u4]; omega) ?_; refine wpAny_pure ?_)
      exact wpAny_pure (q true _ N es1 (ep + 1) U (Heap.SameBut.update ..) (held_put X ho hex hd lay u1 once mem (by rw [u3]; exact led) (by rw [u2, len]; omega) (by rw [len]; exact few)) (.inr ⟨hm, pm⟩))
  by_cases hp : (t.put (way t.mask (κ.hash k) n)).1.plain = true
  · first
      | (refine wpAny_bind ?_; refine wp_if_pos hp ?_; refine X.byv hx fun r => ?_)
      | refine wp_if_pos hp (wpAny_bind (X.byv hx fun r => ?_))
    exact tail r
  · first
      | (refine wpAny_bind ?_; refine wp_if_neg hp ?_; refine wpAny_pure ?_)
      | refine wp_if_neg hp (wpAny_bind (wpAny_pure ?_))
      | refine wp_if_neg hp ?_
    exact tail true
end
end DS
namespace DS
open PySem PySem.Spec PyProof.Rows L2
open PySem.W PyProof.Rows.G
abbrev TK (P : Program) (w : World) := tupleKind (mixKind P w)
section
variable {P : Program} {w : World} {A : Around} {E : Value → Shared → Prop} {s : Shared}
def kc : Key → Int ⊕ List Nat
  | .inl i => .inl i
  | .inr x => .inr x.cps.toList
def isTx : Key → Bool
  | .inl _ => false
  | .inr _ => true
abbrev lexO : KeyOrd := listOrd itemOrd
def kl (k : List Key) : List (Int ⊕ List Nat) := k.map kc
theorem kc_inj : ∀ {a b : Key}, kc a = kc b → a = b
  | .inl a, .inl b, h => by cases h; rfl
  | .inl a, .inr b, h => nomatch h
  | .inr a, .inl b, h => nomatch h
  | .inr a, .inr b, h => by
    have e : a.cps.toList = b.cps.toList := Sum.inr.inj h
    obtain ⟨x⟩ := a
    obtain ⟨y⟩ := b
    have e' : x = y := Array.ext' e
    rw [e']
theorem kl_inj : ∀ {a b : List Key}, kl a = kl b → a = b
  | [], [], _ => rfl
  | [], _ :: _, h => nomatch h
  | _ :: _, [], h => nomatch h
  | x :: a, y :: b, h => by
    have h' : kc x :: kl a = kc y :: kl b := h
    injection h' with h1 h2
    rw [kc_inj h1, kl_inj h2]
def ltK (a b : List Key) : Bool := lexO.blt (kl a) (kl b)
/-- each tuple's items are of the kinds that the shape says, and there is a first one -/
def Shaped (sh : Nat → Bool) (k : List Key) : Prop := k ≠ [] ∧ ∀ i x, k[i]? = some x → isTx x = sh i
variable {a : Addr} {M : List (Addr × List Key)} {es : Array (Int × Value)} {ep : Nat} {t : SetTable}
end
end DS
namespace DS
open PySem PySem.Spec PyProof.Rows L2
open PySem.W PyProof.Rows.G PpSet
section
variable {P : Program} {w : World}
/-- the set at a, its members' own texts aside -/
def Held0 (P : Program) (w : World) (h : Heap) (a : Addr) (M : List (Addr × List Key)) : Prop := ∃ es ep t, (∃ o, h.get? a = some o ∧ o.ExactSet ∧ o.data = .set es ep t) ∧ es.toList = rowsK (TK P w) M ∧ TabOk t (M.map fun p => (TK P w).hash p.2) ∧
  (M.map (·.2)).Nodup ∧ (w.params.followText "set-order" = true ∨ t.led = true) ∧ M.length * 5 < t.mask * 3 ∧ M.length < 64
def KsO (P : Program) (w : World) (a : Addr) (M : List (Addr × List Key)) : HO := .ext fun h => Held0 P w h a M
theorem Held.bare {h : Heap} {a : Addr} {M : List (Addr × List Key)} {es : Array (Int × Value)} {ep : Nat} {t : SetTable} (R : Held (TK P w) h a M es ep t) : Held0 P w h a M := ⟨es, ep, t, R.obj, R.lay, R.tab, R.once, R.led, R.spare, R.few⟩
end
end DS
namespace DL
variable [TbC]
open PySem PySem.Spec PyProof.Rows L2
def kD : Key → D
  | .inl i => .int i
  | .inr x => .str x
def tupD (k : List Key) : D := .tup (k.map kD)
def compK (B : List (List Key)) (g : DG) (tt : DT) (te : DE) : List D → List (List Key) → Rho → (List (List Key) → Prop) → Prop
  | [], acc, _, Q => Q acc
  | x :: r, acc, ρ, Q => g x ρ fun ρ' => tt ρ' fun b => if b = true then te ρ' fun y => ∃ k, y = tupD k ∧ k ∈ B ∧ compK B g tt te r (acc ++ [k]) ρ Q else compK B g tt te r acc ρ Q
/-- the sorted list of the tuples of acc, each once -/
def SortedOf (acc ys : List (List Key)) : Prop := ys.Pairwise (fun a b => DS.ltK a b = true) ∧ ∀ k, k ∈ ys ↔ k ∈ acc
def dSortS (di : DI) (g : DG) (tt : DT) (te : DE) (vs : List Nat) (ρ : Rho) (Q : D → Prop) : Prop :=
  di ρ fun xs => ∃ (B : List (List Key)) (sh : Nat → Bool), B.length < 63 ∧ (∀ k ∈ B, DS.Shaped sh k) ∧ compK B g tt te xs [] (wipeD ρ vs) fun acc => ∀ ys, SortedOf acc ys → Q (.lst (ys.map tupD))
theorem once_len {α : Type} : ∀ {l B : List α}, l.Nodup → (∀ x ∈ l, x ∈ B) → l.length ≤ B.length
  | [], _, _, _ => Nat.zero_le _
  | x :: l, B, nd, h => by
    obtain ⟨u, v, rfl⟩ := List.append_of_mem (h x List.mem_cons_self)
    have ⟨n1, n2⟩ := List.nodup_cons.mp nd
    have z := once_len (B := u ++ v) n2 fun y hy => by
      have m := h y (List.mem_cons_of_mem _ hy)
      rw [List.mem_append, List.mem_cons] at m
      rw [List.mem_append]
      rcases m with m | rfl | m
      · exact .inl m
      · exact absurd hy n1
      · exact .inr m
    simp only [List.length_append, List.length_cons] at z ⊢
    omega
theorem keys_few {B : List (List Key)} {M : List (Addr × List Key)} (nd : (M.map (·.2)).Nodup) (sub : ∀ p ∈ M, p.2 ∈ B) : M.length ≤ B.length := by
  have z := once_len (B := B) nd fun k hk => by
    obtain ⟨p, hp, rfl⟩ := List.mem_map.mp hk
    exact sub p hp
  rwa [List.length_map] at z
section
variable {X : Cx} {Ed : DX → Prop} {E : XK} {K : PySem.W.Frag} {P : Program} {w : World} {pos p p2 : Pos} {tg iter elt : Expr} {te : TE} {de : DE} {ifs : List Expr} {tt : TT} {dt : DT} {ti : TI} {di : DI} {g : TG} {dg : DG} {scope : Scope} {own : List (Str × Nat)}
theorem ksO_plain {a : Addr} {M : List (Addr × List Key)} : Plainy a (DS.KsO P w a M) := ext_plain fun h o vs k hh hd => by
  obtain ⟨es, ep, t, ⟨o2, e1, _, e2⟩, _⟩ := k
  rw [hh] at e1
  cases e1
  rw [hd] at e2
  cases e2
/-- what stands at a turn -/
structure TurnK (K : PySem.W.Frag) (P : Program) (w : World) (Hs0 Hs H0 H : Hp) (Dl : Addr) (acc B : List (List Key)) (M : List (Addr × List Key)) : Prop where
  gr : Grow Hs0 Hs H0 H
  none0 : H0 Dl = none
  at_ : H Dl = some (DS.KsO P w Dl M)
  mem : ∀ p ∈ M, SqT K H0 p.1 (p.2.map kV)
  nd : (M.map (·.2)).Nodup
  all : ∀ k, k ∈ M.map (·.2) ↔ k ∈ acc
  sub : ∀ k ∈ acc, k ∈ B
theorem TurnK.few {Hs0 Hs H0 H : Hp} {Dl : Addr} {acc B : List (List Key)} {M : List (Addr × List Key)} (t : TurnK K P w Hs0 Hs H0 H Dl acc B M) : M.length ≤ B.length :=
  keys_few t.nd fun p hp => t.sub _ ((t.all _).mp (List.mem_map.mpr ⟨p, hp, rfl⟩))
theorem TurnK.grow {Hs0 Hs H0 H H0' H' : Hp} {Dl : Addr} {acc B : List (List Key)} {M : List (Addr × List Key)} (t : TurnK K P w Hs0 Hs H0 H Dl acc B M) (g : Grow H0 H H0' H') : TurnK K P w Hs0 Hs H0' H' Dl acc B M :=
  ⟨t.gr.trans g, (g.nw Dl (by rw [t.at_]; exact fun z => nomatch z)).trans t.none0, g.g1.at t.at_ ksO_plain.1, fun p hp => sqt_mono g.g0 (t.mem p hp), t.nd, t.all, t.sub⟩
end
end DL
namespace DL
variable [TbC]
open PySem PySem.Spec PyProof.Rows L2
section
variable {κ : Type} [DecidableEq κ]
def valD (kvs : List (κ × D)) (k : κ) : Option D := (kvs.find? fun p => decide (p.1 = k)).map (·.2)
def stoD (kvs : List (κ × D)) (k : κ) (v : D) : List (κ × D) := if (valD kvs k).isSome then kvs.map fun p => if p.1 = k then (p.1, v) else p else kvs ++ [(k, v)]
end
mutual
def nkOf : D → Option NestedKey
  | .non => some .none
  | .int i => some (.num i)
  | .str x => some (.text x)
  | .tup xs => (nksOf xs).map .tup
  | _ => none
def nksOf : List D → Option (List NestedKey)
  | [] => some []
  | x :: xs => match nkOf x, nksOf xs with
    | some k, some ks => some (k :: ks)
    | _, _ => none
end
/-- a tuple that may be a key -/
def tkOf (d : D) : Option NestedKey := match d with
  | .tup xs => (nksOf xs).bind fun ks => if (NestedKey.tup ks).depth ≤ 8 then some (.tup ks) else none
  | _ => none
def keyOf : D → Option Key
  | .int i => some (.inl i)
  | .str x => some (.inr x)
  | _ => none
section
variable {K : PySem.W.Frag} {H : Hp}
def RepO (K : PySem.W.Frag) (H : Hp) : Option D → Option V → Prop
  | none, none => True
  | some d, some v => Rep K H d v
  | _, _ => False
theorem RepO.isSome {o : Option D} {u : Option V} (r : RepO K H o u) : u.isSome = o.isSome := by
  cases o <;> cases u <;> first | rfl | exact r.elim
theorem RepO.getD {o : Option D} {u : Option V} {d : D} {v : V} (r : RepO K H o u) (rd : Rep K H d v) : Rep K H (o.getD d) (u.getD v) := by
  cases o <;> cases u <;> first | exact rd | exact r | exact r.elim
end
end DL
namespace DL
variable [TbC]
open PySem PySem.Spec PyProof.Rows L2
section
variable {X : Cx} {Ed : DX → Prop} {E : XK} {K : PySem.W.Frag} {w : World} {pos p : Pos} {e a b c o e2 : Expr} {te ta tb tc td ty tx tv : TE} {de da db dc dd dx dv : DE} {k : Nat} {x : Str} {tt : TT}
/-- x = {} -/
def dNewT (w : World) (i : Nat) (d : DEnds) (ρ : Rho) : Prop := i < ρ.length ∧ ∀ q, d.nx (ρ.set i (some (.dt q w [])))
def dNewK (i : Nat) (d : DEnds) (ρ : Rho) : Prop := i < ρ.length ∧ ∀ q, d.nx (ρ.set i (some (.dk q [])))
/-- x[k] = e -/
def dPutT (w : World) (i : Nat) (de dk : DE) (d : DEnds) (ρ : Rho) : Prop := de ρ fun v => match lk i ρ with
  | some (.dt a w' kvs) => w' = w ∧ dk ρ fun z => onS (tkOf z) fun k => kvs.length < 100000 ∧ d.nx (ρ.set i (some (.dt a w (stoD kvs k v))))
  | _ => False
def dPutK (i : Nat) (de dk : DE) (d : DEnds) (ρ : Rho) : Prop := de ρ fun v => match lk i ρ with
  | some (.dk a kvs) => dk ρ fun z => onS (keyOf z) fun k => kvs.length < 100000 ∧ d.nx (ρ.set i (some (.dk a (stoD kvs k v))))
  | _ => False
/-- x[k], x one's own dict -/
def dIxTO (w : World) (i : Nat) (dk : DE) (ρ : Rho) (Q : D → Prop) : Prop := match lk i ρ with
  | some (.dt _ w' kvs) => w' = w ∧ dk ρ fun z => onS (tkOf z) fun k => onS (valD kvs k) Q
  | _ => False
def dIxKO (i : Nat) (dk : DE) (ρ : Rho) (Q : D → Prop) : Prop := match lk i ρ with
  | some (.dk _ kvs) => dk ρ fun z => onS (keyOf z) fun k => onS (valD kvs k) Q
  | _ => False
/-- x.get(k, z), x one's own dict -/
def dGetTO (w : World) (i : Nat) (dk dz : DE) (ρ : Rho) (Q : D → Prop) : Prop := match lk i ρ with
  | some (.dt _ w' kvs) => w' = w ∧ dk ρ fun z => dz ρ fun y => onS (tkOf z) fun k => Q ((valD kvs k).getD y)
  | _ => False
def dGetKO (i : Nat) (dk dz : DE) (ρ : Rho) (Q : D → Prop) : Prop := match lk i ρ with
  | some (.dk _ kvs) => dk ρ fun z => dz ρ fun y => onS (keyOf z) fun k => Q ((valD kvs k).getD y)
  | _ => False
/-- d[k], d.get(k, z) of a dict that is data -/
def dIxT (w : World) (x z : D) (Q : D → Prop) : Prop := match x with
  | .dt w' kvs => w' = w ∧ onS (tkOf z) fun k => onS (valD kvs k) Q
  | _ => False
def dIxK (x z : D) (Q : D → Prop) : Prop := match x with
  | .dk kvs => onS (keyOf z) fun k => onS (valD kvs k) Q
  | _ => False
def dGetT (w : World) (da dk dz : DE) (ρ : Rho) (Q : D → Prop) : Prop := da ρ fun x => match x with
  | .dt w' kvs => w' = w ∧ dk ρ fun z => dz ρ fun y => onS (tkOf z) fun k => Q ((valD kvs k).getD y)
  | _ => False
def dGetK (da dk dz : DE) (ρ : Rho) (Q : D → Prop) : Prop := da ρ fun x => match x with
  | .dk kvs => dk ρ fun z => dz ρ fun y => onS (keyOf z) fun k => Q ((valD kvs k).getD y)
  | _ => False
end
end DL
namespace DL
variable [TbC]
open PySem PySem.Spec PyProof.Rows L2
def nkI : Key → NestedKey
  | .inl i => .num i
  | .inr x => .text x
def nkT (k : List Key) : NestedKey := .tup (k.map nkI)
section
variable {X : Cx} {Ed : DX → Prop} {E : XK} {K : PySem.W.Frag} {w : World} {pos p : Pos} {e a : Expr} {te ta : TE} {de da : DE} {x : Str}
/-- the keys of d in order -/
def sortTD (kvs : List (NestedKey × D)) (Q : D → Prop) : Prop := ∃ (ks : List (List Key)) (sh : Nat → Bool), kvs.map (·.1) = ks.map nkT ∧ (∀ k ∈ ks, DS.Shaped sh k) ∧ ∀ ys, ys.Perm ks → SortedOf ks ys → Q (.lst (ys.map tupD))
def sortKD (kvs : List (Key × D)) (Q : D → Prop) : Prop := ∃ ks : List Str, kvs.map (·.1) = ks.map Sum.inr ∧ ks.length < 64 ∧ ∀ ys, ys.Perm ks → sortedS ys = true → Q (.lst (ys.map D.str))
def dSortTO (w : World) (i : Nat) (ρ : Rho) (Q : D → Prop) : Prop := match lk i ρ with
  | some (.dt _ w' kvs) => w' = w ∧ sortTD kvs Q
  | _ => False
def dSortKO (i : Nat) (ρ : Rho) (Q : D → Prop) : Prop := match lk i ρ with
  | some (.dk _ kvs) => sortKD kvs Q
  | _ => False
def dSortT (w : World) (da : DE) (ρ : Rho) (Q : D → Prop) : Prop := da ρ fun x => match x with
  | .dt w' kvs => w' = w ∧ sortTD kvs Q
  | _ => False
def dSortK (da : DE) (ρ : Rho) (Q : D → Prop) : Prop := da ρ fun x => match x with
  | .dk kvs => sortKD kvs Q
  | _ => False
end
end DL
namespace DL
variable [TbC]
open PySem PySem.Spec PyProof.Rows L2
theorem bx_w {P : Program} {w : World} {K : PySem.W.Frag} {mg : Str → Option Value} {base : Heap} {N : List Str} {q : Str} {st : Stmt} {f : Addr} {cdv : Value} {A : Around} {outer : List Env} {s : Shared} {H : Hp} {E : XK} : (bx P w K mg base N q st f cdv A outer s H E).w = w := rfl
end DL
namespace DL
variable [TbC]
open PySem PySem.Spec PyProof.Rows L2
section
variable {X : Cx} {Ed : DX → Prop} {E : XK} {K : PySem.W.Frag} {pos p : Pos} {e a b : Expr} {es : List Expr} {te ta tb : TE} {de da db : DE} {tal : TA} {dal : DA} {ts : List TE} {dl : List DE} {k : Nat}
/-- {e} -/
def dFmt (da : DE) (ρ : Rho) (Q : D → Prop) : Prop := da ρ fun x => match x with
  | .str y => y.length ≤ sizeLine ∧ Q (.str y)
  | .int i => i.natAbs.log2 < 1920 ∧ Q (.str (toString i))
  | _ => False
def dJs : List DE → Str → Rho → (Str → Prop) → Prop
  | [], acc, _, Q => Q acc
  | d :: ds, acc, ρ, Q => d ρ fun x => match x with
    | .str y => (acc ++ y).length ≤ sizeLine ∧ dJs ds (acc ++ y) ρ Q
    | _ => False
inductive JJ (X : Cx) (Ed : DX → Prop) (E : XK) : List Expr → List TE → List DE → Prop where
  | nil : JJ X Ed E [] [] []
  | cons {e : Expr} {t : TE} {d : DE} {es : List Expr} {ts : List TE} {ds : List DE} (h : JE X Ed E e t d) (r : JJ X Ed E es ts ds) : JJ X Ed E (e :: es) (t :: ts) (d :: ds)
theorem JJ.sim (h : JJ X Ed E es ts dl) : ∀ (acc : Str) B0 B1 A H0 H σ ρ, RepS X.K B0 B1 A H0 H σ ρ → ExRel X.K B0 B1 Ed E → ∀ Qd : Str → Prop, dJs dl acc ρ Qd → ∀ Q : Str → Hp → Prop, (∀ y H0' H', RepS X.K B0 B1 A H0' H' σ ρ → Grow H0 H H0' H' → Qd y → Q y H') → tJs ts acc σ H Q := by
  induction h with
  | nil => exact fun acc B0 B1 A H0 H σ ρ R x Qd hd Q q => q acc H0 H R (.refl R.ex) hd
  | cons h r ih =>
    intro acc B0 B1 A H0 H σ ρ R x Qd hd Q q
    refine h.sim B0 B1 A H0 H σ ρ R x _ hd _ fun z v H1 H2 R1 g1 r1 k => ?_
    split at k
    · rename_i y
      exact ⟨y, r1, k.1, ih _ B0 B1 A H1 H2 σ ρ R1 x _ k.2 _ fun y H3 H4 R2 g2 k2 => q y H3 H4 R2 (g1.trans g2) k2⟩
    · exact k.elim
def dFstr (dl : List DE) (ρ : Rho) (Q : D → Prop) : Prop := dJs dl Str.empty ρ fun y => Q (.str y)
/-- max(i, j) -/
def dMax2 (ds : List D) (Q : D → Prop) : Prop := match ds with
  | [.int i, .int j] => Q (.int (if j > i then j else i))
  | _ => False
/-- tuple + tuple -/
def dCatT (x y : D) (Q : D → Prop) : Prop := match x, y with
  | .tup xs, .tup ys => xs.length + ys.length ≤ 200000 ∧ Q (.tup (xs ++ ys))
  | _, _ => False
def dCatL (x y : D) (Q : D → Prop) : Prop := match x, y with
  | .lst xs, .lst ys => xs.length + ys.length ≤ 200000 ∧ Q (.lst (xs ++ ys))
  | _, _ => False
end
end DL
namespace DL
variable [TbC]
open PySem PySem.Spec PyProof.Rows L2
/-- the greatest, or i where there is none -/
def maxDef (d : Int) : List Int → Int
  | [] => d
  | y :: ys => PySem.W.maxOf y ys
section
variable {X : Cx} {Ed : DX → Prop} {E : XK} {pos p : Pos} {e : Expr} {es : List Expr} {tal tk : TA} {dal dk : DA} {k : Nat} {kws : List Keyword}
def dMaxDef (da dk : DA) (ρ : Rho) (Q : D → Prop) : Prop := da ρ fun xs => dk ρ fun zs => match xs, zs with
  | [.lst ds], [.int d] => onS (intL ds) fun ns => Q (.int (maxDef d ns))
  | _, _ => False
end
end DL
namespace DL
variable [TbC]
open PySem PySem.Spec PyProof.Rows L2
section
variable {X : Cx} {Ed : DX → Prop} {E : XK} {K : PySem.W.Frag} {pos p : Pos} {a b c e : Expr} {es : List Expr} {ta tb tc te : TE} {da db dc de : DE} {k : Nat} {C : Addr} {wp : Wp} {tal : TA} {dal : DA}
def dSlT (x : D) (lo hi : Option Int) (Q : D → Prop) : Prop := match x with
  | .tup xs => ¬ (HT.sIx xs.length 0 lo = 0 ∧ HT.sIx xs.length xs.length hi = xs.length) ∧ Q (.tup (cutD xs lo hi))
  | _ => False
def dOwnU (C : Addr) (wp : Wp) (Ed : DX → Prop) (da : DE) (ρ : Rho) (Q : D → Prop) : Prop := da ρ fun x => match x with
  | .ins C1 f1 => C1 = C ∧ wp [.ins C1 f1] Q Ed
  | _ => False
def dOwnT (C : Addr) (wp : Wp) (Ed : DX → Prop) (da db : DE) (ρ : Rho) (Q : D → Prop) : Prop := da ρ fun x => db ρ fun y => match x, y with
  | .ins C1 f1, .int i => C1 = C ∧ wp [.ins C1 f1, .int i] Q Ed
  | _, _ => False
def dOwnR (C : Addr) (wp : Wp) (Ed : DX → Prop) (da db : DE) (ρ : Rho) (Q : D → Prop) : Prop := da ρ fun x => db ρ fun y => match x, y with
  | .int i, .ins C1 f1 => C1 = C ∧ wp [.ins C1 f1, .int i] Q Ed
  | _, _ => False
def dStrO (C : Addr) (wp : Wp) (Ed : DX → Prop) (ds : List D) (Q : D → Prop) : Prop := match ds with
  | [.ins C1 fs] => C1 = C ∧ wp [.ins C1 fs] (fun z => ∃ i, z = .str i ∧ Q z) Ed
  | _ => False
def dStrOwn (C : Addr) (wp : Wp) (Ed : DX → Prop) (da : DA) (ρ : Rho) (Q : D → Prop) : Prop := da ρ fun ds => dStrO C wp Ed ds Q
end
end DL
namespace DL
variable [TbC]
open PySem PySem.Spec PyProof.Rows L2
section
variable {X : Cx} {Ed : DX → Prop} {E : XK} {K : PySem.W.Frag} {pos p : Pos} {a b c e : Expr} {ta tb tc te : TE} {da db dc de : DE} {k : Nat} {x : Str}
def dInO (i : Nat) (de : DE) (ρ : Rho) (Q : D → Prop) : Prop := de ρ fun x => match lk i ρ with
  | some (.lst _ ys) => x.isData 100 = true ∧ allData 100 ys = true ∧ Q (.bl (anyEq x ys))
  | _ => False
def dNotInO (i : Nat) (de : DE) (ρ : Rho) (Q : D → Prop) : Prop := de ρ fun x => match lk i ρ with
  | some (.lst _ ys) => x.isData 100 = true ∧ allData 100 ys = true ∧ Q (.bl (!anyEq x ys))
  | _ => False
end
end DL
namespace DL
variable [TbC]
open PySem PySem.Spec PyProof.Rows L2
section
variable {X : Cx} {Ed : DX → Prop} {E : XK} {K : PySem.W.Frag} {pos apos p : Pos} {a b c e o : Expr} {es : List Expr} {ta tb tc te to : TE} {da db dc de dob : DE} {tal : TA} {dal : DA}
def dStrN (ds : List D) (Q : D → Prop) : Prop := match ds with
  | [.int i] => i.natAbs.log2 < 1920 ∧ Q (.str (toString i))
  | _ => False
def strsOf : List D → Option (List Str)
  | [] => some []
  | .str x :: r => (strsOf r).map (x :: ·)
  | _ :: _ => none
def dJoinS (a : Str) (xs : List D) (Q : D → Prop) : Prop := onS (strsOf xs) fun ys => (ys.map (·.length)).sum + ys.length * a.length ≤ 16777216 ∧ Q (.str (Txt.join a ys))
def dJoin (da db : DE) (ρ : Rho) (Q : D → Prop) : Prop := da ρ fun x => match x with
  | .str a => db ρ fun y => match y with
    | .lst xs => dJoinS a xs Q
    | .tup xs => dJoinS a xs Q
    | _ => False
  | _ => False
def dRstrip (da : DE) (ρ : Rho) (Q : D → Prop) : Prop := da ρ fun x => match x with
  | .str a => a.length ≤ sizeLine ∧ Q (.str (Txt.rstrip a))
  | _ => False
end
end DL
namespace DS
open PySem PySem.Spec PyProof.Rows L2
open PySem.W PyProof.Rows.G PpSet
section
variable {P : Program} {w : World} {A : Around} {E : Value → Shared → Prop} {s : Shared}
theorem Held.keep {h h' : Heap} {a : Addr} {M : List (Addr × List Key)} {es : Array (Int × Value)} {ep : Nat} {t : SetTable} (R : Held (TK P w) h a M es ep t) (ha : ∀ o, h.get? a = some o → h'.get? a = some o) (hm : ∀ p ∈ M, (TK P w).is h' p.2 p.1) : Held (TK P w) h' a M es ep t :=
  let ⟨o, ho, r⟩ := R.obj
  ⟨⟨o, ha o ho, r⟩, R.lay, R.tab, R.once, hm, R.led, R.spare, R.few⟩
end
end DS
namespace DL
variable [TbC]
open PySem PySem.Spec PyProof.Rows L2
section
variable {X : Cx} {Ed : DX → Prop} {E : XK} {K : PySem.W.Frag} {P : Program} {w : World} {pos p p2 p3 : Pos} {e : Expr} {te : TE} {de : DE}
/-- sorted(set(l)), the items tuples of ints and texts -/
def dSortL (de : DE) (ρ : Rho) (Q : D → Prop) : Prop := de ρ fun x => ∃ (B : List (List Key)) (sh : Nat → Bool), x = .lst (B.map tupD) ∧ B.length < 64 ∧ (∀ k ∈ B, DS.Shaped sh k) ∧ ∀ ys, SortedOf B ys → Q (.lst (ys.map tupD))
end
end DL
namespace DL
variable [TbC]
open PySem PySem.Spec PyProof.Rows L2
/-- the tuples at ts are the pairs of ps -/
def TsR (K : PySem.W.Frag) (H : Hp) : List Addr → List (NestedKey × Addr × V) → Prop
  | [], [] => True
  | t :: ts, p :: ps => SqT K H t [.ref p.2.1, p.2.2] ∧ TsR K H ts ps
  | _, _ => False
theorem TsR.mono {K : PySem.W.Frag} {H H' : Hp} (e : Same H H') : ∀ {ts : List Addr} {ps : List (NestedKey × Addr × V)}, TsR K H ts ps → TsR K H' ts ps
  | [], [], _ => trivial
  | _ :: _, _ :: _, ⟨h1, h2⟩ => ⟨sqt_mono e h1, TsR.mono e h2⟩
section
variable {X : Cx} {Ed : DX → Prop} {E : XK} {K : PySem.W.Frag} {w : World} {pos p : Pos} {e : Expr} {te : TE} {de : DE} {k : Nat}
def stoAll (kvs qs : List (NestedKey × D)) : List (NestedKey × D) := qs.foldl (fun a p => stoD a p.1 p.2) kvs
/-- the pairs of a list of pairs -/
def prsOf : List D → Option (List (NestedKey × D))
  | [] => some []
  | .tup [x, y] :: r => match tkOf x, prsOf r with
    | some k, some ps => some ((k, y) :: ps)
    | _, _ => none
  | _ :: _ => none
def dDictL (w : World) (de : DE) (ρ : Rho) (Q : D → Prop) : Prop := de ρ fun x => match x with
  | .lst xs => ∃ qs, prsOf xs = some qs ∧ qs.length ≤ 100000 ∧ Q (.dt w (stoAll [] qs))
  | _ => False
end
end DL
namespace DL
variable [TbC]
open PySem PySem.Spec PyProof.Rows L2
section
variable {X : Cx} {Ed : DX → Prop} {E : XK} {K : PySem.W.Frag} {pos p : Pos} {e : Expr} {es : List Expr} {tal : TA} {dal : DA} {k : Nat}
def dMaxL (ds : List D) (Q : D → Prop) : Prop := match ds with
  | [.lst ds] => onS (intL ds) fun ns => match ns with
    | n :: ns => Q (.int (PySem.W.maxOf n ns))
    | [] => False
  | _ => False
/-- {} as a value, where its keys are tuples -/
def dDictT (w : World) (_ : Rho) (Q : D → Prop) : Prop := Q (.dt w [])
end
end DL
namespace DL
variable [TbC]
open PySem PySem.Spec PyProof.Rows L2
def alien (C2 : Addr) : D → Option Value
  | .non => some (.type "NoneType")
  | .int _ => some (.type "int")
  | .str _ => some (.type "str")
  | .ins C' _ => if C' = C2 then some (.ref C2) else none
  | _ => none
section
variable {X : Cx} {Ed : DX → Prop} {E : XK} {K : PySem.W.Frag} {pos p : Pos} {a b e : Expr} {es : List Expr} {ta tb te : TE} {da db de : DE} {tal : TA} {dal : DA} {k : Nat} {C C2 : Addr} {wp : Wp}
/-- isinstance(x, C) -/
def dIsiN (C C2 : Addr) (ds : List D) (Q : D → Prop) : Prop := match ds with
  | [d, .cls C'] => C' = C ∧ (∃ u, alien C2 d = some u) ∧ Q (.bl false)
  | _ => False
def dIsiX (C C2 : Addr) (ds : List D) (Q : D → Prop) : Prop := dIsiC C ds Q ∨ dIsiN C C2 ds Q
/-- what is asked of y: one of the kinds above -/
inductive KindV (K : PySem.W.Frag) (H : Hp) : V → Value → Prop where
  | non : KindV K H .non (.type "NoneType")
  | int (i : Int) : KindV K H (.int i) (.type "int")
  | str (x : Str) : KindV K H (.str x) (.type "str")
  | ins {l C dx : Addr} {fs : List (Str × V)} (h : H l = some (.ins C dx fs)) : KindV K H (.ref l) (.ref C)
def dOwnA (C C2 : Addr) (wp : Wp) (Ed : DX → Prop) (da db : DE) (ρ : Rho) (Q : D → Prop) : Prop := da ρ fun x => db ρ fun y => match x with
  | .ins C1 f1 => C1 = C ∧ (∃ u, alien C2 y = some u) ∧ wp [.ins C1 f1, y] Q Ed
  | _ => False
theorem KindV.mono {H H' : Hp} (e : Same H H') {v : V} {u : Value} (h : KindV K H v u) : KindV K H' v u := by
  cases h with
  | non => exact .non
  | int i => exact .int i
  | str x => exact .str x
  | ins h => exact .ins (e _ _ h)
def dMulL (x y : D) (Q : D → Prop) : Prop := match x, y with
  | .lst xs, .int k => -1000 ≤ k ∧ k ≤ 1000 ∧ xs.length ≤ 1000 ∧ Q (.lst (List.replicate k.toNat xs).flatten)
  | _, _ => False
def dOwnCat (i : Nat) (da db : DE) (d : DEnds) (ρ : Rho) : Prop := da ρ fun x => db ρ fun y => match x, y with
  | .lst xs, .lst ys => xs.length + ys.length ≤ 200000 ∧ i < ρ.length ∧ ∀ q, d.nx (ρ.set i (some (.lst q (xs ++ ys))))
  | _, _ => False
end
end DL
namespace DL
variable [TbC]
open PySem PySem.Spec PyProof.Rows L2 PySem.W PySem.Builtin
section
variable {X : Cx} {Ed : DX → Prop} {E : XK} {K : PySem.W.Frag} {pos p : Pos} {e : Expr} {es : List Expr} {te : TE} {de : DE} {tal : TA} {dal : DA} {k : Nat} {C : Addr} {wp : Wp}
def dBoolO (C : Addr) (wp : Wp) (Ed : DX → Prop) (ds : List D) (Q : D → Prop) : Prop := match ds with
  | [.ins C1 fs] => C1 = C ∧ wp [.ins C1 fs] (fun z => ∃ b, z = .bl b ∧ Q z) Ed
  | _ => False
def dBoolOwn (C : Addr) (wp : Wp) (Ed : DX → Prop) (da : DA) (ρ : Rho) (Q : D → Prop) : Prop := da ρ fun ds => dBoolO C wp Ed ds Q
/-- bool(x) of a truth value -/
def dBoolB (ds : List D) (Q : D → Prop) : Prop := match ds with
  | [.bl b] => Q (.bl b)
  | _ => False
end
end DL
namespace DL
variable [TbC]
open PySem PySem.Spec PyProof.Rows L2
section
variable {K : PySem.W.Frag} {B0 B1 H0 H H' : Hp} {A : Nat → Option Addr} {σ : L2.St} {ρ : Rho}
/-- the fields of a page that is data -/
def pgV (q : Addr) (xs : List D) (d : D) : D := match d with
  | .cls c => if c = q then .lst xs else d
  | _ => d
def pgD (q : Addr) (xs : List D) : List (Str × D) → List (Str × D)
  | [] => []
  | (f, d) :: r => (f, pgV q xs d) :: pgD q xs r
/-- a slot on a greater ground -/
theorem Slot.base {H0' : Hp} (s : Same H0 H0') : ∀ {w : Option SV} {v : Option V} {oa : Option Addr}, (∀ b, oa = some b → H0' b = H0 b) → Slot K B1 H0 H w v oa → Slot K B1 H0' H w v oa
  | none, _, _, _, h => h
  | some (.d _), _, _, _, ⟨e, u, e1, r⟩ => ⟨e, u, e1, Rep.mono s _ _ r⟩
  | some (.lst _ _), _, _, c, ⟨a, o, e1, e2, n, b, ho, r⟩ => ⟨a, o, e1, e2, (c a e2).trans n, b, ho, r.mono s⟩
  | some (.ins _ _ _), _, _, c, ⟨a, o, e1, e2, n, b, ho, r⟩ => ⟨a, o, e1, e2, (c a e2).trans n, b, ho, r.mono s⟩
  | some (.dk _ _), _, _, c, ⟨a, o, e1, e2, n, b, ho, r⟩ => ⟨a, o, e1, e2, (c a e2).trans n, b, ho, r.mono s⟩
  | some (.dt _ _ _), _, _, c, ⟨a, o, e1, e2, n, b, ho, r⟩ => ⟨a, o, e1, e2, (c a e2).trans n, b, ho, r.mono s⟩
  | some (.pg _ _ _ _ _), _, _, c, ⟨a, o, e1, e2, n, b, ho, r⟩ => ⟨a, o, e1, e2, (c a e2).trans n, b, ho, r.mono s⟩
end
section
variable {X : Cx} {Ed : DX → Prop} {E : XK} {K : PySem.W.Frag} {pos p : Pos} {e a b c o e2 tg iter elt : Expr} {te ta tb tc : TE} {de da db dc : DE} {tal : TA} {dal : DA} {es ifs : List Expr} {k : Nat} {x : Str} {tt : TT} {dt : DT} {st : Stmt} {sts : List Stmt} {ts us : TS} {ds dus : DS}
/-- from here on the page is data -/
def dFrzP (i : Nat) (ds : DS) (d : DEnds) (ρ : Rho) : Prop := match lk i ρ with
  | some (.pg _ C fs q xs) => ds d (ρ.set i (some (.d (.ins C (pgD q xs fs)))))
  | _ => False
/-- a page's field -/
def dFldP (i : Nat) (C : Addr) (f : Str) (ρ : Rho) (Q : D → Prop) : Prop := match lk i ρ with
  | some (.pg _ C' fs _ _) => C' = C ∧ onS (fget f fs) Q
  | _ => False
/-- self.f = e, self a page of one's own -/
def dPutP (i : Nat) (C : Addr) (f : Str) (de : DE) (d : DEnds) (ρ : Rho) : Prop := de ρ fun y => match lk i ρ with
  | some (.pg x C' fs q xs) => C' = C ∧ fs.length < 1000 ∧ d.nx (ρ.set i (some (.pg x C (fput f y fs) q xs)))
  | _ => False
/-- self.f = list(e), self one's own: it becomes a page -/
def dNest (i : Nat) (C : Addr) (f : Str) (da : DE) (d : DEnds) (ρ : Rho) : Prop := da ρ fun z => match lk i ρ with
  | some (.ins x C' fs) => C' = C ∧ fs.length < 1000 ∧ (match z with
    | .lst xs => ∀ q, d.nx (ρ.set i (some (.pg x C (fput f (.cls q) fs) q xs)))
    | .tup xs => ∀ q, d.nx (ρ.set i (some (.pg x C (fput f (.cls q) fs) q xs)))
    | _ => False)
  | _ => False
end
end DL
namespace DL
variable [TbC]
open PySem PySem.Spec PyProof.Rows L2
section
variable {X : Cx} {Ed : DX → Prop} {E : XK} {K : PySem.W.Frag} {pos p : Pos} {e a b c o e2 tg iter elt : Expr} {te ta tb tc : TE} {de da db dc : DE} {tal : TA} {dal : DA} {es ifs : List Expr} {k : Nat} {x : Str} {tt : TT} {dt : DT} {st : Stmt} {sts : List Stmt} {ts us : TS} {ds dus : DS}
/-- self.f.append(e) -/
def dAppP (i : Nat) (C : Addr) (f : Str) (de : DE) (d : DEnds) (ρ : Rho) : Prop := match lk i ρ with
  | some (.pg x C' fs q xs) => C' = C ∧ fget f fs = some (.cls q) ∧ de ρ fun y => xs.length < 100000 ∧ d.nx (ρ.set i (some (.pg x C fs q (xs ++ [y]))))
  | _ => False
/-- len(self.f) -/
def dLenP (i : Nat) (C : Addr) (f : Str) (ρ : Rho) (Q : D → Prop) : Prop := match lk i ρ with
  | some (.pg _ C' fs q xs) => C' = C ∧ fget f fs = some (.cls q) ∧ Q (.int xs.length)
  | _ => False
end
/-- the page's inner list at q, its fields, its items, the arguments -/
abbrev WpM := Addr → List (Str × D) → List D → List D → (List (Str × D) → List D → D → Prop) → (DX → Prop) → Prop
/-- how the page stands at the end -/
def mOut (x C q : Addr) (Qf : List (Str × D) → List D → Prop) (ρ : Rho) : Prop := match lk 0 ρ with
  | some (.pg x' C' fs q' xs) => x' = x ∧ C' = C ∧ q' = q ∧ Qf fs xs
  | _ => False
end DL
namespace DL
variable [TbC]
open PySem PySem.Spec PyProof.Rows L2
abbrev DEW := Rho → (D → Rho → Prop) → Prop
section
variable {P : Program} {w : World} {K : PySem.W.Frag} {mg : Str → Option Value} {base : Heap} {X : Cx} {Ed : DX → Prop} {E : XK} {pos p : Pos} {e a b c o e2 tg iter elt : Expr} {te ta tb tc : TE} {de da db dc : DE} {tal : TA} {dal : DA} {es ifs : List Expr} {k : Nat} {x : Str} {tt : TT} {dt : DT} {st : Stmt} {sts : List Stmt} {ts us : TS} {ds dus : DS} {dw : DEW}
/-- an expression for its doing alone -/
def dDo (dw : DEW) (d : DEnds) (ρ : Rho) : Prop := dw ρ fun _ ρ' => d.nx ρ'
def dMethM (i : Nat) (C : Addr) (m : Str) (wp : WpM) (dd : List D) (Ed : DX → Prop) (dal : DA) (ρ : Rho) (Q : D → Rho → Prop) : Prop := match lk i ρ with
  | some (.pg x C' fs q xs) => C' = C ∧ fget m fs = none ∧ dal ρ fun ds => wp q fs xs (ds ++ dd) (fun fs' xs' d => Q d (ρ.set i (some (.pg x C fs' q xs')))) Ed
  | _ => False
abbrev WpP := List D → (Addr → List (Str × D) → List D → Prop) → (DX → Prop) → Prop
def pOut (x C : Addr) (Qf : Addr → List (Str × D) → List D → Prop) (ρ : Rho) : Prop := match lk 0 ρ with
  | some (.pg x' C' fs q xs) => x' = x ∧ C' = C ∧ Qf q fs xs
  | _ => False
/-- x = C(..), a page of one's own -/
def dNewP (i : Nat) (C : Addr) (wp : WpP) (dd : List D) (Ed : DX → Prop) (da : DA) (d : DEnds) (ρ : Rho) : Prop := da ρ fun ds => i < ρ.length ∧ wp (ds ++ dd) (fun q fs xs => ∀ x, d.nx (ρ.set i (some (.pg x C fs q xs)))) Ed
def rOut (i : Nat) (C : Addr) (Qf : Addr → List (Str × D) → List D → Prop) (d : D) (ρ : Rho) : Prop := match lk i ρ with
  | some (.pg x C' fs q xs) => d = .cls x ∧ C' = C ∧ Qf q fs xs
  | _ => False
/-- the page's name -/
def dVarP (i : Nat) (ρ : Rho) (Q : D → Prop) : Prop := match lk i ρ with
  | some (.pg x _ _ _ _) => Q (.cls x)
  | _ => False
end
end DL
namespace L2
open PySem PySem.Spec PyProof.Rows
end L2
namespace DL
variable [TbC]
open PySem PySem.Spec PyProof.Rows L2
section
variable {P : Program} {w : World} {K : PySem.W.Frag} {mg : Str → Option Value} {base : Heap} {X : Cx} {Ed : DX → Prop} {E : XK} {pos p : Pos} {e a b c o e2 tg iter elt : Expr} {te ta tb tc : TE} {de da db dc : DE} {tal tkl : TA} {dal dkl : DA} {es ifs : List Expr} {k : Nat} {x : Str} {tt : TT} {dt : DT} {st : Stmt} {sts : List Stmt} {ts us : TS} {ds dus : DS} {dw : DEW}
def dMethMK (i : Nat) (C : Addr) (m : Str) (n nk : Nat) (wp : WpM) (gd : List D → List D → List D) (Ed : DX → Prop) (dal dkl : DA) (ρ : Rho) (Q : D → Rho → Prop) : Prop := match lk i ρ with
  | some (.pg x C' fs q xs) => C' = C ∧ fget m fs = none ∧ dal ρ fun as => dkl ρ fun ds => as.length = n ∧ ds.length = nk ∧ wp q fs xs (gd as ds) (fun fs' xs' d => Q d (ρ.set i (some (.pg x C fs' q xs')))) Ed
  | _ => False
def dCInt (C : Addr) (i : Int) (da : DE) (ρ : Rho) (Q : D → Prop) : Prop := da ρ fun x => x = .cls C ∧ Q (.int i)
end
end DL
namespace ER
open PySem PySem.W PySem.Calls PyProof.Rows
/-- the class of an own error at C, over the built-in B -/
structure EC (K : Frag) (B i newId : String) (bmB : List Value) (C : Addr) : Prop where
  sa : findIn K (.ref C) "__setattr__" = some (some (.builtin "object.__setattr__"))
  ov : excOver K C bmB = true
  hd : hasDictIn K C = true
  ini : excInitIn K C bmB newId = true
  exC : subIn K (.ref C) (.type "BaseException") = some true
  exB : subIn K (.ref C) (.type B) = some true
  tyC : typeIn K (.ref C) = some (.type "type")
  kC : keepIn K (.ref C) = true
  sup : ks_superIn K C C "__init__" = some (some (.builtin i))
  own : mroIn K C (.ref C) = some true
/-- what the text before the law has written of super -/
structure SupF (P : Program) (K : Frag) (mg : Str → Option Value) : Prop where
  sup : mg "super" = none
  tp : nsIn K cStatics "thirdparty.any" = some none
  top : (P.main.scope.names.lookup ("super" : Str)).isSome = false
/-- the code object and the cell of an __init__ -/
structure IniC (P : Program) (K : Frag) (C cda cc : Addr) : Prop where
  code : ∃ (ccl : Value) (cdd : Option Addr) (vs : Array Value) (ccs : Array (Option Value)) (file : Str) (tf : Tok), K.lookup cda = some ⟨ccl, cdd, .fields vs, ccs⟩ ∧ vs[2]? = some (.str file tf) ∧ ((P.main.file : Str) == file) = true
  cell : ∃ (cl : Value) (cld : Option Addr) (csl : Array (Option Value)), K.lookup cc = some ⟨cl, cld, .cell (some (.ref C)), csl⟩
section
variable {P : Program} {w : World} {A : Around} {E : Value → Shared → Prop} {s : Shared} {h₀ : Heap} {L a C f cda cc t : Addr} {m mg mb : Str → Option Value} {K : Frag} {B i newId : String} {bmB : List Value} {msg : Expr} {scope : Scope} {qual : Str} {fd : FuncData} {ar : Arg} {body : List Stmt} {oc : Value} {od : Option Addr} {osl : Array (Option Value)} {p0 p1 p2 p3 p4 : Pos}
/-- the message is reckoned, the heap stays -/
def Says (P : Program) (w : World) (env : Env) (m : Str → Option Value) (msg : Expr) : Prop := ∀ (A : Around) (s : Shared) (Q : Value → Shared → Prop) (E : Value → Shared → Prop), s.heap.Ns env.locals m → (∀ u tk, Q u { s with toks := tk }) → wpAny (model P w) A (eval msg env) Q E s
theorem sup_run {Q : Flow → Shared → Prop} {pl : Sem Bool} (T : EC K B i newId bmB C) (KF : KxsFacts B i) (FB : ExcBaseFacts B newId i bmB) (SP : SupF P K mg) (IC : IniC P K C cda cc) (X₀ : K.In h₀) (hg : h₀.Ns mainGlobals mg) (hb : h₀.Ns builtinsNs mb) (hmb : mb "super" = bootBuiltins "super")
    (hf : K.lookup f = some ⟨oc, od, .func fd, osl⟩) (hp : (fd.params.posonlyargs ++ fd.params.args).head? = some ar) (F : Fr h₀ L s.heap m) (hv : m ar.arg = some (.ref a)) (ha : s.heap.get? a = some (excObj C t none .none)) (hn : h₀.get? a = none) (hL : a ≠ L)
    (hks : scope.names.lookup ("super" : Str) = some .globalImplicit) (hkc : scope.names.lookup ("__class__" : Str) = some .free) (hka : scope.names.lookup ar.arg = some .local) (hk : scope.kind = .function)
    (hm : Says P w (ksEnv qual scope L f (.ref cda) cc) m msg) (hst : starEach [msg] (ksEnv qual scope L f (.ref cda) cc) = (false, eval msg (ksEnv qual scope L f (.ref cda) cc)) :: starEach [] (ksEnv qual scope L f (.ref cda) cc))
    (ht : eval (.Call (.Attribute (.Call (.Name "super" p0) [] [] p1) "__init__" p2) [msg] [] p3) (ksEnv qual scope L f (.ref cda) cc) = (do
      let ov ← attributeBase (.Call (.Name "super" p0) [] [] p1) "__init__" (ksEnv qual scope L f (.ref cda) cc) (eval (.Call (.Name "super" p0) [] [] p1) (ksEnv qual scope L f (.ref cda) cc))
      standAt p2.atName
      let (fm, first) ← holding [ov] (getMethod ov "__init__" pl)
      callWith p3 fm first (backTo p3 (starEach [msg] (ksEnv qual scope L f (.ref cda) cc))) []))
    (hsw : swapsWith (.Call (.Attribute (.Call (.Name "super" p0) [] [] p1) "__init__" p2) [msg] [] p3) none p4.line (ksEnv qual scope L f (.ref cda) cc) = pure false)
    (hi : interactive (ksEnv qual scope L f (.ref cda) cc) = false)
    (h : ∀ h' t' tk, Fr h₀ L h' m → h'.get? a = some (excObj C t' none .none) → Q .next { s with heap := h', toks := tk }) :
    _root_.PySem.wpAt (model P w) A (.func body (ksEnv qual scope L f (.ref cda) cc)) (exec (.Expr (.Call (.Attribute (.Call (.Name "super" p0) [] [] p1) "__init__" p2) [msg] [] p3) p4) (ksEnv qual scope L f (.ref cda) cc)) Q E s := by
  obtain ⟨ccl, cdd, vs, ccs, file, tf, hcode, hvs, hfile⟩ := IC.code
  obtain ⟨cl, cld, csl, hcell⟩ := IC.cell
  have X : K.In s.heap := X₀.keeps F.keep
  have N0 : News h₀ L s.heap [(a, excObj C t none .none)] := fun p hp => by
    rw [List.mem_singleton.mp hp]
    exact ⟨ha, hL, hn⟩
  obtain ⟨cdC, hcC⟩ : ∃ cd, clsIn K C = some cd := by
    cases z : clsIn K C with
    | some cd => exact ⟨cd, rfl⟩
    | none =>
      have y := T.sup
      unfold ks_superIn at y
      rw [z] at y
      cases y
  obtain ⟨oC, hC1, hC2⟩ : ∃ oC, s.heap.get? C = some oC ∧ oC.data = .cls cdC := by
    unfold clsIn at hcC
    split at hcC
    · rename_i hoC
      cases hcC
      exact ⟨_, X _ _ hoC, rfl⟩
    · cases hcC
  refine ks_wpAt_Expr_any (ks_wpAt_MethodCall (ks_wpAt_super_base (f := f) (cc := cda) hks hkc (by decide) rfl (X _ _ hf) rfl hp rfl (X _ _ hcode) rfl hvs hfile SP.top ?_) ht) hi hsw
  refine ks_loadName_global hk hks (loadGlobal_builtin (env := ksEnv qual scope L f (.ref cda) cc) (hg.keeps F.keep) SP.sup (hb.keeps F.keep) (hmb.trans (by decide +kernel)) ⟨rfl, ?_⟩)
  refine wpAny_loadName_free hk hkc rfl ⟨_, X _ _ hcell, rfl⟩ ?_
  refine wpAny_loadName_local hk hka F.ns hv ?_
  refine ks_wpAny_isType_cls hC1 hC2 ⟨rfl, ?_⟩
  refine ks_wpAny_call_super hC1 hC2 ha rfl (fun c z => by cases z) (looks_mroIn X T.own) fun h1 e1 k1 => ?_
  obtain ⟨F1, N1, l1⟩ := ks_newsPush F N0 rfl e1 k1
  have I1 : InstAt h1 a (excObj C t none .none) C none := ⟨k1 _ _ ha, rfl, rfl, trivial⟩
  refine kxs_method (s := { s with heap := h1 }) KF F1 X₀ N1 List.mem_cons_self I1 SP.tp T.sup T.exB (by decide) fun q h2 F2 N2 l2 => ?_
  have ar2 : ∀ (tk : Nat) (u : Value), wpAny (model P w) A (call (.ref q) [u]) (fun _ => Q .next) E { s with heap := h2, toks := tk } := fun tk u => by
    have U : UpdF a (excObj C t none .none) ((q, kxs_mw i a) :: (s.heap.objs.size, ks_superObj C a C) :: [(a, excObj C t none .none)]) _ := .tail (Nat.ne_of_gt (l2 (a, excObj C t none .none) (.tail _ (.head _)))) (.tail (Nat.ne_of_gt (l1 (a, excObj C t none .none) (.head _))) (.head (fun p hp => by cases hp)))
    refine kxs_call (s := { s with heap := h2, toks := tk }) F2 X₀ N2 FB T.ini List.mem_cons_self U (show (1 : Nat) ≤ sizeLine by decide) fun t' h3 F3 N3 l3 => ?_
    exact h h3 t' tk F3 ((N3 (a, excObj C t' none .none) (by simp)).1)
  refine kxs_callWith1 N2 List.mem_cons_self ?_ hst (by rfl)
  rw [hst]
  refine Calls.spliced_cons (hm _ _ _ _ F2.ns fun u tk => ?_)
  refine Calls.spliced_nil ⟨(N2 _ List.mem_cons_self).1, ?_⟩
  exact ar2 tk u
open Builtin Builtin.ObjectAttr in
theorem er_new {hp : Heap} {g : Array GenState} {d : Drawn} {tk : Nat} {os : OsState} {name : Str} {v : Value} {Q : Unit → Shared → Prop} (T : EC K B i newId bmB C) (SF : StoreFacts B bmB "object.__setattr__" "object") (X : K.In hp) (ha : hp.get? a = some (excObj C t none .none)) (hno : takerIn K C name = some none)
    (h : ∀ h' tk' dx, (∀ b o, b ≠ a → hp.get? b = some o → h'.get? b = some o) → hp.objs.size ≤ dx → h'.get? a = some (excObj C t (some dx) .none) → h'.Ns1 dx (fun y => if y = name then some v else none) → Q () ⟨h', g, d, tk', os⟩) :
    wpAny (model P w) A (setAttr (.ref a) name v) Q E ⟨hp, g, d, tk, os⟩ := by
  have ax : a ≠ hp.objs.size := Nat.ne_of_lt (Heap.lt_size ha)
  refine set_plain (od := none) X ⟨ha, rfl, rfl, trivial⟩ T.sa (osa_openX (od := none) SF X ⟨ha, rfl, rfl, trivial⟩ T.ov hno fun b => ?_)
  obtain ⟨cd, hcd, hh⟩ := any_some T.hd
  have hcls : Looks (model P w) hp (classData C) cd := looks_clsIn X hcd
  have hx₁ : (hp.push { cls := .type "dict", data := .dict #[] }).get? a = some (excObj C t none .none) := Heap.get?_push_of_some _ ha
  unfold storeInOwnDict ownDictForStores
  repeat (first | with_reducible refine HandSPX.store_in_new ?_ ?_ | with_reducible refine wpAny_loadPart_at ha ?_ | with_reducible refine hcls.at ?_ | wp_step)
  · exact ⟨_, #[], _, (Heap.get?_update_ne _ _ _ _ ax.symm).trans (Heap.get?_push_at rfl rfl), rfl, fun e he => absurd he (by simp), fun _ => rfl⟩
  · intro h' tk' hn' hs
    exact h h' tk' hp.objs.size (fun b o hb ho => (hs.2 b (Nat.ne_of_lt (Heap.lt_size ho))).trans ((Heap.get?_update_ne _ _ _ _ hb).trans (Heap.get?_push_of_some _ ho))) (Nat.le_refl _) ((hs.2 a ax).trans (Heap.get?_update_self _ hx₁ rfl)) hn'
open Builtin Builtin.ObjectAttr in
theorem er_old {hp : Heap} {g : Array GenState} {d : Drawn} {tk : Nat} {os : OsState} {name : Str} {v : Value} {dx : Addr} {m0 : Str → Option Value} {nl : List Str} {Q : Unit → Shared → Prop} (T : EC K B i newId bmB C) (SF : StoreFacts B bmB "object.__setattr__" "object") (X : K.In hp) (ha : hp.get? a = some (excObj C t (some dx) .none)) (hns : hp.Ns1 dx m0) (hw : Within m0 nl) (hz : nl.length ≤ 1000) (hno : takerIn K C name = some none)
    (h : ∀ h' tk', (∀ b o, b ≠ dx → hp.get? b = some o → h'.get? b = some o) → h'.Ns1 dx (fun y => if y = name then some v else m0 y) → Q () ⟨h', g, d, tk', os⟩) :
    wpAny (model P w) A (setAttr (.ref a) name v) Q E ⟨hp, g, d, tk, os⟩ := by
  obtain ⟨oD, esD, epD, hoD, hdD, _⟩ := hns.count hw
  refine set_plain (od := some oD) X ⟨ha, rfl, rfl, hoD⟩ T.sa (osa_openX (od := some oD) SF X ⟨ha, rfl, rfl, hoD⟩ T.ov hno fun b => ?_)
  obtain ⟨cd, hcd, hh⟩ := any_some T.hd
  have hcls : Looks (model P w) hp (classData C) cd := looks_clsIn X hcd
  unfold storeInOwnDict ownDictForStores
  repeat (first | with_reducible refine PySem.OEX.store_in_old hns hw hz ?_ | with_reducible refine wpAny_loadPart_at ha ?_ | with_reducible refine hcls.at ?_ | wp_step)
  intro h' tk' hn' hs
  exact h h' tk' (fun b o hb ho => (hs.2 b hb).trans ho) hn'
def Gives (P : Program) (w : World) (env : Env) (m : Str → Option Value) (e : Expr) (v : L2.V) : Prop := ∀ (A : Around) (s : Shared) (Q : Value → Shared → Prop) (E : Value → Shared → Prop), s.heap.Ns env.locals m → (∀ u tk, L2.RelV v u → Q u { s with toks := tk }) → wpAny (model P w) A (eval e env) Q E s
theorem gives_str {env : Env} {x : Str} {j : Nat} {pos : Pos} : Gives P w env m (.Constant (.str x) j pos) (.str x) := fun A s Q E _ h => Calls.Constant_str (h _ _ ⟨_, rfl⟩)
theorem gives_name {env : Env} {x : Str} {pos : Pos} {u : Value} {v : L2.V} (hk : env.scope.kind = .function) (hl : env.scope.names.lookup x = some .local) (hv : m x = some u) (r : L2.RelV v u) (hd : (x == ("__debug__" : Str)) = false) : Gives P w env m (.Name x pos) v := fun A s Q E hn h => wpAny_Name (wpAny_loadName_local hk hl hn hv (h _ _ r)) hd
inductive Sets (K : Frag) (C : Addr) (P : Program) (w : World) (env : Env) (m : Str → Option Value) (self : Str) : List Stmt → List (Str × L2.V) → Prop
  | nil : Sets K C P w env m self [] []
  | cons {f : Str} {e : Expr} {v : L2.V} {p1 p2 p3 : Pos} {r : List Stmt} {l : List (Str × L2.V)} (hg : Gives P w env m e v) (hno : takerIn K C f = some none) (hsw : swapsWith e (some (.Attribute (.Name self p1) f p2)) p3.line env = pure false) (hr : Sets K C P w env m self r l) : Sets K C P w env m self (.Assign [.Attribute (.Name self p1) f p2] e p3 :: r) ((f, v) :: l)
theorem sets_old {env : Env} {self : Str} {dx : Addr} {Q : Flow → Shared → Prop} (T : EC K B i newId bmB C) (SF : StoreFacts B bmB "object.__setattr__" "object") (X₀ : K.In h₀) (hL : env.locals = L) (hk : env.scope.kind = .function) (hl : env.scope.names.lookup self = some .local) (hv : m self = some (.ref a)) (hd : (self == ("__debug__" : Str)) = false)
    (d0 : h₀.objs.size ≤ dx) (dL : dx ≠ L) (da : a ≠ dx) : ∀ {st : List Stmt} {l : List (Str × L2.V)}, Sets K C P w env m self st l → ∀ (s : Shared) (fs : List (Str × L2.V)) (mA : Str → Option Value), Fr h₀ L s.heap m → s.heap.get? a = some (excObj C t (some dx) .none) → s.heap.Ns1 dx mA → (∀ f, L2.RelO (fs.lookup f) (mA f)) → fs.length + l.length ≤ 900 →
    (∀ h' tk' mB, Fr h₀ L h' m → h'.get? a = some (excObj C t (some dx) .none) → h'.Ns1 dx mB → (∀ f, L2.RelO ((l.reverse ++ fs).lookup f) (mB f)) → Q .next { s with heap := h', toks := tk' }) → wpAny (model P w) A (execs st env) Q E s := by
  intro st l S
  induction S with
  | nil =>
    intro s fs mA F ha hns r _ h
    exact wpAny_execs_nil (h s.heap s.toks mA F ha hns r)
  | @cons f e v p1 p2 p3 rr l hg hno hsw hr ih =>
    intro s fs mA F ha hns r hz h
    refine wpAny_execs_cons (plainObj_wpAny_Assign_Attribute (hg _ _ _ _ (hL ▸ F.ns) fun u tk ru => wpAny_Name (wpAny_loadName_local hk hl (hL ▸ F.ns) hv ?_) hd) hsw)
    refine er_old T SF (X₀.keeps F.keep) ha hns (L2.within_of r) (by rw [List.length_map]; simp only [List.length_cons] at hz; omega) hno fun h' tk' k hn' => ?_
    refine ih ⟨h', s.gens, s.drawn, tk', s.os⟩ ((f, v) :: fs) _ ⟨F.ns.at' fun o e => k _ _ (fun z => dL z.symm) e, fun b o e => k _ _ (Nat.ne_of_lt (Nat.lt_of_lt_of_le (Heap.lt_size e) d0)) (F.keep b o e), F.above⟩ (k _ _ da ha) hn' (L2.relO_put ru r) (by simp only [List.length_cons] at hz ⊢; omega) fun h2 tk2 mB F2 ha2 hn2 r2 => ?_
    refine h h2 tk2 mB F2 ha2 hn2 ?_
    rw [List.reverse_cons, List.append_assoc]
    exact r2
/-- the whole __init__ -/
theorem init_run {R : Result → Shared → Prop} {pl : Sem Bool} {name : Str} {params : Arguments} {dV kV doc pm ct : Value} {an : Option Addr} {args : Args} {binds : List (Str × Value)} {rest : List Stmt} {l : List (Str × L2.V)} (T : EC K B i newId bmB C) (SF : StoreFacts B bmB "object.__setattr__" "object") (KF : KxsFacts B i) (FB : ExcBaseFacts B newId i bmB) (SP : SupF P K mg) (IC : IniC P K C cda cc) (X₀ : K.In h₀) (hg : h₀.Ns mainGlobals mg) (hb : h₀.Ns builtinsNs mb) (hmb : mb "super" = bootBuiltins "super")
    (hbody : body = .Expr (.Call (.Attribute (.Call (.Name "super" p0) [] [] p1) "__init__" p2) [msg] [] p3) p4 :: rest)
    (lk : K.lookup f = some ⟨oc, od, .func (ksFn name qual params body scope dV kV doc pm an (.ref cda) ct cc), osl⟩) (hcd : codeIn K (.ref cda) qual = true) (hroom : A.depth < recursionLimit) (lim : s.heap.NoLimit)
    (hk0 : ∀ b o, h₀.get? b = some o → s.heap.get? b = some o) (hsz : h₀.objs.size ≤ s.heap.objs.size) (hn : h₀.get? a = none) (ha : s.heap.get? a = some (excObj C t none .none)) (hbind : BindsTo s (ksFn name qual params body scope dV kV doc pm an (.ref cda) ct cc) args binds)
    (hp : (params.posonlyargs ++ params.args).head? = some ar) (hv : binds.reverse.lookup ar.arg = some (.ref a)) (hloc : ∀ y ∈ binds, scope.names.lookup y.1 = some .local) (hcell : ∀ x ∈ scope.names, x.2 ≠ .cell) (hco : scope.isCoroutine = false) (hgen : scope.isGenerator = false)
    (hks : scope.names.lookup ("super" : Str) = some .globalImplicit) (hkc : scope.names.lookup ("__class__" : Str) = some .free) (hka : scope.names.lookup ar.arg = some .local) (hk : scope.kind = .function) (hd : (ar.arg == ("__debug__" : Str)) = false)
    (hm : ∀ L, Says P w (ksEnv qual scope L f (.ref cda) cc) (fun x => binds.reverse.lookup x) msg) (hst : ∀ L, starEach [msg] (ksEnv qual scope L f (.ref cda) cc) = (false, eval msg (ksEnv qual scope L f (.ref cda) cc)) :: starEach [] (ksEnv qual scope L f (.ref cda) cc))
    (ht : ∀ L, eval (.Call (.Attribute (.Call (.Name "super" p0) [] [] p1) "__init__" p2) [msg] [] p3) (ksEnv qual scope L f (.ref cda) cc) = (do
      let ov ← attributeBase (.Call (.Name "super" p0) [] [] p1) "__init__" (ksEnv qual scope L f (.ref cda) cc) (eval (.Call (.Name "super" p0) [] [] p1) (ksEnv qual scope L f (.ref cda) cc))
      standAt p2.atName
      let (fm, first) ← holding [ov] (getMethod ov "__init__" pl)
      callWith p3 fm first (backTo p3 (starEach [msg] (ksEnv qual scope L f (.ref cda) cc))) []))
    (hsw : ∀ L, swapsWith (.Call (.Attribute (.Call (.Name "super" p0) [] [] p1) "__init__" p2) [msg] [] p3) none p4.line (ksEnv qual scope L f (.ref cda) cc) = pure false)
    (hi : ∀ L, interactive (ksEnv qual scope L f (.ref cda) cc) = false) {f1 : Str} {v1 : L2.V} (hS : ∀ L, Sets K C P w (ksEnv qual scope L f (.ref cda) cc) (fun x => binds.reverse.lookup x) ar.arg rest ((f1, v1) :: l)) (hz : l.length ≤ 800)
    (h : ∀ h' tk' t' dx mB, (∀ b o, h₀.get? b = some o → h'.get? b = some o) → h'.get? a = some (excObj C t' (some dx) .none) → h'.Ns1 dx mB → (∀ f, L2.RelO ((l.reverse ++ [(f1, v1)]).lookup f) (mB f)) → h₀.objs.size ≤ dx → a ≠ dx → R (.ok (.ret .none)) ⟨h', s.gens, s.drawn, tk', s.os⟩) :
    codeAny (model P w) A (.call (.ref f) args) R s := by
  subst hbody
  have X : K.In s.heap := X₀.keeps hk0
  refine ks_codeAny_call_defAt (fd := ksFn name qual params _ scope dV kV doc pm an (.ref cda) ct cc) (binds := binds) hroom (X _ _ lk) rfl lim (codeRec_of X hcd) rfl hbind hcell hloc (fun h₁ hns hk₁ => ?_) hco hgen hk
  have hL : h₀.objs.size ≤ s.heap.objs.size := hsz
  have F1 : Fr h₀ s.heap.objs.size h₁ (fun x => binds.reverse.lookup x) := ⟨hns, fun b o e => hk₁ b o (hk0 b o e), hL⟩
  have aL : a ≠ s.heap.objs.size := Nat.ne_of_lt (Heap.lt_size ha)
  refine ks_wpAt_execs_cons ?_
  refine sup_run (s := { s with heap := h₁, toks := s.toks + binds.length }) (m := fun x => binds.reverse.lookup x) (a := a) (t := t) T KF FB SP IC X₀ hg hb hmb lk hp F1 hv (hk₁ _ _ ha) hn aL hks hkc hka hk (hm _) (hst _) (ht _) (hsw _) (hi _) fun h2 t2 tk2 F2 ha2 => ?_
  refine wpAt_of_wpAny ?_
  cases hS s.heap.objs.size with
  | @cons _ e _ q1 q2 q3 rr _ hg1 hno hsw1 hr =>
  refine wpAny_execs_cons (plainObj_wpAny_Assign_Attribute (hg1 _ _ _ _ F2.ns fun u tk ru => wpAny_Name (wpAny_loadName_local hk hka F2.ns hv ?_) hd) hsw1)
  refine er_new T SF (X₀.keeps F2.keep) ha2 hno fun h3 tk3 dx k3 hdx ha3 hn3 => ?_
  have hdx : h2.objs.size ≤ dx := hdx
  have ha2' : a < h2.objs.size := Heap.lt_size ha2
  have dL : s.heap.objs.size < h2.objs.size := by
    obtain ⟨oL, _, _, e, _⟩ := F2.ns
    exact Heap.lt_size e
  have d0 : h₀.objs.size ≤ dx := by omega
  refine sets_old (dx := dx) (L := s.heap.objs.size) T SF X₀ rfl hk hka hv hd d0 (Nat.ne_of_gt (Nat.lt_of_lt_of_le dL hdx)) (Nat.ne_of_lt (Nat.lt_of_lt_of_le ha2' hdx)) hr ⟨h3, s.gens, s.drawn, tk3, s.os⟩ [(f1, v1)] _ ⟨F2.ns.at' fun o e => k3 _ _ (fun z => aL z.symm) e, fun b o e => k3 _ _ (fun z => by rw [z, hn] at e; cases e) (F2.keep b o e), F2.above⟩ ha3 hn3 (fun g => L2.relO_put (fs := []) (mA := fun _ => none) ru (fun _ => trivial) g) (by simp only [List.length_cons, List.length_nil]; omega) fun h4 tk4 mB F4 ha4 hn4 r4 => ?_
  exact h h4 tk4 t2 dx mB F4.keep ha4 hn4 r4 d0 (Nat.ne_of_lt (Nat.lt_of_lt_of_le ha2' hdx))
end
end ER
namespace ER
open PySem PySem.W PySem.Calls PyProof.Rows
/-- what the error's __init__ does at a heap: hp ahead of the making, the error behind it -/
def ErrRun (P : Program) (w : World) (K : Frag) (mg : Str → Option Value) (C f : Addr) (n : Nat) (ok : List L2.V → Prop) (fl : List L2.V → List (Str × L2.V)) : Prop :=
  ∀ (A : Around) (hp : Heap) (g : Array GenState) (dr : Drawn) (tk : Nat) (os : OsState) (us : List Value) (vs : List L2.V) (R : Result → Shared → Prop), K.In hp → hp.Ns mainGlobals mg → (∃ mb, hp.Ns builtinsNs mb ∧ mb "super" = bootBuiltins "super") → hp.NoLimit → A.depth < recursionLimit → L2.Vals vs us → vs.length = n → ok vs →
    (∀ h' tk' t' dx mB, (∀ b o, hp.get? b = some o → h'.get? b = some o) → h'.get? (hp.objs.size + 1) = some (excObj C t' (some dx) .none) → h'.Ns1 dx mB → (∀ f, L2.RelO ((fl vs).lookup f) (mB f)) → hp.objs.size ≤ dx → hp.objs.size + 1 ≠ dx → R (.ok (.ret .none)) ⟨h', g, dr, tk', os⟩) →
    codeAny (model P w) A (.call (.ref f) ⟨.ref (hp.objs.size + 1) :: us, []⟩) R ⟨(hp.push (excTup us)).push (excObj C hp.objs.size none .none), g, dr, tk, os⟩
structure MkX (P : Program) (w : World) (K : Frag) (mg : Str → Option Value) (x : Str) (C : Addr) (n : Nat) (ok : List L2.V → Prop) (fl : List L2.V → List (Str × L2.V)) : Prop where
  nm : mg x = some (.ref C)
  ex : ∃ (B i newId initId : String) (bmB : List Value) (f : Addr), EC K B i newId bmB C ∧ ExcBaseFacts B newId initId bmB ∧ findIn K (.ref C) "__init__" = some (some (.ref f)) ∧ isFn K (.ref f) = true ∧ ErrRun P w K mg C f n ok fl
/-- a parameter's value by its place -/
theorem zip_at : ∀ {ps : List Str} {us : List Value} {j : Nat} {x : Str} {u : Value}, ps.Nodup → ps[j]? = some x → us[j]? = some u → (ps.zip us).lookup x = some u
  | [], _, _, _, _, _, h, _ => by simp at h
  | _ :: _, [], _, _, _, _, _, h => by simp at h
  | p :: ps, v :: us, 0, x, u, _, h1, h2 => by
    simp only [List.getElem?_cons_zero, Option.some.injEq] at h1 h2
    subst h1 h2
    simp
  | p :: ps, v :: us, j + 1, x, u, nd, h1, h2 => by
    simp only [List.getElem?_cons_succ] at h1 h2
    have hx : x ≠ p := fun z => by
      subst z
      exact (List.nodup_cons.mp nd).1 (List.mem_of_getElem? h1)
    have hb : (x == p) = false := by simpa using hx
    show (match x == p with | true => some v | false => (ps.zip us).lookup x) = some u
    rw [hb]
    exact zip_at (List.nodup_cons.mp nd).2 h1 h2
theorem lookup_rev : ∀ {l : List (Str × Value)} {x : Str}, (l.map (·.1)).Nodup → l.reverse.lookup x = l.lookup x
  | [], _, _ => rfl
  | (p, v) :: l, x, nd => by
    have nd' : p ∉ l.map (·.1) ∧ (l.map (·.1)).Nodup := List.nodup_cons.mp (show (p :: l.map (·.1)).Nodup from nd)
    have ih := lookup_rev (x := x) nd'.2
    rw [List.reverse_cons, List.lookup_append, ih]
    by_cases h : x = p
    · subst h
      have e : l.lookup x = none := by
        rw [List.lookup_eq_none_iff]
        intro y hy
        simp only [bne_iff_ne, ne_eq]
        intro z
        exact nd'.1 (z ▸ List.mem_map_of_mem hy)
      rw [e]
      simp
    · have hb : (x == p) = false := by simpa using h
      simp [List.lookup, hb]
theorem par_at {ps : List Str} {us : List Value} (nd : ps.Nodup) (hl : us.length = ps.length) {j : Nat} {x : Str} {u : Value} (h1 : ps[j]? = some x) (h2 : us[j]? = some u) : (ps.zip us).reverse.lookup x = some u := by
  rw [lookup_rev (by rw [List.map_fst_zip (by omega)]; exact nd)]
  exact zip_at nd h1 h2
section
variable {P : Program} {w : World} {C f cda cc : Addr} {mg : Str → Option Value} {K : Frag} {B i newId : String} {bmB : List Value} {msg : Expr} {scope : Scope} {qual : Str} {ar : Arg} {oc : Value} {od : Option Addr} {osl : Array (Option Value)} {p0 p1 p2 p3 p4 : Pos}
theorem errRun_mk {pl : Sem Bool} {name : Str} {params : Arguments} {dV kV doc pm ct : Value} {an : Option Addr} {body rest : List Stmt} {ps : List Str} {n : Nat} {ok : List L2.V → Prop} {f1 : Str} {v1 : L2.V} {l : List L2.V → List (Str × L2.V)} (T : EC K B i newId bmB C) (SF : StoreFacts B bmB "object.__setattr__" "object") (KF : KxsFacts B i) (FB : ExcBaseFacts B newId i bmB) (SP : SupF P K mg) (IC : IniC P K C cda cc)
    (hbody : body = .Expr (.Call (.Attribute (.Call (.Name "super" p0) [] [] p1) "__init__" p2) [msg] [] p3) p4 :: rest)
    (lk : K.lookup f = some ⟨oc, od, .func (ksFn name qual params body scope dV kV doc pm an (.ref cda) ct cc), osl⟩) (hcd : codeIn K (.ref cda) qual = true)
    (hbind : ∀ us : List Value, us.length = ps.length → bindArgs (ksFn name qual params body scope dV kV doc pm an (.ref cda) ct cc) ⟨us, []⟩ = pure (ps.zip us)) (hn : ps.length = n + 1) (nd : ps.Nodup)
    (hp : (params.posonlyargs ++ params.args).head? = some ar) (h0 : ps[0]? = some ar.arg) (hloc : ∀ y ∈ ps, scope.names.lookup y = some .local) (hcell : ∀ x ∈ scope.names, x.2 ≠ .cell) (hco : scope.isCoroutine = false) (hgen : scope.isGenerator = false)
    (hks : scope.names.lookup ("super" : Str) = some .globalImplicit) (hkc : scope.names.lookup ("__class__" : Str) = some .free) (hk : scope.kind = .function) (hd : (ar.arg == ("__debug__" : Str)) = false)
    (hm : ∀ (L : Addr) (m : Str → Option Value) (us : List Value) (vs : List L2.V), L2.Vals vs us → vs.length = n → ok vs → (∀ (j : Nat) (x : Str) (u : Value), ps[j + 1]? = some x → us[j]? = some u → m x = some u) → Says P w (ksEnv qual scope L f (.ref cda) cc) m msg)
    (hst : ∀ L, starEach [msg] (ksEnv qual scope L f (.ref cda) cc) = (false, eval msg (ksEnv qual scope L f (.ref cda) cc)) :: starEach [] (ksEnv qual scope L f (.ref cda) cc))
    (ht : ∀ L, eval (.Call (.Attribute (.Call (.Name "super" p0) [] [] p1) "__init__" p2) [msg] [] p3) (ksEnv qual scope L f (.ref cda) cc) = (do
      let ov ← attributeBase (.Call (.Name "super" p0) [] [] p1) "__init__" (ksEnv qual scope L f (.ref cda) cc) (eval (.Call (.Name "super" p0) [] [] p1) (ksEnv qual scope L f (.ref cda) cc))
      standAt p2.atName
      let (fm, first) ← holding [ov] (getMethod ov "__init__" pl)
      callWith p3 fm first (backTo p3 (starEach [msg] (ksEnv qual scope L f (.ref cda) cc))) []))
    (hsw : ∀ L, swapsWith (.Call (.Attribute (.Call (.Name "super" p0) [] [] p1) "__init__" p2) [msg] [] p3) none p4.line (ksEnv qual scope L f (.ref cda) cc) = pure false) (hi : ∀ L, interactive (ksEnv qual scope L f (.ref cda) cc) = false)
    (hS : ∀ (L : Addr) (m : Str → Option Value) (us : List Value) (vs : List L2.V), L2.Vals vs us → vs.length = n → ok vs → (∀ (j : Nat) (x : Str) (u : Value), ps[j + 1]? = some x → us[j]? = some u → m x = some u) → Sets K C P w (ksEnv qual scope L f (.ref cda) cc) m ar.arg rest ((f1, v1) :: l vs)) (hz : ∀ vs, (l vs).length ≤ 800) :
    ErrRun P w K mg C f n ok fun vs => (l vs).reverse ++ [(f1, v1)] := by
  intro A hp' g dr tk os us vs R X hg hb lim hA r hl hok hR
  obtain ⟨mb, hb1, hb2⟩ := hb
  have hlu : us.length = n := by rw [← r.length]; exact hl
  have hl2 : (Value.ref (hp'.objs.size + 1) :: us).length = ps.length := by rw [List.length_cons, hlu, hn]
  have kk : ∀ b o, hp'.get? b = some o → ((hp'.push (excTup us)).push (excObj C hp'.objs.size none .none)).get? b = some o := fun b o e => Heap.get?_push_of_some _ (Heap.get?_push_of_some _ e)
  have par : ∀ (j : Nat) (x : Str) (u : Value), ps[j + 1]? = some x → us[j]? = some u → (ps.zip (Value.ref (hp'.objs.size + 1) :: us)).reverse.lookup x = some u := fun j x u h1 h2 => par_at nd hl2 h1 (by simpa using h2)
  refine init_run (s := ⟨(hp'.push (excTup us)).push (excObj C hp'.objs.size none .none), g, dr, tk, os⟩) (h₀ := hp') (a := hp'.objs.size + 1) (t := hp'.objs.size) (binds := ps.zip (Value.ref (hp'.objs.size + 1) :: us)) T SF KF FB SP IC X hg hb1 hb2 hbody lk hcd hA (lim.keeps kk) kk ?_ (Heap.get?_none_of_le (Nat.le_succ _)) (by heap_get) (.of_eq (hbind _ hl2)) hp (par_at nd hl2 h0 rfl) (fun y hy => hloc _ (List.of_mem_zip hy).1) hcell hco hgen hks hkc (hloc _ (List.mem_of_getElem? h0)) hk hd (fun L => hm L _ us vs r hl hok par) hst ht hsw hi (fun L => hS L _ us vs r hl hok par) (hz vs) fun h' tk' t' dx mB k1 k2 k3 k4 k5 k6 => hR h' tk' t' dx mB k1 k2 k3 k4 k5 k6
  show hp'.objs.size ≤ _
  have : hp'.objs.size < ((hp'.push (excTup us)).push (excObj C hp'.objs.size none .none)).objs.size := Heap.lt_size (o := excTup us) (by heap_get)
  exact Nat.le_of_lt this
end
end ER
namespace L2
open PySem PySem.Spec PyProof.Rows
def tErr (C : Addr) (n : Nat) (ok : List V → Prop) (fl : List V → List (Str × V)) (ta : TA) : St → Hp → XK → Prop := fun σ H Q => ta σ H fun vs H1 => vs.length = n ∧ ok vs ∧ n ≤ 1000 ∧ ∀ dx, H1 dx = none → Q (.ref C) (some dx) (upd H1 dx (.xd (fl vs)))
section
variable {X : Cx} {e : Expr} {es : List Expr} {ta : TA} {p pos : Pos} {x : Str} {C : Addr} {n : Nat} {ok : List V → Prop} {fl : List V → List (Str × V)}
theorem err_end {pins : List (Addr × Obj)} {σ : St} {H1 : Hp} {Q : XK} {hp h' : Heap} {g : Array GenState} {dr : Drawn} {tk tk' : Nat} {os : OsState} {t' dx : Addr} {mB : Str → Option Value} {fs : List (Str × V)} (T : Raises X (.ref C)) (I1 : Inv X pins σ H1 ⟨hp, g, dr, tk, os⟩)
    (k : ∀ b o, hp.get? b = some o → h'.get? b = some o) (ha : h'.get? (hp.objs.size + 1) = some (PySem.W.excObj C t' (some dx) .none)) (hn : h'.Ns1 dx mB) (r : ∀ f, RelO (fs.lookup f) (mB f)) (hdx : hp.objs.size ≤ dx) (hne : hp.objs.size + 1 ≠ dx)
    (q : ∀ dx, H1 dx = none → Q (.ref C) (some dx) (upd H1 dx (.xd fs))) : MkP X pins σ Q (.ref (hp.objs.size + 1)) ⟨h', g, dr, tk', os⟩ := by
  obtain ⟨G, g1', g2'⟩ := restrict h' fun b => decide (b ≠ hp.objs.size + 1)
  have gk : ∀ b, b ≠ hp.objs.size + 1 → G.get? b = h'.get? b := fun b hb => g1' b (decide_eq_true hb)
  have ge : G.get? (hp.objs.size + 1) = none := g2' _ (by simp)
  have nn : ∀ b o, hp.get? b = some o → b ≠ hp.objs.size + 1 := fun b o e => Nat.ne_of_lt (Nat.lt_succ_of_lt (Heap.lt_size e))
  have h0 : H1 dx = none := I1.hok.fresh hdx
  have J : Inv X pins σ (upd H1 dx (.xd fs)) ⟨G, g, dr, tk', os⟩ := I1.laid (a := dx) (o := .xd fs) (h' := G) (t' := tk') (fun b u e => (gk b (nn b u e)).trans (k b u e)) hdx ⟨mB, hn.at fun o y => (gk dx hne.symm).trans y, r⟩
  refine ⟨_, _, _, ⟨G, g, dr, tk', os⟩, _, .ref C, some dx, rfl, J, fun b o z => ?_, ge, ha, ⟨rfl, rfl⟩, rfl, rfl, ?_, rfl, I1.bare, T, q dx h0⟩
  · by_cases hb : b = hp.objs.size + 1
    · rw [hb, ge] at z
      cases z
    · exact (gk b hb).symm.trans z
  · rw [upd_ne hne]
    exact I1.hok.fresh (Nat.le_succ _)
theorem err_call {pins : List (Addr × Obj)} {σ : St} {H1 : Hp} {s1 : Shared} {Q : XK} {us : List Value} {vs : List V} {k : Nat} (M : ER.MkX X.prog X.w X.K X.mg x C n ok fl) (hr : Room (k + 1) X.A) (I1 : Inv X pins σ H1 s1) (r1 : Vals vs us) (hl : vs.length = n) (hok : ok vs) (hz : n ≤ 1000) (q : ∀ dx, H1 dx = none → Q (.ref C) (some dx) (upd H1 dx (.xd (fl vs)))) :
    wpAny (model X.prog X.w) X.A (call (.ref C) us) (MkP X pins σ Q) X.xe s1 := by
  obtain ⟨B, i, newId, initId, bmB, f, T, FB, iC, tI, ER⟩ := M.ex
  have Xs := I1.kIn
  obtain ⟨nm, N', qn, bs, bm, hdct, sn, sub, ab, col, dd, k0, k1, k2, k3, k5, hC, hT⟩ := PySem.W.excInit_of Xs T.ini
  obtain ⟨oI, hoI, hcI⟩ : ∃ oI, s1.heap.get? f = some oI ∧ oI.cls = .type "function" := by
    obtain ⟨o, ho, hc⟩ := Option.map_eq_some_iff.mp (show (X.K.lookup f).map (·.cls) = some (.type "function") from beq_iff_eq.mp tI)
    exact ⟨o, Xs _ _ ho, hc⟩
  have blt : ∃ mb, s1.heap.Ns builtinsNs mb ∧ mb "super" = bootBuiltins "super" := by
    obtain ⟨mb, h1, h2⟩ := I1.mod.blt
    exact ⟨mb, h1.keeps I1.bk, h2 _ (by decide)⟩
  have us1 : us.length ≤ sizeLine := by
    rw [← r1.length, hl]
    exact Nat.le_trans hz (by decide)
  obtain ⟨hp, g, dr, tk, os⟩ := s1
  refine wpAny_call (PySem.HandSPX.call_own FB hT hC (PySem.W.looks_findIn Xs iC) (fun self => PySem.W.exc_bind hoI hcI self) us1 (ER _ hp g dr tk os us vs _ Xs (I1.mod.glob.keeps I1.bk) blt I1.nolimit (hr.make C us []).depth r1 hl hok fun h' tk' t' dx mB kk ha hn rr hdx hne => ?_))
  exact ⟨rfl, err_end (raises_own T.exC T.tyC) I1 kk ha hn rr hdx hne q⟩
theorem pmk_err {k : Nat} (M : ER.MkX X.prog X.w X.K X.mg x C n ok fl) (hr : Room (k + 1) X.A) (hk : PySem.W.keepIn X.K (.ref C) = true) (hg : Gl X x) (ha : PA X (e :: es) ta) (hdb : (x == ("__debug__" : Str)) = false := by decide) (he : starEach (e :: es) X.env = (false, eval e X.env) :: starEach es X.env := by rfl) (hpl : (backTo pos (starEach es X.env)).any (·.1) = false := by rfl) :
    PMk X (.Call (.Name x p) (e :: es) [] pos) (tErr C n ok fl ta) := by
  intro pins s σ H Q I h
  refine wpAny_Call_Name_kw (ld_glob I hg M.nm ?_ hdb)
  refine PySem.W.callWith_K (h₀ := X.base) I.ok.mod.kin hk (thn (ha.run pos pins s σ H _ I h) fun us s1 ⟨vs, H1, I1, r1, hl, hok, hz, q⟩ => ⟨I1.kIn, ?_⟩) he hpl
  exact err_call M hr I1 r1 hl hok hz q
end
end L2
namespace DL
variable [TbC]
open PySem PySem.Spec PyProof.Rows L2
/-- raise C(e, ..): okd what is asked of the values, mkd the fields -/
structure MakerX (P : Program) (w : World) (K : PySem.W.Frag) (mg : Str → Option Value) (x : Str) (C : Addr) (n : Nat) (okd : List D → Prop) (mkd : List D → List (Str × D)) : Prop where
  ex : ∃ (ok : List V → Prop) (fl : List V → List (Str × V)), ER.MkX P w K mg x C n ok fl ∧ PySem.W.keepIn K (.ref C) = true ∧ n ≤ 1000 ∧ ∀ (H : Hp) (ds : List D) (vs : List V), ds.length = n → Reps K H ds vs → okd ds → ok vs ∧ Repf K H (mkd ds) (fl vs)
def dRaise (C : Addr) (n : Nat) (okd : List D → Prop) (mkd : List D → List (Str × D)) (Ed : DX → Prop) (da : DA) (_ : DEnds) (ρ : Rho) : Prop := da ρ fun ds => ds.length = n ∧ okd ds ∧ Ed (C, mkd ds)
section
variable {X : Cx} {Ed : DX → Prop} {E : XK} {pos p2 p : Pos} {e : Expr} {es : List Expr} {tal : TA} {dal : DA} {x : Str} {C : Addr} {n k : Nat} {okd : List D → Prop} {mkd : List D → List (Str × D)}
def tRaise (P : Program) (w : World) (K : PySem.W.Frag) (mg : Str → Option Value) (x : Str) (C : Addr) (n : Nat) (E : XK) (ta : TA) : TS := fun _ σ H => ∃ (ok : List V → Prop) (fl : List V → List (Str × V)), ER.MkX P w K mg x C n ok fl ∧ tErr C n ok fl ta σ H fun c d H' => E c d H'
theorem st_raise (M : MakerX X.prog X.w X.K X.mg x C n okd mkd) (hr : Room (k + 1) X.A) (hc : X.calm = true) (tk : Takes X fun c d _ H => E c d H) (ha : JA X Ed E (e :: es) tal dal) (hg : Gl X x := by rfl) (hdb : (x == ("__debug__" : Str)) = false := by decide) (he : starEach (e :: es) X.env = (false, eval e X.env) :: starEach es X.env := by rfl)
    (hpl : (backTo pos (starEach es X.env)).any (·.1) = false := by rfl) : JS X Ed E (.Raise (some (.Call (.Name x p) (e :: es) [] pos)) none p2) (tRaise X.prog X.w X.K X.mg x C n E tal) (dRaise C n okd mkd Ed dal) := by
  obtain ⟨ok, fl, M, hk, hz, hm⟩ := M.ex
  refine ⟨⟨fun pins s σ H D I ⟨ok, fl, M, h⟩ => (ps_raise hc tk (pmk_err M hr hk hg ha.pe hdb he hpl)).run pins s σ H D I h⟩, fun B0 B1 A H0 H σ ρ R X d D r h => ⟨ok, fl, M, ha.sim B0 B1 A H0 H σ ρ R X _ h _ fun ds vs H1 H2 R1 g1 r1 ⟨hl, hok, q⟩ => ?_⟩⟩
  obtain ⟨h1, h2⟩ := hm H1 ds vs hl r1 hok
  refine ⟨by rw [r1.length, hl], h1, hz, fun dx hdx => X.ex C (mkd ds) (fl vs) dx H1 _ (R1.gr.trans ⟨.refl _, (same_upd hdx).ext, same_updR R1.ex (R1.ex.free hdx), fun _ _ => rfl, fun t => td_newB t hdx⟩) upd_same h2 q⟩
end
end DL
namespace ER
open PySem PySem.W PySem.Calls PyProof.Rows L2
section
variable {B : Heap} {l : List Env} {a : Addr} {Z : Obj → Prop} {h : Heap} {o : Obj}
theorem up_push : h.UpToSlots (h.push o) := fun _ u e _ => ⟨u.slots, Heap.get?_push_of_some _ e⟩
theorem fly_push (x : HandSPX.FlyingZ B l a Z h) : HandSPX.FlyingZ B l a Z (h.push o) := by
  obtain ⟨x1, x2, x3, oe, vs, T, oT, ts, y1, y2, y3, y4, y5, y6, y7, y8, y9⟩ := x
  exact ⟨fun b u e => Heap.get?_push_of_some _ (x1 b u e), x2, x3.of_keeps fun b u e _ => ⟨u, Heap.get?_push_of_some _ e, rfl⟩, oe, vs, T, oT, ts, Heap.get?_push_of_some _ y1, y2, y3, y4, y5, y6, Heap.get?_push_of_some _ y7, y8, y9⟩
end
/-- what the clause wishes of an exception of the body: it is one of the two; slot i is its name's -/
def wWhy (K : Frag) (c1 c2 : Value) (i : Nat) (ts : Addr → Value → Option Addr → TS) (D : Ends) : WX := fun cls d σ H => exmAny K cls [c1, c2] = some true ∧ ∀ a, H a = none →
  ts a cls d { nx := fun σ' H' => D.nx (σ'.set i none) H', rt := D.rt, bk := fun σ' H' => D.bk (σ'.set i none) H', ct := fun σ' H' => D.ct (σ'.set i none) H' } (σ.set i (some (.ref a))) H
section
variable {X : Cx} {x1 x2 n : Str} {c1 c2 : Value} {i kk : Nat} {body suite : List Stmt} {b₀ : Stmt} {q1 q2 tp pos pos' : Pos} {tb : WX → TS} {ts : Addr → Value → Option Addr → TS}
theorem names_at {pins : List (Addr × Obj)} {σ : L2.St} {H : Hp} {s : Shared} {x : Str} {c : Value} {q : Pos} {Q : Value → Shared → Prop} {E : Value → Shared → Prop} (I : Inv X pins σ H s) (hc : Names X x c) (h : Q c s) : wpAny (model X.prog X.w) X.A (eval (.Name x q) X.env) Q E s := by
  obtain ⟨hg, hd, hm | ⟨hm, hv, hn⟩⟩ := hc
  · exact ld_glob I hg hm h hd
  · exact ld_blt I hg hm hv h hn hd
theorem ps_try_why (hs : X.stack = X.env :: X.outer) (hf : X.env.frame = some X.env.locals) (hN : X.N.Nodup) (hi : X.N[i]? = some n) (hln : X.env.kindOf n = some .local) (hc1 : Names X x1 c1) (hc2 : Names X x2 c2) (hst : backTo tp (starEach [.Name x1 q1, .Name x2 q2] X.env) = (false, eval (.Name x1 q1) X.env) :: backTo tp (starEach [.Name x2 q2] X.env)) (hst2 : starEach [.Name x2 q2] X.env = [(false, eval (.Name x2 q2) X.env)])
    (hb : ∀ (W : WX) (pn : List (Addr × Obj)) (xe : Value → Shared → Prop), Takes (X.tr pn xe) W → PassesOwn (model X.prog X.w) X.A X.env xe → PSs (X.tr pn xe) body (tb W))
    (hsu : ∀ (a : Addr) (oe : Obj) (cls : Value) (d : Option Addr) (pn : List (Addr × Obj)), Zc cls d oe → (∃ vs, oe.data = .fields vs) → PSs (X.suite a ((a, oe) :: pn)) (b₀ :: suite) (ts a cls d)) :
    PS X (.Try body [.ExceptHandler (some (.Tuple [.Name x1 q1, .Name x2 q2] kk tp)) (some n) (b₀ :: suite) pos'] [] [] pos) (fun D σ H => tb (wWhy X.K c1 c2 i ts D) D σ H) := by
  refine ⟨fun pins s σ H D I h => ?_⟩
  have ok := I.ok
  have hfr : X.A.frames = some (X.env :: X.outer) := by rw [ok.frames, hs]
  refine wpAny_Try_except (wpAny_mono ((hb (wWhy X.K c1 c2 i ts D) (X.pn ++ pins) (fun e u1 => wpAny (model X.prog X.w) X.A (noteFrame e X.env) (fun _ u2 => wpAny (model X.prog X.w) X.A (setFlight e none) (fun _ u3 =>
    wpAny (model X.prog X.w) X.A (handleBy e X.env [.ExceptHandler (some (.Tuple [.Name x1 q1, .Name x2 q2] kk tp)) (some n) (b₀ :: suite) pos']) (SP X pins D) X.xe u3) X.xe u2) X.xe u1) (fun u s' xx => ?_) PassesOwn.looking).run [] s σ H D (I.toTry _) h) (fun f s1 hsp => ?_) fun e s1 he => he)
  · obtain ⟨a, Bg, sI, pins', σ', H', cls, d, rfl, J', nb, up, sky, na, os, ag, hm, hyes⟩ := xx
    have J : Inv X pins σ' H' sI := J'.ofTry ok
    have sky1 : Sky Bg (X.env :: X.outer) a (Zc cls d) X.env.locals s'.heap := by rw [← hs]; exact sky
    refine Sky.land Zc.steady hfr hf sky1 fun hA flA upA => ?_
    have JA := J.landed (s' := { s' with heap := hA }) nb flA.1 (up.trans upA) os ag
    obtain ⟨oA, vA, gA, zA, dA⟩ := flA.there
    have far : ∀ {hh : Heap} {oo : Obj} {vv : Array Value}, hh.FunFrames Bg (X.env :: X.outer) → hh.get? a = some oo → oo.data = .fields vv → a ∉ frs (X.env :: X.outer) := fun {hh oo vv} ff e dd hmem => by
      obtain ⟨_, o2, e2, hno⟩ := ff.mem hmem
      rw [e] at e2
      cases e2
      exact hno _ dd
    have nfr := far flA.2.2.1 gA dA
    have nL : a ≠ X.env.locals := fun z => nfr (List.mem_filterMap.mpr ⟨X.env, List.mem_cons_self, by rw [hf, z]⟩)
    have nF : a ∉ X.fs := fun hmem => by
      obtain ⟨e, he, q⟩ := List.mem_filterMap.mp hmem
      exact nfr (List.mem_filterMap.mpr ⟨e, List.mem_cons_of_mem _ he, q⟩)
    have SA := JA.suite gA dA na nL nF
    refine wpAny_handleBy_cons (codeAny_handlers_test ?_) (by intro q; cases q)
    refine wpAny_Tuple_spliced ?_
    rw [hst, hst2]
    refine Calls.spliced_cons (names_at (X := X.suite a ((a, oA) :: (X.pn ++ pins))) SA hc1 ?_)
    refine Calls.spliced_cons (names_at (X := X.suite a ((a, oA) :: (X.pn ++ pins))) SA hc2 ?_)
    refine Calls.spliced_nil ⟨by show 2 ≤ sizeLine; decide, ?_⟩
    have flB := fly_push (o := ({ cls := .type "tuple", data := .seq [c1, c2].toArray } : Obj)) flA
    have upB : hA.UpToSlots (hA.push ({ cls := .type "tuple", data := .seq [c1, c2].toArray } : Obj)) := up_push
    have JB := J.landed (s' := { s' with heap := hA.push ({ cls := .type "tuple", data := .seq [c1, c2].toArray } : Obj) }) nb flB.1 ((up.trans upA).trans upB) os ag
    obtain ⟨oB, vB, gB, zB, dB⟩ := flB.there
    have LT : Looks (model X.prog X.w) (hA.push ({ cls := .type "tuple", data := .seq [c1, c2].toArray } : Obj)) (typeOf (.ref a)) cls := fun A Q E s k q => wpAny_typeOf_ref (k _ _ gB) (by rw [zB.1]; exact q)
    refine (exm_tup2 (M := model X.prog X.w) JB.kIn LT (Heap.get?_push_size _ rfl) hm).here ?_
    refine codeAny_handlers_suite_as ?_
    refine HandSPX.lands_againZ flB fun hC flC upC => ?_
    have JC := J.landed (s' := { s' with heap := hC }) nb flC.1 (((up.trans upA).trans upB).trans upC) os ag
    obtain ⟨oC, vC, gC, zC, dC⟩ := flC.there
    have SC := JC.suite gC dC na nL nF
    refine store_ok (X := X.suite a ((a, oC) :: (X.pn ++ pins))) (v := .ref a) SC hN hi (.inl hln) rfl (fun sD SD => ?_) (.inr hln)
    refine wpAny_mono ((hsu a oC cls d (X.pn ++ pins) zC ⟨_, dC⟩).run [] sD _ H' _ SD (hyes a na)) (fun f sE hsp => ?_) (fun _ _ z => False.elim z)
    have over : ∀ {σE : L2.St} {HE : Hp} {Q : Shared → Prop}, Inv (X.suite a ((a, oC) :: (X.pn ++ pins))) [] σE HE sE → (∀ sF, Inv X pins (σE.set i none) HE sF → Q sF) →
        wpAny (model X.prog X.w) X.A (do bindName X.env n .none; unbindBehindTheSuite X.env n pos') (fun _ sF => Q sF) X.xe sE := fun {σE HE Q} SE hq => gone_ok (SE.unsuite ok) hN hi hln hq
    cases f with
    | next =>
      obtain ⟨σE, HE, SE, qE⟩ := hsp
      exact over SE fun sF JF => ⟨_, _, JF, qE⟩
    | brk =>
      obtain ⟨σE, HE, SE, qE⟩ := hsp
      exact over SE fun sF JF => ⟨_, _, JF, qE⟩
    | cont =>
      obtain ⟨σE, HE, SE, qE⟩ := hsp
      exact over SE fun sF JF => ⟨_, _, JF, qE⟩
    | ret u =>
      obtain ⟨vE, σE, HE, SE, rE, qE⟩ := hsp
      exact over SE fun sF JF => ⟨_, _, _, JF, rE, qE⟩
  · cases f with
    | next =>
      obtain ⟨σ2, H2, J2, qq⟩ := hsp
      exact wpAny_execs_nil ⟨σ2, H2, J2.ofTry ok, qq⟩
    | brk =>
      obtain ⟨σ2, H2, J2, qq⟩ := hsp
      exact ⟨σ2, H2, J2.ofTry ok, qq⟩
    | cont =>
      obtain ⟨σ2, H2, J2, qq⟩ := hsp
      exact ⟨σ2, H2, J2.ofTry ok, qq⟩
    | ret u =>
      obtain ⟨v2, σ2, H2, J2, r2, qq⟩ := hsp
      exact ⟨v2, σ2, H2, J2.ofTry ok, r2, qq⟩
end
end ER
namespace ER
open PySem PySem.Calls PyProof.Rows L2 L2H
theorem same_up {H : Hp} {p : Addr} {o : HO} (h : H p = none) : Same H (upd H p o) := fun b x e => by
  rw [upd_ne (ne_of_none e h)]
  exact e
abbrev St := L2.St
/-- a def called in an except suite, with the pinned error p -/
theorem run_hot {P : Program} {w : World} {K : PySem.W.Frag} {mg : Str → Option Value} {base : Heap} {k : Nat} {f : Addr} {name qual : Str} {params : Arguments} {body : List Stmt} {scope : Scope} {dV kV doc pm cdv ct oc : Value} {an od : Option Addr}
    {osl : Array (Option Value)} {N ps : List Str} (lk : K.lookup f = some ⟨oc, od, .func (PySem.W.fnOf name qual params body scope dV kV doc pm an cdv ct), osl⟩) (hcd : PySem.W.codeIn K cdv qual = true) (S : FnScope N ps scope)
    {A : Around} {outer : List Env} {s : Shared} {H : Hp} {us : List Value} {vs : List V} {Q : VK} {p : Addr × Obj} (hr : RoomH (k + 1) A) (hpin : PinOk outer H s p) (e0 : Env0 P w K mg base A outer s H) (hb : BindsTo s (PySem.W.fnOf name qual params body scope dV kV doc pm an cdv ct) ⟨us, []⟩ (ps.zip us)) (r : Vals vs us) (hl : vs.length = ps.length)
    (hbody : RoomH k (A.deeper (envOfC qual scope s.heap.objs.size f cdv)) → ∃ t, PSs (cxH C8.CX0 P w K mg base N qual scope f cdv A outer s H C8.E0 p) body t ∧ t { nx := fun _ H' => Q .non H', rt := Q } (L2.start N vs) H) :
    codeAny (model P w) A (.call (.ref f) ⟨us, []⟩) (CR C8.CX0 outer P w H s Q C8.E0) s := by
  have KX : K.In s.heap := e0.mod.kin.keeps fun b o e => (e0.bs b o e).1
  have lim : s.heap.NoLimit := e0.mod.nolimit.keeps fun b o e => (e0.bs b o e).1
  refine codeAny_call_function hr.depth (KX _ _ lk) rfl S.co S.gen rfl (PySem.W.codeRec_of KX hcd) (hb _ _ _ _ ?_)
  refine wpAny_newFunctionEnv_cells S.kind (fun ⟨n, v⟩ hy => (S.par n (List.of_mem_zip hy).1).elim .inl fun q => .inr ⟨q, PySem.W.cellsFrom_some _ _ _ (.inl q)⟩) fun env he s1 x => ?_
  subst he
  refine ⟨lim.keeps x.toInCall.keep, codeAny_func ?_⟩
  obtain ⟨t, ht, hq⟩ := hbody (hr.deeper _)
  have I : Inv (cxH C8.CX0 P w K mg base N qual scope f cdv A outer s H C8.E0 p) [] (L2.start N vs) H s1 := inv_startH S hpin e0 hl r x
  refine wpAny_mono (ht.run [] s1 (L2.start N vs) H _ I hq) (fun fl s' hs => ?_) fun e s' hs => hs
  cases fl with
  | ret u =>
    obtain ⟨v, σ', H', J, rv, q⟩ := hs
    exact ⟨v, H', J.os, J.bare, J.base, J.hok, rv, q⟩
  | next =>
    obtain ⟨σ', H', J, q⟩ := hs
    exact ⟨V.non, H', J.os, J.bare, J.base, J.hok, rfl, q⟩
  | brk =>
    obtain ⟨_, _, _, q⟩ := hs
    exact q.elim
  | cont =>
    obtain ⟨_, _, _, q⟩ := hs
    exact q.elim
/-- what a def makes of the error that it gets: cls its class, d its dict -/
abbrev LR := Value → Option Addr → Hp → VK → Prop
structure HotF (P : Program) (w : World) (K : PySem.W.Frag) (mg : Str → Option Value) (base : Heap) (x : Str) (k : Nat) (lr : LR) : Prop where
  ex : ∃ f : Addr, mg x = some (.ref f) ∧ PySem.W.keepIn K (.ref f) = true ∧ ∀ (A : Around) (outer : List Env) (s : Shared) (H : Hp) (Q : VK) (p : Addr × Obj) (cls : Value) (d : Option Addr), RoomH k A → PinOk outer H s p → Env0 P w K mg base A outer s H → Zc cls d p.2 → (∃ vs, p.2.data = .fields vs) → lr cls d H Q →
    codeAny (model P w) A (.call (.ref f) ⟨[.ref p.1], []⟩) (CR C8.CX0 outer P w H s Q C8.E0) s
section
variable {X : Cx} {k : Nat} {x y n : Str} {lr : LR} {p : Addr × Obj} {cls : Value} {d : Option Addr} {q q2 pos : Pos} {i : Nat} {e : Expr} {te : TE} {C : Addr}
theorem pe_hot (F : HotF X.prog X.w X.K X.mg X.base x k lr) (hr : RoomH k X.A) (hp : p ∈ X.pn) (hz : Zc cls d p.2) (hf : ∃ vs, p.2.data = .fields vs) (hg : Gl X x) (hN : X.N[i]? = some y) (hv : Vis X.env.scope y) (hdb : (x == ("__debug__" : Str)) = false := by decide) (hd : (y == ("__debug__" : Str)) = false := by decide) (hcd : (y == ("__classdict__" : Str)) = false := by decide)
    (he : starEach [.Name y q2] X.env = (false, eval (.Name y q2) X.env) :: starEach [] X.env := by rfl) (hpl : (backTo pos (starEach [] X.env)).any (·.1) = false := by rfl) :
    PE X (.Call (.Name x q) [.Name y q2] [] pos) (fun σ H Q => σ[i]? = some (some (.ref p.1)) ∧ lr cls d H Q) := by
  obtain ⟨f, hm, hk, run⟩ := F.ex
  refine ⟨fun pins s σ H Q I h => ?_⟩
  refine wpAny_Call_Name_kw (ld_glob I hg hm ?_ hdb)
  refine PySem.W.callWith_K (h₀ := X.base) I.ok.mod.kin hk (thn ((pa_cons (pe_var (pos := q2) (i := i) hN hv hd hcd) pa_nil he).run pos pins s σ H (fun vs H1 => vs = [.ref p.1] ∧ H1 = H) I ⟨.ref p.1, h.1, rfl, rfl⟩) fun us s1 ⟨vs, H1, I1, r1, e1, e2⟩ => ⟨I1.kIn, ?_⟩) he hpl
  subst e1 e2
  obtain ⟨u, rfl, ra⟩ : ∃ u, us = [u] ∧ RelV (.ref p.1) u := by
    cases r1 with
    | cons ra rb =>
      cases rb
      exact ⟨_, rfl, ra⟩
  obtain rfl : u = Value.ref p.1 := ra
  have P1 := I1.pin p (List.mem_append_left _ hp)
  refine wpAny_call (codeAny_mono (run X.A X.stack s1 H1 Q p cls d hr ⟨P1.1, P1.2.1, fun hm => (List.mem_cons.mp (I1.stkSub p.1 hm)).elim P1.2.2.1 P1.2.2.2.1, P1.2.2.2.2⟩ I1.env0 hz hf h.2) fun r s' hq => ?_)
  cases r with
  | error e => exact (show False from hq).elim
  | ok fl =>
    cases fl with
    | ret u => exact I1.after hq
    | next => exact False.elim hq
    | brk => exact False.elim hq
    | cont => exact False.elim hq
/-- a field of the pinned error -/
theorem pe_xfp (hp : p ∈ X.pn) (T : XfC X.K C) (hno : PySem.W.findIn X.K (.ref C) n = some none) (hz : Zc (.ref C) d p.2) (hf : ∃ vs, p.2.data = .fields vs) (he : PE X e te) (hb : attributeBase e n X.env (eval e X.env) = eval e X.env := by rfl) : PE X (.Attribute e n pos) (tXf p.1 (.ref C) d C n te) := by
  refine ⟨fun pins s σ H Q I h => attr_of hb (thn (he.run pins s σ H _ I h) fun u s1 hh => ?_)⟩
  obtain ⟨z, H1, I1, rz, e1, _, dd, fs, v, e2, ea, l, q⟩ := hh
  subst e1 e2
  obtain rfl : u = Value.ref p.1 := rz
  obtain ⟨ha, _⟩ := I1.pin p (List.mem_append_left _ hp)
  obtain ⟨vs, hd⟩ := hf
  have hx : ObjOk X.prog X.w H1 s1.heap dd (.xd fs) := I1.hok dd _ ea
  obtain ⟨mA, hns, hr⟩ := hx
  obtain ⟨od, ho, hl⟩ := lookIn_ns hns
  obtain ⟨u, hu, ru⟩ := RelO.some_of (v := v) (o := mA n) (by rw [← l]; exact hr n)
  exact HandSPX.exc_get I1.kIn (ox := p.2) (od := some od) ⟨ha, hz.1, by unfold PySem.W.notCls; rw [hd] <;> rfl, by rw [hz.2]; exact ho⟩ T.ga T.gg T.exC (PySem.W.findObj_own T.hdC hno rfl (by rw [hl, hu])) (handed_of ru) ⟨v, H1, I1.tok _, ru, q⟩
end
/-- no field's name is the class's -/
def NoF (K : PySem.W.Frag) (C : Addr) (fs : List (Str × V)) : Prop := ∀ f v, fs.lookup f = some v → PySem.W.findIn K (.ref C) f = some none
def one (fs : List (Str × V)) (f : Str) (H : Hp) (Q : VK) : Prop := ∃ v, fs.lookup f = some v ∧ ∀ H1, Same H H1 → Q v H1
def OtherV (code : Str) (fs : List (Str × V)) (H : Hp) (Q : VK) : Prop :=
  if code = "InvalidDrawing" then one fs ("name" : Str) H Q else if code = "NothingLeft" then one fs ("deed" : Str) H Q else if code = "Unsuited" then (∀ H1, Same H H1 → Q .non H1) else one fs ("value" : Str) H Q
def FieldV (code : Str) (fs : List (Str × V)) (H : Hp) (Q : VK) : Prop :=
  if code = "TooLarge" then (∃ a b c, fs.lookup ("what" : Str) = some a ∧ fs.lookup ("value" : Str) = some b ∧ fs.lookup ("limit" : Str) = some c ∧ ∀ H1 p, Same H H1 → H1 p = none → Q (.ref p) (upd H1 p (.tup [a, b, c])))
  else if code = "InvalidFact" ∨ code = "UnknownRow" then one fs ("index" : Str) H Q
  else if code = "InvalidText" then (∃ a b, fs.lookup ("line" : Str) = some a ∧ fs.lookup ("reason" : Str) = some b ∧ ∀ H1 p, Same H H1 → H1 p = none → Q (.ref p) (upd H1 p (.tup [a, b])))
  else OtherV code fs H Q
def lrOf (K : PySem.W.Frag) (r : Str → List (Str × V) → Hp → VK → Prop) : LR := fun cls d H Q => ∃ (C dd : Addr) (fs : List (Str × V)) (code : Str), cls = .ref C ∧ d = some dd ∧ XfC K C ∧ NoF K C fs ∧ H dd = some (.xd fs) ∧ fs.lookup ("code" : Str) = some (.str code) ∧ r code fs H Q
section
variable {P : Program} {w : World} {K : PySem.W.Frag} {mg : Str → Option Value} {base : Heap} {X : Cx} {p : Addr × Obj} {C dd : Addr} {fs : List (Str × V)} {a : Str} {i : Nat}
/-- e.f, read -/
theorem xf_at {σ : St} {H : Hp} {Q : VK} {f : Str} {v : V} (h0 : σ[i]? = some (some (.ref p.1))) (hd : H dd = some (.xd fs)) (hl : fs.lookup f = some v) (q : Q v H) : tXf p.1 (.ref C) (some dd) C f (tVar i) σ H Q :=
  ⟨.ref p.1, h0, rfl, rfl, dd, fs, v, rfl, hd, hl, q⟩
theorem inV_two (x a b : Str) : inV (.str x) [.str a, .str b] = decide (x = a ∨ x = b) := by
  have e : ∀ y : Str, eqV (.str y) (.str x) = decide (x = y) := fun y => by
    by_cases h : x = y
    · subst h
      simp [eqV]
    · have h2 : ¬ y = x := fun z => h z.symm
      simp [eqV, h, h2]
  show (eqV (.str a) (.str x) || (eqV (.str b) (.str x) || false)) = _
  rw [e, e, Bool.or_false]
  by_cases h1 : x = a <;> by_cases h2 : x = b <;> simp [h1, h2]
theorem pe_nv {e : Expr} : PE X e fun _ _ _ => False := ⟨fun _ _ _ _ _ _ h => h.elim⟩
/-- e.code == c -/
theorem pt_code {code c : Str} {p1 p2 p3 p4 : Pos} {j : Nat} (hp : p ∈ X.pn) (T : XfC X.K C) (nf : NoF X.K C fs) (hz : Zc (.ref C) (some dd) p.2) (hf : ∃ vs, p.2.data = .fields vs) (hc : fs.lookup ("code" : Str) = some (.str code)) (hN : X.N[i]? = some a) (hv : Vis X.env.scope a) (hd : (a == ("__debug__" : Str)) = false) (hcd : (a == ("__classdict__" : Str)) = false) :
    PT X (.Compare (.Attribute (.Name a p1) "code" p2) [.Eq] [.Constant (.str c) j p3] p4) (fun σ H Q => σ[i]? = some (some (.ref p.1)) ∧ H dd = some (.xd fs) ∧ Q (decide (code = c)) H) :=
  ⟨fun pins s σ H Q I h => by
    refine (pt_cmpR op_eq (pe_xfp hp T (nf _ _ hc) hz hf (pe_var (i := i) hN hv hd hcd)) pe_str (nomark _)).run pins s σ H Q I ?_
    have e : decide (V.str code = V.str c) = decide (code = c) := by rw [Bool.eq_iff_iff]; simp
    exact xf_at (Q := fun x H1 => tC (.str c) σ H1 fun y H2 => rEq x y H2 fun x H' => ∃ k, x = .bl k ∧ Q k H') h.1 h.2.1 hc ⟨rfl, _, rfl, by rw [e]; exact h.2.2⟩⟩
/-- e.code in (c1, c2) -/
theorem pt_codeIn {code k1 k2 : Str} {p1 p2 p3 p4 p5 p6 : Pos} {j1 j2 kk : Nat} (hp : p ∈ X.pn) (T : XfC X.K C) (nf : NoF X.K C fs) (hz : Zc (.ref C) (some dd) p.2) (hf : ∃ vs, p.2.data = .fields vs) (hc : fs.lookup ("code" : Str) = some (.str code)) (hN : X.N[i]? = some a) (hv : Vis X.env.scope a) (hd : (a == ("__debug__" : Str)) = false) (hcd : (a == ("__classdict__" : Str)) = false)
    (h1 : starEach [.Constant (.str k1) j1 p3, .Constant (.str k2) j2 p4] X.env = (false, eval (.Constant (.str k1) j1 p3) X.env) :: starEach [.Constant (.str k2) j2 p4] X.env) (h2 : starEach [.Constant (.str k2) j2 p4] X.env = (false, eval (.Constant (.str k2) j2 p4) X.env) :: starEach [] X.env)
    (hm : behindInMarks .In (.Tuple [.Constant (.str k1) j1 p3, .Constant (.str k2) j2 p4] kk p5) = false) :
    PT X (.Compare (.Attribute (.Name a p1) "code" p2) [.In] [.Tuple [.Constant (.str k1) j1 p3, .Constant (.str k2) j2 p4] kk p5] p6) (fun σ H Q => σ[i]? = some (some (.ref p.1)) ∧ H dd = some (.xd fs) ∧ ∀ H1, Same H H1 → Q (decide (code = k1 ∨ code = k2)) H1) :=
  ⟨fun pins s σ H Q I h => by
    refine (pt_cmpR op_in_seq (pe_xfp hp T (nf _ _ hc) hz hf (pe_var (i := i) hN hv hd hcd)) (pe_tup (pa_cons pe_str (pa_cons pe_str pa_nil h2) h1)) hm).run pins s σ H Q I ?_
    refine xf_at (Q := fun x H1 => tTup (tCons (tC (.str k1)) (tCons (tC (.str k2)) tNil)) σ H1 fun y H2 => rIn X.K false x y H2 fun x H' => ∃ k, x = .bl k ∧ Q k H') h.1 h.2.1 hc ?_
    refine ⟨by show 2 ≤ sizeLine; decide, fun t ht => ⟨t, [.str k1, .str k2], rfl, .inr (.inl (.inl upd_same)), rfl, rfl, _, rfl, ?_⟩⟩
    show Q (inV (.str code) [.str k1, .str k2]) _
    rw [inV_two]
    exact h.2.2 _ (same_up ht)⟩
theorem other_ok {k : Nat} {g0 : Addr} {cdv oc kV dV doc pm ct : Value} {an od : Option Addr} {osl : Array (Option Value)} {params : Arguments} {scope : Scope} {N : List Str} {nm qn : Str} {p1 p2 p3 p4 p5 p6 p7 p8 q1 q2 q3 q4 q5 q6 q7 q8 r1 r2 r3 r4 r5 r6 r7 r8 r9 : Pos} {j1 j2 j3 j4 : Nat}
    (lk : K.lookup g0 = some ⟨oc, od, .func (PySem.W.fnOf nm qn params
      [.If (.Compare (.Attribute (.Name a p1) "code" p2) [.Eq] [.Constant (.str "InvalidDrawing") j1 p3] p4) [.Return (some (.Attribute (.Name a p5) "name" p6)) p7] [] p8,
       .If (.Compare (.Attribute (.Name a q1) "code" q2) [.Eq] [.Constant (.str "NothingLeft") j2 q3] q4) [.Return (some (.Attribute (.Name a q5) "deed" q6)) q7] [] q8,
       .Return (some (.IfExp (.Compare (.Attribute (.Name a r1) "code" r2) [.Eq] [.Constant (.str "Unsuited") j3 r3] r4) (.Constant .none j4 r5) (.Attribute (.Name a r6) "value" r7) r8)) r9]
      scope dV kV doc pm an cdv ct), osl⟩) (hm : mg "_law_other_field" = some (.ref g0)) (hk : PySem.W.keepIn K (.ref g0) = true) (hcd : PySem.W.codeIn K cdv qn = true) (S : FnScope N [a] scope) (hN : N[0]? = some a) (hv : Vis scope a)
    (hb : ∀ (s : Shared) (v : Value), BindsTo s (PySem.W.fnOf nm qn params
      [.If (.Compare (.Attribute (.Name a p1) "code" p2) [.Eq] [.Constant (.str "InvalidDrawing") j1 p3] p4) [.Return (some (.Attribute (.Name a p5) "name" p6)) p7] [] p8,
       .If (.Compare (.Attribute (.Name a q1) "code" q2) [.Eq] [.Constant (.str "NothingLeft") j2 q3] q4) [.Return (some (.Attribute (.Name a q5) "deed" q6)) q7] [] q8,
       .Return (some (.IfExp (.Compare (.Attribute (.Name a r1) "code" r2) [.Eq] [.Constant (.str "Unsuited") j3 r3] r4) (.Constant .none j4 r5) (.Attribute (.Name a r6) "value" r7) r8)) r9]
      scope dV kV doc pm an cdv ct) ⟨[v], []⟩ [(a, v)]) (hd : (a == ("__debug__" : Str)) = false) (hcd2 : (a == ("__classdict__" : Str)) = false) : HotF P w K mg base "_law_other_field" (k + 1) (lrOf K OtherV) := by
  refine ⟨g0, hm, hk, fun A outer s H Q p cls d hr hpin e0 hz hf h => ?_⟩
  obtain ⟨C, dd, fs, code, rfl, rfl, T, nf, hx, hc, h⟩ := h
  refine run_hot (N := N) (ps := [a]) (us := [.ref p.1]) (vs := [.ref p.1]) lk hcd S hr hpin e0 (hb s _) (.cons rfl .nil) rfl fun hr' => ?_
  have s0 : (L2.start N [V.ref p.1])[0]? = some (some (.ref p.1)) := DL.start_at rfl
  have xf : ∀ {f : Str} {v : V} {b1 b2 : Pos}, fs.lookup f = some v → PE (cxH C8.CX0 P w K mg base N qn scope g0 cdv A outer s H C8.E0 p) (.Attribute (.Name a b1) f b2) (tXf p.1 (.ref C) (some dd) C f (tVar 0)) := fun {f v b1 b2} hl => pe_xfp (List.mem_singleton.mpr rfl) T (nf _ _ hl) hz hf (pe_var (i := 0) hN hv hd hcd2)
  have ct : ∀ {c : Str} {b1 b2 b3 b4 : Pos} {j : Nat}, PT (cxH C8.CX0 P w K mg base N qn scope g0 cdv A outer s H C8.E0 p) (.Compare (.Attribute (.Name a b1) "code" b2) [.Eq] [.Constant (.str c) j b3] b4) (fun σ H Q => σ[0]? = some (some (.ref p.1)) ∧ H dd = some (.xd fs) ∧ Q (decide (code = c)) H) := fun {c b1 b2 b3 b4 j} => pt_code (List.mem_singleton.mpr rfl) T nf hz hf hc hN hv hd hcd2
  have rd : ∀ {f : Str} {v : V} {H1 : Hp}, fs.lookup f = some v → H1 dd = some (.xd fs) → Q v H1 → tXf p.1 (.ref C) (some dd) C f (tVar 0) (L2.start N [V.ref p.1]) H1 Q := fun {f v H1} hl hd q => xf_at s0 hd hl q
  unfold OtherV at h
  by_cases c1 : code = "InvalidDrawing"
  · rw [if_pos c1] at h
    obtain ⟨v, hl, q⟩ := h
    refine ⟨_, pss_cons (ps_if ct (pss_one (ps_ret (xf hl))) pss_nil) pss_never, s0, hx, ?_⟩
    rw [decide_eq_true c1]
    exact rd hl hx (q H (.refl _))
  · rw [if_neg c1] at h
    by_cases c2 : code = "NothingLeft"
    · rw [if_pos c2] at h
      obtain ⟨v, hl, q⟩ := h
      refine ⟨_, pss_cons (ps_if ct pss_never pss_nil) (pss_cons (ps_if ct (pss_one (ps_ret (xf hl))) pss_nil) pss_never), s0, hx, ?_⟩
      rw [decide_eq_false c1]
      refine ⟨s0, hx, ?_⟩
      rw [decide_eq_true c2]
      exact rd hl hx (q H (.refl _))
    · rw [if_neg c2] at h
      by_cases c3 : code = "Unsuited"
      · rw [if_pos c3] at h
        refine ⟨_, pss_cons (ps_if ct pss_never pss_nil) (pss_cons (ps_if ct pss_never pss_nil) (pss_one (ps_ret (pe_ifExp ct pe_non pe_nv)))), s0, hx, ?_⟩
        rw [decide_eq_false c1]
        refine ⟨s0, hx, ?_⟩
        rw [decide_eq_false c2]
        refine ⟨s0, hx, ?_⟩
        rw [decide_eq_true c3]
        exact h H (.refl _)
      · rw [if_neg c3] at h
        obtain ⟨v, hl, q⟩ := h
        refine ⟨_, pss_cons (ps_if ct pss_never pss_nil) (pss_cons (ps_if ct pss_never pss_nil) (pss_one (ps_ret (pe_ifExp ct pe_nv (xf hl))))), s0, hx, ?_⟩
        rw [decide_eq_false c1]
        refine ⟨s0, hx, ?_⟩
        rw [decide_eq_false c2]
        refine ⟨s0, hx, ?_⟩
        rw [decide_eq_false c3]
        exact rd hl hx (q H (.refl _))
theorem field_ok {k : Nat} {g0 : Addr} {cdv oc kV dV doc pm ct : Value} {an od : Option Addr} {osl : Array (Option Value)} {params : Arguments} {scope : Scope} {N : List Str} {nm qn : Str} {body : List Stmt} {p0 p1 p2 p3 p4 p5 p6 p7 p8 p9 t1 t2 t3 t4 t5 q1 q2 q3 q4 q5 q6 q7 q8 q9 r1 r2 r3 r4 r5 r6 r7 r8 r9 u1 u2 u3 u4 u5 : Pos} {j1 j2 j3 j4 k1 k2 k3 : Nat}
    (lk : K.lookup g0 = some ⟨oc, od, .func (PySem.W.fnOf nm qn params body scope dV kV doc pm an cdv ct), osl⟩)
    (hbd : body = [.If (.Compare (.Attribute (.Name a p1) "code" p2) [.Eq] [.Constant (.str "TooLarge") j1 p3] p4) [.Return (some (.Tuple [.Attribute (.Name a p5) "what" p6, .Attribute (.Name a t1) "value" t2, .Attribute (.Name a t3) "limit" t4] k1 t5)) p7] [] p8,
       .If (.Compare (.Attribute (.Name a q1) "code" q2) [.In] [.Tuple [.Constant (.str "InvalidFact") j2 q3, .Constant (.str "UnknownRow") j3 q4] k2 q5] q9) [.Return (some (.Attribute (.Name a q6) "index" q7)) q8] [] p9,
       .If (.Compare (.Attribute (.Name a r1) "code" r2) [.Eq] [.Constant (.str "InvalidText") j4 r3] r4) [.Return (some (.Tuple [.Attribute (.Name a r5) "line" r6, .Attribute (.Name a r7) "reason" r8] k3 r9)) u1] [] u2,
       .Return (some (.Call (.Name "_law_other_field" u3) [.Name a u4] [] u5)) p0])
    (FO : HotF P w K mg base "_law_other_field" k (lrOf K OtherV)) (hgo : scope.names.lookup ("_law_other_field" : Str) = some .globalImplicit)
    (hm : mg "_law_field" = some (.ref g0)) (hk : PySem.W.keepIn K (.ref g0) = true) (hcd : PySem.W.codeIn K cdv qn = true) (S : FnScope N [a] scope) (hN : N[0]? = some a) (hv : Vis scope a)
    (hst : ∀ (es : List Expr) (e : Expr) (env : Env), (e = .Attribute (.Name a p5) "what" p6 ∨ e = .Attribute (.Name a t1) "value" t2 ∨ e = .Attribute (.Name a t3) "limit" t4 ∨ e = .Attribute (.Name a r5) "line" r6 ∨ e = .Attribute (.Name a r7) "reason" r8 ∨ e = .Constant (.str "InvalidFact") j2 q3 ∨ e = .Constant (.str "UnknownRow") j3 q4) → starEach (e :: es) env = (false, eval e env) :: starEach es env)
    (hmk : behindInMarks .In (.Tuple [.Constant (.str "InvalidFact") j2 q3, .Constant (.str "UnknownRow") j3 q4] k2 q5) = false)
    (hb : ∀ (s : Shared) (v : Value), BindsTo s (PySem.W.fnOf nm qn params body scope dV kV doc pm an cdv ct) ⟨[v], []⟩ [(a, v)]) (hd : (a == ("__debug__" : Str)) = false) (hcd2 : (a == ("__classdict__" : Str)) = false) : HotF P w K mg base "_law_field" (k + 1) (lrOf K FieldV) := by
  subst hbd
  refine ⟨g0, hm, hk, fun A outer s H Q p cls d hr hpin e0 hz hf h => ?_⟩
  obtain ⟨C, dd, fs, code, rfl, rfl, T, nf, hx, hc, h⟩ := h
  refine run_hot (N := N) (ps := [a]) (us := [.ref p.1]) (vs := [.ref p.1]) lk hcd S hr hpin e0 (hb s _) (.cons rfl .nil) rfl fun hr' => ?_
  have s0 : (L2.start N [V.ref p.1])[0]? = some (some (.ref p.1)) := DL.start_at rfl
  have xf : ∀ {f : Str} {v : V} {b1 b2 : Pos}, fs.lookup f = some v → PE (cxH C8.CX0 P w K mg base N qn scope g0 cdv A outer s H C8.E0 p) (.Attribute (.Name a b1) f b2) (tXf p.1 (.ref C) (some dd) C f (tVar 0)) := fun {f v b1 b2} hl => pe_xfp (List.mem_singleton.mpr rfl) T (nf _ _ hl) hz hf (pe_var (i := 0) hN hv hd hcd2)
  have ct : ∀ {c : Str} {b1 b2 b3 b4 : Pos} {j : Nat}, PT (cxH C8.CX0 P w K mg base N qn scope g0 cdv A outer s H C8.E0 p) (.Compare (.Attribute (.Name a b1) "code" b2) [.Eq] [.Constant (.str c) j b3] b4) (fun σ H Q => σ[0]? = some (some (.ref p.1)) ∧ H dd = some (.xd fs) ∧ Q (decide (code = c)) H) := fun {c b1 b2 b3 b4 j} => pt_code (List.mem_singleton.mpr rfl) T nf hz hf hc hN hv hd hcd2
  have ci := pt_codeIn (X := cxH C8.CX0 P w K mg base N qn scope g0 cdv A outer s H C8.E0 p) (p1 := q1) (p2 := q2) (p6 := q9) (List.mem_singleton.mpr rfl) T nf hz hf hc hN hv hd hcd2 (hst _ _ _ (by simp)) (hst _ _ _ (by simp)) hmk
  have rd : ∀ {f : Str} {v : V} {H1 : Hp} {Q : VK}, fs.lookup f = some v → H1 dd = some (.xd fs) → Q v H1 → tXf p.1 (.ref C) (some dd) C f (tVar 0) (L2.start N [V.ref p.1]) H1 Q := fun {f v H1 Q} hl hd q => xf_at s0 hd hl q
  unfold FieldV at h
  by_cases c1 : code = "TooLarge"
  · rw [if_pos c1] at h
    obtain ⟨va, vb, vc, la, lb, lc, q⟩ := h
    refine ⟨_, pss_cons (ps_if ct (pss_one (ps_ret (pe_tup (pa_cons (xf la) (pa_cons (xf lb) (pa_cons (xf lc) pa_nil (hst _ _ _ (by simp))) (hst _ _ _ (by simp))) (hst _ _ _ (by simp)))))) pss_nil) pss_never, s0, hx, ?_⟩
    rw [decide_eq_true c1]
    exact rd (Q := fun x H1 => tXf p.1 (.ref C) (some dd) C "value" (tVar 0) (L2.start N [V.ref p.1]) H1 fun y H2 => tXf p.1 (.ref C) (some dd) C "limit" (tVar 0) (L2.start N [V.ref p.1]) H2 fun z H3 => [x, y, z].length ≤ sizeLine ∧ ∀ t, H3 t = none → Q (.ref t) (upd H3 t (.tup [x, y, z]))) la hx
      (rd (Q := fun y H2 => tXf p.1 (.ref C) (some dd) C "limit" (tVar 0) (L2.start N [V.ref p.1]) H2 fun z H3 => [va, y, z].length ≤ sizeLine ∧ ∀ t, H3 t = none → Q (.ref t) (upd H3 t (.tup [va, y, z]))) lb hx
        (rd (Q := fun z H3 => [va, vb, z].length ≤ sizeLine ∧ ∀ t, H3 t = none → Q (.ref t) (upd H3 t (.tup [va, vb, z]))) lc hx ⟨by show 3 ≤ sizeLine; decide, fun t ht => q H t (.refl _) ht⟩))
  · rw [if_neg c1] at h
    by_cases c2 : code = "InvalidFact" ∨ code = "UnknownRow"
    · rw [if_pos c2] at h
      obtain ⟨v, hl, q⟩ := h
      refine ⟨_, pss_cons (ps_if ct pss_never pss_nil) (pss_cons (ps_if ci (pss_one (ps_ret (xf hl))) pss_nil) pss_never), s0, hx, ?_⟩
      rw [decide_eq_false c1]
      refine ⟨s0, hx, fun H1 sm => ?_⟩
      rw [decide_eq_true c2]
      exact rd hl (sm _ _ hx) (q H1 sm)
    · rw [if_neg c2] at h
      by_cases c3 : code = "InvalidText"
      · rw [if_pos c3] at h
        obtain ⟨va, vb, la, lb, q⟩ := h
        refine ⟨_, pss_cons (ps_if ct pss_never pss_nil) (pss_cons (ps_if ci pss_never pss_nil) (pss_cons (ps_if ct (pss_one (ps_ret (pe_tup (pa_cons (xf la) (pa_cons (xf lb) pa_nil (hst _ _ _ (by simp))) (hst _ _ _ (by simp)))))) pss_nil) pss_never)), s0, hx, ?_⟩
        rw [decide_eq_false c1]
        refine ⟨s0, hx, fun H1 sm => ?_⟩
        rw [decide_eq_false c2]
        refine ⟨s0, sm _ _ hx, ?_⟩
        rw [decide_eq_true c3]
        exact rd (Q := fun x H2 => tXf p.1 (.ref C) (some dd) C "reason" (tVar 0) (L2.start N [V.ref p.1]) H2 fun y H3 => [x, y].length ≤ sizeLine ∧ ∀ t, H3 t = none → Q (.ref t) (upd H3 t (.tup [x, y]))) la (sm _ _ hx)
          (rd (Q := fun y H3 => [va, y].length ≤ sizeLine ∧ ∀ t, H3 t = none → Q (.ref t) (upd H3 t (.tup [va, y]))) lb (sm _ _ hx) ⟨by show 2 ≤ sizeLine; decide, fun t ht => q H1 t sm ht⟩)
      · rw [if_neg c3] at h
        refine ⟨_, pss_cons (ps_if ct pss_never pss_nil) (pss_cons (ps_if ci pss_never pss_nil) (pss_cons (ps_if ct pss_never pss_nil) (pss_one (ps_ret (pe_hot FO hr' (List.mem_singleton.mpr rfl) hz hf hgo hN hv (by decide) hd hcd2))))), s0, hx, ?_⟩
        rw [decide_eq_false c1]
        refine ⟨s0, hx, fun H1 sm => ?_⟩
        rw [decide_eq_false c2]
        refine ⟨s0, sm _ _ hx, ?_⟩
        rw [decide_eq_false c3]
        refine ⟨s0, C, dd, fs, code, rfl, rfl, T, nf, sm _ _ hx, hc, ?_⟩
        unfold OtherV one at h ⊢
        by_cases d1 : code = "InvalidDrawing"
        · rw [if_pos d1] at h ⊢
          obtain ⟨v, hl, q⟩ := h
          exact ⟨v, hl, fun H2 s2 => q H2 (sm.trans s2)⟩
        · rw [if_neg d1] at h ⊢
          by_cases d2 : code = "NothingLeft"
          · rw [if_pos d2] at h ⊢
            obtain ⟨v, hl, q⟩ := h
            exact ⟨v, hl, fun H2 s2 => q H2 (sm.trans s2)⟩
          · rw [if_neg d2] at h ⊢
            by_cases d3 : code = "Unsuited"
            · rw [if_pos d3] at h ⊢
              exact fun H2 s2 => h H2 (sm.trans s2)
            · rw [if_neg d3] at h ⊢
              obtain ⟨v, hl, q⟩ := h
              exact ⟨v, hl, fun H2 s2 => q H2 (sm.trans s2)⟩
end
end ER
namespace ER
open PySem PySem.Calls PyProof.Rows L2 L2H LamX
/-- what is wanted of an error that the lambda raises -/
def EWhy (K : PySem.W.Frag) (CE AB : Addr) (Q : VK) : XK := fun cls d H' => ∃ (C dd : Addr) (fs : List (Str × V)) (code : Str), cls = .ref C ∧ d = some dd ∧ XfC K C ∧ NoF K C fs ∧ H' dd = some (.xd fs) ∧ fs.lookup ("code" : Str) = some (.str code) ∧ PySem.W.exmAny K (.ref C) [.ref CE, .ref AB] = some true ∧
  FieldV code fs H' fun v H2 => ∀ t, H2 t = none → Q (.ref t) (upd H2 t (.tup [.str code, v]))
def TTwhy (K : PySem.W.Frag) (CE AB : Addr) : (XK → Hp → VK → Prop) → Hp → VK → Prop := fun tl H Q => tl (EWhy K CE AB Q) H fun v H' => [V.str "value", v].length ≤ sizeLine ∧ ∀ t, H' t = none → Q (.ref t) (upd H' t (.tup [.str "value", v]))
theorem FieldV.imp {code : Str} {fs : List (Str × V)} {H : Hp} {Q Q' : VK} (h : FieldV code fs H Q) (k : ∀ v H', Q v H' → Q' v H') : FieldV code fs H Q' := by
  unfold FieldV OtherV one at h ⊢
  split at h
  · obtain ⟨a, b, c, h1, h2, h3, h4⟩ := h
    rename_i z
    rw [if_pos z]
    exact ⟨a, b, c, h1, h2, h3, fun H1 p s n => k _ _ (h4 H1 p s n)⟩
  · rename_i z
    rw [if_neg z]
    split at h
    · rename_i z
      rw [if_pos z]
      obtain ⟨v, h1, h2⟩ := h
      exact ⟨v, h1, fun H1 s => k _ _ (h2 H1 s)⟩
    · rename_i z
      rw [if_neg z]
      split at h
      · obtain ⟨a, b, h1, h2, h4⟩ := h
        rename_i z
        rw [if_pos z]
        exact ⟨a, b, h1, h2, fun H1 p s n => k _ _ (h4 H1 p s n)⟩
      · rename_i z
        rw [if_neg z]
        split at h
        · rename_i z
          rw [if_pos z]
          obtain ⟨v, h1, h2⟩ := h
          exact ⟨v, h1, fun H1 s => k _ _ (h2 H1 s)⟩
        · rename_i z
          rw [if_neg z]
          split at h
          · rename_i z
            rw [if_pos z]
            obtain ⟨v, h1, h2⟩ := h
            exact ⟨v, h1, fun H1 s => k _ _ (h2 H1 s)⟩
          · rename_i z
            rw [if_neg z]
            split at h
            · rename_i z
              rw [if_pos z]
              exact fun H1 s => k _ _ (h H1 s)
            · rename_i z
              rw [if_neg z]
              obtain ⟨v, h1, h2⟩ := h
              exact ⟨v, h1, fun H1 s => k _ _ (h2 H1 s)⟩
theorem roomH_mark {k : Nat} {A : Around} {v : Option Value} (r : RoomH k A) : RoomH k (A.mark v) := ⟨r.dp, r.un⟩
section
variable {X : Cx}
theorem why_gives {Ng : List Str} {a e q : Str} {sg : Scope} {g CE AB : Addr} {cdg : Value} {k j k1 k2 k3 : Nat} {bg : List Stmt} {b1 b2 b3 p1 p2 q1 q2 tp r1 r2 r3 r4 r5 r6 r7 pos pos' : Pos}
    (hbg : bg = [.Try [.Return (some (.Tuple [.Constant (.str "value") j b1, .Call (.Name a p1) [] [] p2] k1 b2)) b3] [.ExceptHandler (some (.Tuple [.Name "CurveError" q1, .Name "Absent" q2] k2 tp)) (some e) [.Return (some (.Tuple [.Attribute (.Name e r1) "code" r2, .Call (.Name "_law_field" r3) [.Name e r4] [] r5] k3 r6)) r7] pos'] [] [] pos])
    (hce : sg.names.lookup ("CurveError" : Str) = some .globalImplicit) (hab : sg.names.lookup ("Absent" : Str) = some .globalImplicit) (hgf : sg.names.lookup ("_law_field" : Str) = some .globalImplicit) (mce : X.mg "CurveError" = some (.ref CE)) (mab : X.mg "Absent" = some (.ref AB)) (hN : Ng.Nodup) (he : Ng[1]? = some e) (hle : sg.names.lookup e = some .local)
    (FO : HotF X.prog X.w X.K X.mg X.base "_law_field" k (lrOf X.K FieldV)) (hr : Room (k + 1) X.A) (hed : (e == ("__debug__" : Str)) = false) (hec : (e == ("__classdict__" : Str)) = false)
    (s1 : ∀ env : Env, starEach [.Constant (.str "value") j b1, .Call (.Name a p1) [] [] p2] env = (false, eval (.Constant (.str "value") j b1) env) :: starEach [.Call (.Name a p1) [] [] p2] env) (s2 : ∀ env : Env, starEach [.Call (.Name a p1) [] [] p2] env = (false, eval (.Call (.Name a p1) [] [] p2) env) :: starEach [] env)
    (s3 : ∀ env : Env, starEach [.Attribute (.Name e r1) "code" r2, .Call (.Name "_law_field" r3) [.Name e r4] [] r5] env = (false, eval (.Attribute (.Name e r1) "code" r2) env) :: starEach [.Call (.Name "_law_field" r3) [.Name e r4] [] r5] env) (s4 : ∀ env : Env, starEach [.Call (.Name "_law_field" r3) [.Name e r4] [] r5] env = (false, eval (.Call (.Name "_law_field" r3) [.Name e r4] [] r5) env) :: starEach [] env)
    (s5 : ∀ env : Env, backTo tp (starEach [.Name "CurveError" q1, .Name "Absent" q2] env) = (false, eval (.Name "CurveError" q1) env) :: backTo tp (starEach [.Name "Absent" q2] env)) (s6 : ∀ env : Env, starEach [.Name "Absent" q2] env = [(false, eval (.Name "Absent" q2) env)]) :
    GivesTo X Ng "_law_why" sg g cdg bg a q (TTwhy X.K CE AB) := by
  subst hbg
  intro f c' s H Q tl act hc h
  have hr' : Room k (X.A.deeper (envOfC "_law_why" sg s.heap.objs.size g cdg)) := hr.deeper _
  refine ⟨_, pss_one (ps_try_why (X := (cxOf C8.CX0 X.prog X.w X.K X.mg X.base Ng "_law_why" sg g cdg X.A X.stack s H C8.E0).nox) (c1 := .ref CE) (c2 := .ref AB) (i := 1)
      (tb := fun W D σ H => ∃ Ech : XK, (∀ cls d σ' H', Ech cls d H' → W cls d σ' H') ∧ σ[0]? = some (some (.ref f)) ∧ H c' = some (CodeO c' q) ∧ tl Ech H fun v H' => [V.str "value", v].length ≤ sizeLine ∧ ∀ t, H' t = none → D.rt (.ref t) (upd H' t (.tup [.str "value", v])))
      (ts := fun a cls d D σ H => (∃ σ0 : St, σ = σ0.set 1 (some (.ref a))) ∧ lrOf X.K (fun code fs H Q => FieldV code fs H fun v H2 => ∀ t, H2 t = none → Q (.ref t) (upd H2 t (.tup [.str code, v]))) cls d H D.rt)
      rfl rfl hN he hle ⟨hce, by decide, .inl mce⟩ ⟨hab, by decide, .inl mab⟩ (s5 _) (s6 _) (fun W pn xe tk _ => ?_) (fun z oe cls d pn hz hf => ?_)), ?_⟩
  · refine ⟨fun pins s' σ H' D I h' => ?_⟩
    obtain ⟨Ech, hW, h1, h2, h3⟩ := h'
    have hp := act W pn xe Ech p1 p2 tk hW
    refine (pss_one (ps_ret (pos := b3) (pe_tup (x1 := k1) (pos := b2) (pa_cons (pe_str (x := "value") (j := j) (pos := b1)) (pa_cons hp pa_nil (s2 _)) (s1 _))))).run pins s' σ H' D I ?_
    exact ⟨h1, h2, h3⟩
  · refine ⟨fun pins s' σ H' D I h' => ?_⟩
    obtain ⟨⟨σ0, hσ⟩, C, dd, fs, code, rfl, rfl, T, nf, hx, hcd, hq⟩ := h'
    have hlen : 1 < Ng.length := (List.getElem?_eq_some_iff.mp he).1
    have e1 : σ[1]? = some (some (.ref z)) := by
      have := I.len
      rw [hσ, List.length_set] at this
      rw [hσ, List.getElem?_set_self (by rw [this]; exact hlen)]
    have hp : ((z, oe) : Addr × Obj) ∈ (z, oe) :: pn := List.mem_cons_self
    have pf := pe_xfp (X := (cxOf C8.CX0 X.prog X.w X.K X.mg X.base Ng "_law_why" sg g cdg X.A X.stack s H C8.E0).nox.suite z ((z, oe) :: pn)) (p := (z, oe)) (n := "code") (pos := r2) hp T (nf _ _ hcd) hz hf (pe_var (pos := r1) (i := 1) he (.inl hle) hed hec)
    have ph := pe_hot (X := (cxOf C8.CX0 X.prog X.w X.K X.mg X.base Ng "_law_why" sg g cdg X.A X.stack s H C8.E0).nox.suite z ((z, oe) :: pn)) (p := (z, oe)) (q := r3) (q2 := r4) (pos := r5) FO (roomH_mark (roomH_of hr')) hp hz hf hgf he (.inl hle) (by decide) hed hec
    refine (pss_one (ps_ret (pos := r7) (pe_tup (x1 := k3) (pos := r6) (pa_cons pf (pa_cons ph pa_nil (s4 _)) (s3 _))))).run pins s' σ H' D I ?_
    refine xf_at (p := (z, oe)) (Q := fun x H1 => σ[1]? = some (some (.ref z)) ∧ lrOf X.K FieldV (.ref C) (some dd) H1 fun y H2 => [x, y].length ≤ sizeLine ∧ ∀ t, H2 t = none → D.rt (.ref t) (upd H2 t (.tup [x, y]))) e1 hx hcd ⟨e1, C, dd, fs, code, rfl, rfl, T, nf, hx, hcd, hq.imp fun v H2 k => ⟨by show 2 ≤ sizeLine; decide, k⟩⟩
  · refine ⟨EWhy X.K CE AB Q, fun cls d σ' H' hE => ?_, DL.start_at rfl, hc, h⟩
    obtain ⟨C, dd, fs, code, rfl, rfl, T, nf, hx, hcd, hm, hq⟩ := hE
    exact ⟨hm, fun z _ => ⟨⟨σ', rfl⟩, C, dd, fs, code, rfl, rfl, T, nf, hx, hcd, hq⟩⟩
end
end ER
namespace ER
open PySem PySem.Calls PyProof.Rows L2 L2H LamX
section
variable {X : Cx} {pins : List (Addr × Obj)} {σ : L2.St} {H : Hp} {s : Shared}
theorem fresh_frs (I : Inv X pins σ H s) {f : Addr} (hf : s.heap.objs.size ≤ f) : f ∉ frs X.stack := fun z => by
  rcases List.mem_cons.mp (I.stkSub _ z) with e | e
  · have k := I.lt
    rw [← e] at k
    exact Nat.lt_irrefl _ (Nat.lt_of_lt_of_le k hf)
  · exact I.nofs hf e
abbrev lamO (X : Cx) (params : Arguments) (body : Expr) (scope : Scope) (pm : Value) (c' : Addr) (ctv : Value) : Obj := PySem.W.kla_obj "<lambda>" (X.env.qual ++ "<lambda>") params body scope (cloFrom X.env.cells scope.names []) pm c' ctv
theorem lam_tab {T : List (Addr × Str)} {c P : Addr} {params : Arguments} {body : Expr} {scope : Scope} {pos : Pos} {Er : Value → Shared → Prop} {Q : Value → Shared → Prop} (I : Inv X pins σ H s) (TB : TabB X.base X.mg c P) (hcode : X.env.code = .ref c)
    (hm : (P, X.env.qual ++ "<lambda>") ∈ T) (hu : ∀ p ∈ T, p.1 = P → p.2 = X.env.qual ++ "<lambda>") (hT : Tabs T H) (hdef : defaultsOf params X.env = ([], [])) (hfree : ∀ y ∈ scope.names, y.2 = .free → ∃ c, X.env.cells.lookup y.1 = some c)
    (k : ∀ (f c' : Addr) (pm ctv : Value) (H1 : Hp) (s' : Shared), Inv X pins σ H1 s' → DL.Ext H H1 → Tabs T H1 → s'.heap.get? f = some (lamO X params body scope pm c' ctv) → H1 f = none → f ∉ frs X.stack → H1 c' = some (CodeO c' (X.env.qual ++ "<lambda>")) → Q (.ref f) s') :
    wpAny (model X.prog X.w) X.A (eval (.Lambda params body scope pos) X.env) Q Er s := by
  obtain ⟨ps, e0, tr, am⟩ := hT _ hm
  have oP := I.hok P _ e0
  have gl := I.mod.glob.keeps I.bk
  have cd := TB.code.keeps I.bk
  have bt := TB.bm.keeps I.bk
  refine PySem.W.kla_eval hdef ?_
  cases q : codeAmong pos ps.toList with
  | some cv =>
    obtain ⟨c1, rfl, ec⟩ := am pos cv q
    refine PySem.W.kla_makeFunctionHit (mg := X.mg) (c := c) (P := P) (ps := ps) (closure_ok hfree) I.ok.glob gl hcode cd oP tr q bt fun ctv h' tk old sz => ?_
    exact k _ c1 _ ctv H _ (I.kept fun b o e => Heap.get?_push_of_some _ (old b o e)) (.refl H) hT (Heap.get?_push_size _ rfl) (I.hok.fresh sz) (fresh_frs I sz) ec
  | none =>
    refine PySem.W.kla_makeFunction (mg := X.mg) (c := c) (P := P) (ps := ps) (closure_ok hfree) I.ok.glob gl hcode cd oP tr q TB.gP bt fun c1 ctv h' tk old lo hi rec tab => ?_
    obtain ⟨c2, oc, vs, t, e2, e3, e4, e5⟩ := rec
    cases e2
    have sz : s.heap.objs.size ≤ h'.objs.size := by omega
    have n1 : H c1 = none := I.hok.fresh lo
    have nP : P ≠ c1 := ne_of_none e0 n1
    let H1 : Hp := upd (upd H P (.tbl (ps ++ #[rawInt pos.line, rawInt pos.col, .ref c1]))) c1 (CodeO c1 (X.env.qual ++ "<lambda>"))
    have hP1 : H1 P = some (.tbl (ps ++ #[rawInt pos.line, rawInt pos.col, .ref c1])) := (upd_ne nP).trans upd_same
    have hE : DL.Ext H H1 := fun b o e => by
      have b1 : b ≠ c1 := ne_of_none e n1
      by_cases bP : b = P
      · subst bP
        rw [e0] at e
        cases e
        exact .inr ⟨_, _, rfl, hP1⟩
      · exact .inl ((upd_ne b1).trans ((upd_ne bP).trans e))
    have code : ∀ d r, H d = some (CodeO d r) → H1 d = some (CodeO d r) := fun d r e => hE.at e fun ps z => codeO_ne ps z
    have J : Inv X pins σ H1 { s with heap := h'.push (lamO X params body scope ((X.mg "__name__").getD .none) c1 ctv), toks := tk } := inv_table (q := X.env.qual ++ "<lambda>") (t' := tk) I e0 (fun b o nb e => Heap.get?_push_of_some _ (old b o nb e)) (Heap.get?_push_of_some _ tab) lo ⟨oc, vs, t, Heap.get?_push_of_some _ e3, e4, e5⟩
    refine k h'.objs.size c1 _ ctv H1 _ J hE (fun p hp => ?_) (Heap.get?_push_size _ rfl) ?_ (fresh_frs I sz) upd_same
    · obtain ⟨ps2, a1, a2, a3⟩ := hT p hp
      by_cases bP : p.1 = P
      · rw [bP] at a1 ⊢
        rw [e0] at a1
        cases a1
        refine ⟨_, hP1, by rw [Array.toList_append]; exact PySem.TriplesOk_snoc _ _ _ _ tr, fun p' cv hc => ?_⟩
        rw [Array.toList_append] at hc
        rcases among_app _ tr hc with z | z
        · obtain ⟨d, z1, z2⟩ := a3 p' cv z
          exact ⟨d, z1, code _ _ z2⟩
        · exact ⟨c1, z, by rw [hu p hp bP]; exact upd_same⟩
      · refine ⟨ps2, (upd_ne (ne_of_none a1 n1)).trans ((upd_ne bP).trans a1), a2, fun p' cv hc => ?_⟩
        obtain ⟨d, z1, z2⟩ := a3 p' cv hc
        exact ⟨d, z1, code _ _ z2⟩
    · have b1 : h'.objs.size ≠ c1 := by omega
      have b2 : h'.objs.size ≠ P := fun z => by
        have z1 := Heap.lt_size oP
        rw [← z] at z1
        exact Nat.lt_irrefl _ (Nat.lt_of_lt_of_le z1 sz)
      exact (upd_ne b1).trans ((upd_ne b2).trans (I.hok.fresh sz))
end
/-- T: the tables; TT: what the called def makes of the lambda's reading t -/
def tLamE (T : List (Addr × Str)) (TT : (XK → Hp → VK → Prop) → Hp → VK → Prop) (t : XK → TE) : TE := fun σ H Q => Tabs T H ∧ ∀ H1, DL.Ext H H1 → Tabs T H1 → TT (fun E H' Q' => t E σ H' Q') H1 Q
theorem pe_lamE {X : Cx} {T : List (Addr × Str)} {TT : (XK → Hp → VK → Prop) → Hp → VK → Prop} {x a : Str} {g c P : Addr} {k : Nat} {pg : Arguments} {bg : List Stmt} {sg : Scope} {dV kV doc pm cdv ct oc : Value} {an od : Option Addr} {osl : Array (Option Value)} {Ng : List Str} {params : Arguments} {body : Expr} {scope : Scope} {t : XK → TE} {p lpos pos : Pos}
    (hg : Gl X x) (hm : X.mg x = some (.ref g)) (hk : PySem.W.keepIn X.K (.ref g) = true) (lk : X.K.lookup g = some ⟨oc, od, .func (PySem.W.fnOf x x pg bg sg dV kV doc pm an cdv ct), osl⟩) (hcg : PySem.W.codeIn X.K cdv x = true) (hb : L2.Binds X.K (PySem.W.fnOf x x pg bg sg dV kV doc pm an cdv ct) [a] [])
    (Sg : FnScope Ng [a] sg) (hNg : Ng[0]? = some a) (hva : Vis sg a) (hG : GivesTo X Ng x sg g cdv bg a (X.env.qual ++ "<lambda>") TT) (TB : TabB X.base X.mg c P) (hcode : X.env.code = .ref c) (hmT : (P, X.env.qual ++ "<lambda>") ∈ T) (hu : ∀ p ∈ T, p.1 = P → p.2 = X.env.qual ++ "<lambda>")
    (hr : Room (k + 2) X.A) (L : LamS X.env.scope scope) (hdef : defaultsOf params X.env = ([], [])) (hbind : ∀ (q : Str) (cl : List (Str × Addr)) (pm cv ctv : Value), bindArgs (PySem.W.kla_fn "<lambda>" q params body scope cl pm cv ctv) ⟨[], []⟩ = pure [])
    (hbody : ∀ (A : Around) (outer : List Env) (s : Shared) (H : Hp) (E : XK) (f c' : Addr), Room k (A.deeper (lamEnv X scope s.heap.objs.size f c')) → PE (lamCx X A outer s H E scope f c') body (t E))
    (hdb : (x == ("__debug__" : Str)) = false := by decide) (hd : (a == ("__debug__" : Str)) = false := by decide) (hcd : (a == ("__classdict__" : Str)) = false := by decide) : PE X (.Call (.Name x p) [.Lambda params body scope lpos] [] pos) (tLamE T TT t) := by
  refine ⟨fun pins s σ H Q I ⟨hT, h⟩ => wpAny_Call_Name_kw (ld_glob I hg hm (PySem.W.callWith_K (h₀ := X.base) I.ok.mod.kin hk ?_ (by rfl) (by rfl)) hdb)⟩
  show wpAny _ _ (spliced ((false, eval (.Lambda params body scope lpos) X.env) :: backTo pos (starEach [] X.env))) _ _ s
  refine Calls.spliced_cons (lam_tab I TB hcode hmT hu hT hdef (L.has I.ok) fun f c1 pm1 ctv H1 s1 J eE T1 e1 e2 e3 e4 => Calls.spliced_nil ⟨J.kIn, wpAny_call ?_⟩)
  have run : codeAny (model X.prog X.w) X.A (.call (.ref g) ⟨[.ref f], []⟩) (CR C8.CX0 X.stack X.prog X.w H1 s1 Q C8.E0) s1 := run_ofS (N := Ng) (ps := [a]) (us := [.ref f]) (vs := [.ref f]) lk hcg Sg hr J.env0 (hb s1 [.ref f] J.kIn rfl) (.cons rfl .nil) rfl fun hr1 => by
    obtain ⟨tt, h1, h2⟩ := hG f c1 s1 H1 Q (fun E H' Q' => t E σ H' Q') (fun W pn xe E p1 p2 tk hW => pe_act (i := 0) J L e1 e2 e3 (hbind _ _ _ _ _) tk hW hr1 (fun A outer s H hr2 => hbody A outer s H E f c1 hr2) hNg hva hd hcd) e4 (h H1 eE T1)
    exact ⟨tt, h1.nox, h2⟩
  refine codeAny_mono run fun r s2 z => ?_
  match r, z with
  | .error _, z => exact False.elim z
  | .ok (.ret u), z => exact J.after z
  | .ok .next, z => exact False.elim z
  | .ok .brk, z => exact False.elim z
  | .ok .cont, z => exact False.elim z
end ER
namespace DL
variable [TbC]
open PySem PySem.Spec PyProof.Rows L2
/-- what the law's reader tells of an error -/
def FieldD (code : Str) (fs : List (Str × D)) (Q : D → Prop) : Prop :=
  if code = "TooLarge" then onS (fget "what" fs) fun a => onS (fget "value" fs) fun b => onS (fget "limit" fs) fun c => Q (.tup [a, b, c])
  else if code = "InvalidFact" ∨ code = "UnknownRow" then onS (fget "index" fs) Q
  else if code = "InvalidText" then onS (fget "line" fs) fun a => onS (fget "reason" fs) fun b => Q (.tup [a, b])
  else if code = "InvalidDrawing" then onS (fget "name" fs) Q
  else if code = "NothingLeft" then onS (fget "deed" fs) Q
  else if code = "Unsuited" then Q .non
  else onS (fget "value" fs) Q
def EdWhy (Ks : List (Addr × List Str)) (Q : D → Prop) : DX → Prop := fun x => (x.1, x.2.map (·.1)) ∈ Ks ∧ onS (fget "code" x.2) fun cd => (match cd with | .str code => FieldD code x.2 (fun v => Q (.tup [.str code, v])) | _ => False)
/-- an error's class: its fields' names are no attributes of the class -/
structure ErrK (K : PySem.W.Frag) (CE AB : Addr) (C : Addr) (ns : List Str) : Prop where
  xf : XfC K C
  ex : PySem.W.exmAny K (.ref C) [.ref CE, .ref AB] = some true
  no : ∀ f ∈ ns, PySem.W.findIn K (.ref C) f = some none
/-- what a lambda's body may read: data alone -/
def maskS : Option SV → Option SV
  | some (.d x) => some (.d x)
  | none => none
  | some (.lst _ _) => none
  | some (.ins _ _ _) => none
  | some (.dk _ _) => none
  | some (.dt _ _ _) => none
  | some (.pg _ _ _ _ _) => none
def maskD : Rho → Rho
  | [] => []
  | w :: r => maskS w :: maskD r
theorem maskD_len : ∀ ρ : Rho, (maskD ρ).length = ρ.length
  | [] => rfl
  | _ :: r => congrArg (· + 1) (maskD_len r)
theorem maskD_at : ∀ {ρ : Rho} {i : Nat} {w : Option SV}, (maskD ρ)[i]? = some w → ∃ u, ρ[i]? = some u ∧ w = maskS u
  | [], i, w, h => by simp [maskD] at h
  | u :: r, 0, w, h => ⟨u, rfl, (Option.some.inj (show some (maskS u) = some w from h)).symm⟩
  | u :: r, i + 1, w, h => by
    obtain ⟨x, h1, h2⟩ := maskD_at (ρ := r) (i := i) (w := w) (by simpa [maskD] using h)
    exact ⟨x, by simpa using h1, h2⟩
def dWhy (Ks : List (Addr × List Str)) (de : (DX → Prop) → DE) (ρ : Rho) (Q : D → Prop) : Prop := de (EdWhy Ks Q) (maskD ρ) fun v => Q (.tup [.str "value", v])
section
variable {K : PySem.W.Frag} {Ed : DX → Prop} {E : XK} {H0 H : Hp}
theorem growS {H1 : Hp} (sm : Same H0 H) (s : Same H H1) : Grow H0 H H0 H1 := ⟨.refl _, s.ext, sm.trans s, fun _ _ => rfl, fun t => td_of t s⟩
theorem repf_fget {fs : List (Str × D)} {fvs : List (Str × V)} {f : Str} {Q : D → Prop} (r : Repf K H0 fs fvs) (h : onS (fget f fs) Q) : ∃ d v, fvs.lookup f = some v ∧ Rep K H0 d v ∧ Q d := by
  obtain ⟨d, hd, q⟩ := onS_at h
  rw [fget_lookup] at hd
  obtain ⟨v, e, rv⟩ := r.get hd
  exact ⟨d, v, e, rv, q⟩
theorem field_one {fs : List (Str × D)} {fvs : List (Str × V)} {f : Str} {Qd : D → Prop} {Q : VK} (sm : Same H0 H) (rf : Repf K H0 fs fvs) (h : onS (fget f fs) Qd) (q : ∀ d v A' B', Grow H0 H A' B' → Rep K A' d v → Qd d → Q v B') : ER.one fvs f H Q := by
  obtain ⟨d, v, e, rv, k⟩ := repf_fget rf h
  exact ⟨v, e, fun H1 s => q d v H0 H1 (growS sm s) rv k⟩
theorem field_V {code : Str} {fs : List (Str × D)} {fvs : List (Str × V)} {Qd : D → Prop} {Q : VK} (sm : Same H0 H) (rf : Repf K H0 fs fvs) (h : FieldD code fs Qd) (q : ∀ d v A' B', Grow H0 H A' B' → Rep K A' d v → Qd d → Q v B') : ER.FieldV code fvs H Q := by
  unfold FieldD at h
  unfold ER.FieldV ER.OtherV
  by_cases c1 : code = "TooLarge"
  · rw [if_pos c1] at h ⊢
    obtain ⟨a, va, ea, ra, h⟩ := repf_fget rf h
    obtain ⟨b, vb, eb, rb, h⟩ := repf_fget rf h
    obtain ⟨c, vc, ec, rc, h⟩ := repf_fget rf h
    refine ⟨va, vb, vc, ea, eb, ec, fun H1 p s hp => ?_⟩
    have g := (growS sm s).trans (Grow.new (o := .tup [va, vb, vc]) (sm.trans s) hp)
    have k := same_upd (o := .tup [va, vb, vc]) ((sm.trans s).free hp)
    exact q (.tup [a, b, c]) (.ref p) _ _ g ⟨p, _, rfl, .inl (.inl upd_same), va, _, rfl, Rep.mono k _ _ ra, vb, _, rfl, Rep.mono k _ _ rb, vc, _, rfl, Rep.mono k _ _ rc, rfl⟩ h
  rw [if_neg c1] at h ⊢
  by_cases c2 : code = "InvalidFact" ∨ code = "UnknownRow"
  · rw [if_pos c2] at h ⊢
    exact field_one sm rf h q
  rw [if_neg c2] at h ⊢
  by_cases c3 : code = "InvalidText"
  · rw [if_pos c3] at h ⊢
    obtain ⟨a, va, ea, ra, h⟩ := repf_fget rf h
    obtain ⟨b, vb, eb, rb, h⟩ := repf_fget rf h
    refine ⟨va, vb, ea, eb, fun H1 p s hp => ?_⟩
    have g := (growS sm s).trans (Grow.new (o := .tup [va, vb]) (sm.trans s) hp)
    have k := same_upd (o := .tup [va, vb]) ((sm.trans s).free hp)
    exact q (.tup [a, b]) (.ref p) _ _ g ⟨p, _, rfl, .inl (.inl upd_same), va, _, rfl, Rep.mono k _ _ ra, vb, _, rfl, Rep.mono k _ _ rb, rfl⟩ h
  rw [if_neg c3] at h ⊢
  by_cases c4 : code = "InvalidDrawing"
  · rw [if_pos c4] at h ⊢
    exact field_one sm rf h q
  rw [if_neg c4] at h ⊢
  by_cases c5 : code = "NothingLeft"
  · rw [if_pos c5] at h ⊢
    exact field_one sm rf h q
  rw [if_neg c5] at h ⊢
  by_cases c6 : code = "Unsuited"
  · rw [if_pos c6] at h ⊢
    exact fun H1 s => q .non .non H0 H1 (growS sm s) rfl h
  rw [if_neg c6] at h ⊢
  exact field_one sm rf h q
theorem repf_names : ∀ {fs : List (Str × D)} {fvs : List (Str × V)} {f : Str} {v : V}, Repf K H0 fs fvs → fvs.lookup f = some v → f ∈ fs.map (·.1)
  | [], _, f, v, h, e => by
    cases (show _ = _ from h)
    simp at e
  | (g, d) :: r, _, f, v, ⟨u, ur, e1, h1, h2⟩, e => by
    subst e1
    by_cases hg : f = g
    · subst hg
      exact List.mem_cons_self
    · have hb : (f == g) = false := by simpa using hg
      simp only [List.lookup, hb] at e
      exact List.mem_cons_of_mem _ (repf_names h2 e)
theorem sim_why {Ks : List (Addr × List Str)} {CE AB : Addr} {t : XK → TE} {de : (DX → Prop) → DE} (hK : ∀ e ∈ Ks, ErrK K CE AB e.1 e.2) (hs : ∀ Ed' E', SimE K Ed' E' (t E') (de Ed')) : SimE K Ed E (ER.tLamE TbC.T (ER.TTwhy K CE AB) t) (dWhy Ks de) := fun B0 B1 A H0 H σ ρ R X Qd h Q q => by
  have td : TD H0 H := R.gr.tb X.td
  refine ⟨td.2, fun H1 e1 t1 => ?_⟩
  have s1 : Same H0 H1 := fun b o e => e1.at (R.ex _ _ e) fun ps z => td.1 b ps (by rw [e, z])
  have g1 : Grow H0 H H0 H1 := ⟨.refl _, e1, s1, fun _ _ => rfl, fun t => ⟨t.1, t1⟩⟩
  have R1 : RepS K B0 B1 A H0 H1 σ ρ := R.grow g1
  have RM : RepS K H0 H1 (fun _ => none) H0 H1 σ (maskD ρ) := by
    refine ⟨s1, .refl s1, by rw [maskD_len]; exact R.len, fun i w e => ?_, (fun _ _ _ z => nomatch z), (fun _ _ z => nomatch z), by rw [maskD_len]; exact R.sz, fun i x C fs q xs e => ?_⟩
    · obtain ⟨u, e2, rfl⟩ := maskD_at e
      obtain ⟨v, e3, s⟩ := R1.slot i u e2
      refine ⟨v, e3, ?_⟩
      cases u with
      | none => exact rfl
      | some u =>
        cases u with
        | d x => exact ⟨rfl, s.2⟩
        | lst _ _ => exact rfl
        | ins _ _ _ => exact rfl
        | dk _ _ => exact rfl
        | dt _ _ _ => exact rfl
        | pg _ _ _ _ _ => exact rfl
    · obtain ⟨u, _, e2⟩ := maskD_at e
      cases u with
      | none => cases e2
      | some u => cases u <;> cases e2
  refine hs (EdWhy Ks Qd) _ H0 H1 _ H0 H1 σ (maskD ρ) RM ⟨fun C fs fvs dx H0' H' g hx rf hE => ?_, g1.tb td⟩ _ h _ fun x v H0' H' R2 g r k => ⟨by show 2 ≤ sizeLine; decide, fun p hp => ?_⟩
  · obtain ⟨hk, hc⟩ := hE
    obtain ⟨cd, vc, ec, rc, hc⟩ := repf_fget rf hc
    split at hc
    · rename_i code
      cases (show vc = _ from rc)
      have k := hK _ hk
      have gg := g1.trans g
      refine ⟨C, dx, fvs, code, rfl, rfl, k.xf, fun f v e => k.no f (repf_names rf e), hx, ec, k.ex, field_V g.g2 rf hc fun d v A' B' g3 r3 k3 p hp => ?_⟩
      have g4 := Grow.new (o := .tup [.str code, v]) g3.g2 hp
      exact q (.tup [.str code, d]) (.ref p) _ _ (R.grow ((gg.trans g3).trans g4)) ((gg.trans g3).trans g4) ⟨p, _, rfl, .inl (.inl upd_same), .str code, _, rfl, rfl, v, _, rfl, Rep.mono g4.g0 _ _ r3, rfl⟩ k3
    · exact hc.elim
  · have gg := g1.trans g
    have g4 := Grow.new (o := .tup [.str "value", v]) R2.ex hp
    exact q (.tup [.str "value", x]) (.ref p) _ _ (R.grow (gg.trans g4)) (gg.trans g4) ⟨p, _, rfl, .inl (.inl upd_same), .str "value", _, rfl, rfl, v, _, rfl, Rep.mono g4.g0 _ _ r, rfl⟩ k
end
/-- the law's asker and its readers, as they stand behind the top -/
structure WhyF (P : Program) (w : World) (K : PySem.W.Frag) (mg : Str → Option Value) (base : Heap) (k : Nat) (CE AB : Addr) : Prop where
  ex : ∃ (a e : Str) (g : Addr) (pg : Arguments) (bg : List Stmt) (sg : Scope) (dV kV doc pm cdv ct oc : Value) (an od : Option Addr) (osl : Array (Option Value)), mg "_law_why" = some (.ref g) ∧ PySem.W.keepIn K (.ref g) = true ∧
    K.lookup g = some ⟨oc, od, .func (PySem.W.fnOf "_law_why" "_law_why" pg bg sg dV kV doc pm an cdv ct), osl⟩ ∧ PySem.W.codeIn K cdv "_law_why" = true ∧ L2.Binds K (PySem.W.fnOf "_law_why" "_law_why" pg bg sg dV kV doc pm an cdv ct) [a] [] ∧ FnScope [a, e] [a] sg ∧ Vis sg a ∧ (a == ("__debug__" : Str)) = false ∧ (a == ("__classdict__" : Str)) = false ∧
    ∀ (X : Cx) (q : Str), X.prog = P → X.w = w → X.K = K → X.mg = mg → X.base = base → Room (k + 1) X.A → LamX.GivesTo X [a, e] "_law_why" sg g cdv bg a q (ER.TTwhy K CE AB)
section
variable {X : Cx} {Ed : DX → Prop} {E : XK} {p pos lpos : Pos} {k : Nat} {CE AB c Pt : Addr} {params : Arguments} {body : Expr} {scope : Scope} {t : XK → TE} {de : (DX → Prop) → DE} {Ks : List (Addr × List Str)}
theorem passL {X : Cx} {A : Around} {outer : List Env} {s : Shared} {H : Hp} {E : XK} {scope : Scope} {f c' : Addr} : Passes (L2.CX X.prog X.w) (LamX.lamCx X A outer s H E scope f c') E :=
  passes_call (X := LamX.lamCx X A outer s H E scope f c') (W := fun c d _ H => E c d H) (takes_of rfl rfl rfl rfl) fun _ _ _ _ h => h
theorem e_why (F : WhyF X.prog X.w X.K X.mg X.base k CE AB) (hT : (Pt, X.env.qual ++ "<lambda>") ∈ TbC.T) (hu : ∀ p ∈ TbC.T, p.1 = Pt → p.2 = X.env.qual ++ "<lambda>") (TB : LamX.TabB X.base X.mg c Pt) (hcode : X.env.code = .ref c) (hK : ∀ e ∈ Ks, ErrK X.K CE AB e.1 e.2) (hr : Room (k + 2) X.A) (L : LamX.LamS X.env.scope scope)
    (hbody : ∀ (A : Around) (outer : List Env) (s : Shared) (H : Hp) (E : XK) (f c' : Addr) (Ed' : DX → Prop), Room k (A.deeper (LamX.lamEnv X scope s.heap.objs.size f c')) → JE (LamX.lamCx X A outer s H E scope f c') Ed' E body (t E) (de Ed'))
    (hg : Gl X "_law_why" := by rfl) (hdef : defaultsOf params X.env = ([], []) := by rfl) (hbind : ∀ (q : Str) (cl : List (Str × Addr)) (pm cv ctv : Value), bindArgs (PySem.W.kla_fn "<lambda>" q params body scope cl pm cv ctv) ⟨[], []⟩ = pure [] := by intros; rfl) :
    JE X Ed E (.Call (.Name "_law_why" p) [.Lambda params body scope lpos] [] pos) (ER.tLamE TbC.T (ER.TTwhy X.K CE AB) t) (dWhy Ks de) := by
  obtain ⟨a, e, g, pg, bg, sg, dV, kV, doc, pm, cdv, ct, oc, an, od, osl, h1, h2, h3, h4, h5, h6, h7, h8, h9, h10⟩ := F.ex
  refine ⟨ER.pe_lamE (k := k) (Ng := [a, e]) (a := a) hg h1 h2 h3 h4 h5 h6 rfl h7 (h10 X _ rfl rfl rfl rfl rfl (hr.mono (by omega))) TB hcode hT hu hr L hdef hbind (fun A outer s H E f c' hr2 => (hbody A outer s H E f c' (fun _ => False) hr2).pe) (by decide) h8 h9, sim_why hK fun Ed' E' => ?_⟩
  exact (hbody X.A [] X.s_0 X.H_0 E' 0 0 Ed' ((hr.mono (by omega : k + 1 ≤ k + 2)).deeper _)).sim
end
end DL
namespace ER
open PySem PySem.W PySem.Calls PyProof.Rows
section
variable {P : Program} {w : World} {env : Env} {m : Str → Option Value} {c x y : Str} {u : Value} {j : Nat} {pos p1 p2 p3 p4 : Pos}
theorem says_str : Says P w env m (.Constant (.str c) j pos) := fun A s Q E _ h => Calls.Constant_str (h _ _)
/-- f'c{x}', x a text -/
theorem says_f (hk : env.scope.kind = .function) (hl : env.scope.names.lookup x = some .local) (hm : m x = some u) (r : L2.RelV (.str y) u) (hd : (x == ("__debug__" : Str)) = false) (hy : y.length ≤ sizeLine) (h1 : (Str.empty ++ c).length ≤ sizeLine) (h2 : ((Str.empty ++ c) ++ y).length ≤ sizeLine) :
    Says P w env m (.JoinedStr [.Constant (.str c) j p1, .FormattedValue (.Name x p2) (-1) none p3] p4) := fun A s Q E hn h => by
  obtain ⟨t, rfl⟩ := r
  refine wpAny_JoinedStr ?_
  have e0 : evalEach [.Constant (.str c) j p1, .FormattedValue (.Name x p2) (-1) none p3] env = [eval (.Constant (.str c) j p1) env, eval (.FormattedValue (.Name x p2) (-1) none p3) env] := by first | rfl | simp [evalEach]
  rw [e0]
  refine Calls.Constant_str ⟨c, _, rfl, h1, ?_⟩
  refine wpAny_FormattedValue_plain (wpAny_Name (wpAny_loadName_local hk hl hn hm ?_) hd)
  exact wpAny_formatField_str ⟨y, _, rfl, h2, h2, h _ _⟩ ⟨y, _, rfl, h2, h2, h _ _⟩ hy
end
end ER
namespace DL
variable [TbC]
open PySem PySem.Spec PyProof.Rows L2
/-- the scope of an __init__ that says super() -/
structure ErrS (ps : List Str) (sc : Scope) : Prop where
  kind : sc.kind = .function
  co : sc.isCoroutine = false
  gen : sc.isGenerator = false
  sup : sc.names.lookup ("super" : Str) = some .globalImplicit
  cel : sc.names.lookup ("__class__" : Str) = some .free
  par : ∀ y ∈ ps, sc.names.lookup y = some .local
  noc : ∀ x ∈ sc.names, x.2 ≠ .cell
def mk1 (f code : Str) : List D → List (Str × D)
  | [v] => [(f, v), ("code", .str code)]
  | _ => []
def mk1V (f : Str) : List V → List (Str × V)
  | [v] => [(f, v)]
  | _ => []
def mk3 (f1 f2 f3 code : Str) : List D → List (Str × D)
  | [a, b, c] => [(f3, c), (f2, b), (f1, a), ("code", .str code)]
  | _ => []
def mk3V (f1 f2 f3 : Str) : List V → List (Str × V)
  | [a, b, c] => [(f1, a), (f2, b), (f3, c)]
  | _ => []
/-- the first of three is a text of a name's size -/
def ok3 : List D → Prop
  | [.str y, _, _] => y.length ≤ 1000
  | _ => False
section
variable {P : Program} {w : World} {K : PySem.W.Frag} {mg : Str → Option Value} {st : Stmt} {x qual code msgt c : Str} {C f cda cc : Addr} {B i newId : String} {bmB : List Value} {oc dV kV doc pm ct : Value} {od an : Option Addr} {osl : Array (Option Value)} {ar : Arg} {pl : Sem Bool}
  {p0 p1 p2 p3 p4 q0 q1 q2 q3 q4 r1 r2 r3 r4 s1 s2 s3 s4 t1 t2 t3 t4 m1 m2 m3 m4 : Pos} {j1 j2 : Nat}
abbrev superE (p0 p1 p2 p3 : Pos) (msg : Expr) : Expr := .Call (.Attribute (.Call (.Name "super" p0) [] [] p1) "__init__" p2) [msg] [] p3
/-- an error of one field: raise C(v) -/
theorem err1 {fld : Str} (T : ER.EC K B i newId bmB C) (SF : StoreFacts B bmB "object.__setattr__" "object") (KF : PySem.W.KxsFacts B i) (FB : ExcBaseFacts B newId i bmB) (SP : ER.SupF P K mg) (IC : ER.IniC P K C cda cc) (nm : mg x = some (.ref C)) (hini : PySem.W.findIn K (.ref C) "__init__" = some (some (.ref f))) (hfn : PySem.W.isFn K (.ref f) = true)
    (lk : K.lookup f = some ⟨oc, od, .func (PySem.W.ksFn "__init__" qual (defArgs st) (defBody st) (defScope st) dV kV doc pm an (.ref cda) ct cc), osl⟩) (hcd : PySem.W.codeIn K (.ref cda) qual = true) (tc : PySem.W.takerIn K C "code" = some none) (tf : PySem.W.takerIn K C fld = some none)
    (hbody : defBody st = .Expr (superE p0 p1 p2 p3 (.Constant (.str msgt) j1 q0)) p4 :: .Assign [.Attribute (.Name "self" q1) "code" q2] (.Constant (.str code) j2 q3) q4 :: .Assign [.Attribute (.Name "self" r1) fld r2] (.Name fld r3) r4 :: [])
    (hbind : ∀ us : List Value, us.length = 2 → bindArgs (PySem.W.ksFn "__init__" qual (defArgs st) (defBody st) (defScope st) dV kV doc pm an (.ref cda) ct cc) ⟨us, []⟩ = pure ((["self", fld] : List Str).zip us)) (har : ((defArgs st).posonlyargs ++ (defArgs st).args).head? = some ar) (hself : ar.arg = "self")
    (S : ErrS ["self", fld] (defScope st)) (nd : (["self", fld] : List Str).Nodup) (hfd : (fld == ("__debug__" : Str)) = false)
    (ht : ∀ L, eval (superE p0 p1 p2 p3 (.Constant (.str msgt) j1 q0)) (PySem.W.ksEnv qual (defScope st) L f (.ref cda) cc) = (do
      let ov ← attributeBase (.Call (.Name "super" p0) [] [] p1) "__init__" (PySem.W.ksEnv qual (defScope st) L f (.ref cda) cc) (eval (.Call (.Name "super" p0) [] [] p1) (PySem.W.ksEnv qual (defScope st) L f (.ref cda) cc))
      standAt p2.atName
      let (fm, first) ← holding [ov] (getMethod ov "__init__" pl)
      callWith p3 fm first (backTo p3 (starEach [.Constant (.str msgt) j1 q0] (PySem.W.ksEnv qual (defScope st) L f (.ref cda) cc))) []))
    (hsw : ∀ L, swapsWith (superE p0 p1 p2 p3 (.Constant (.str msgt) j1 q0)) none p4.line (PySem.W.ksEnv qual (defScope st) L f (.ref cda) cc) = pure false) (hi : ∀ L, interactive (PySem.W.ksEnv qual (defScope st) L f (.ref cda) cc) = false)
    (hs1 : ∀ L, swapsWith (.Constant (.str code) j2 q3) (some (.Attribute (.Name "self" q1) "code" q2)) q4.line (PySem.W.ksEnv qual (defScope st) L f (.ref cda) cc) = pure false) (hs2 : ∀ L, swapsWith (.Name fld r3) (some (.Attribute (.Name "self" r1) fld r2)) r4.line (PySem.W.ksEnv qual (defScope st) L f (.ref cda) cc) = pure false) :
    MakerX P w K mg x C 1 (fun _ => True) (mk1 fld code) := by
  have R := ER.errRun_mk (P := P) (w := w) (mg := mg) (ps := ["self", fld]) (n := 1) (ok := fun _ => True) (f1 := "code") (v1 := .str code) (l := mk1V fld) T SF KF FB SP IC hbody lk hcd hbind rfl nd har (by rw [hself]; rfl) S.par S.noc S.co S.gen S.sup S.cel S.kind (by rw [hself]; decide) (fun L m us vs _ _ _ _ => ER.says_str) (fun L => rfl) ht hsw hi
    (fun L m us vs rv hl _ hp => by
      match vs, us, rv, hl with
      | [v], [u], .cons r .nil, _ =>
        have h0 : m fld = some u := hp 0 fld u rfl rfl
        have hn : ar.arg = "self" := hself
        rw [hn]
        exact .cons ER.gives_str tc (hs1 L) (.cons (ER.gives_name S.kind (S.par fld (by simp)) h0 r hfd) tf (hs2 L) .nil)) (fun vs => by
      match vs with
      | [] => exact Nat.zero_le _
      | [v] => show 1 ≤ 800; decide
      | _ :: _ :: _ => exact Nat.zero_le _)
  refine ⟨fun _ => True, _, ⟨nm, B, i, newId, i, bmB, f, T, FB, hini, hfn, R⟩, T.kC, by decide, fun H ds vs hl rr _ => ⟨trivial, ?_⟩⟩
  match ds, hl with
  | [d], _ =>
    obtain ⟨v, r, rfl, rv, e⟩ := rr
    cases (show r = _ from e)
    exact ⟨v, _, rfl, rv, .str code, _, rfl, rfl, rfl⟩
/-- an error of three fields, its message the first behind a text -/
theorem err3 {g1 g2 g3 : Str} (T : ER.EC K B i newId bmB C) (SF : StoreFacts B bmB "object.__setattr__" "object") (KF : PySem.W.KxsFacts B i) (FB : ExcBaseFacts B newId i bmB) (SP : ER.SupF P K mg) (IC : ER.IniC P K C cda cc) (nm : mg x = some (.ref C)) (hini : PySem.W.findIn K (.ref C) "__init__" = some (some (.ref f))) (hfn : PySem.W.isFn K (.ref f) = true)
    (lk : K.lookup f = some ⟨oc, od, .func (PySem.W.ksFn "__init__" qual (defArgs st) (defBody st) (defScope st) dV kV doc pm an (.ref cda) ct cc), osl⟩) (hcd : PySem.W.codeIn K (.ref cda) qual = true) (tc : PySem.W.takerIn K C "code" = some none) (tf1 : PySem.W.takerIn K C g1 = some none) (tf2 : PySem.W.takerIn K C g2 = some none) (tf3 : PySem.W.takerIn K C g3 = some none)
    (hbody : defBody st = .Expr (superE p0 p1 p2 p3 (.JoinedStr [.Constant (.str c) j1 m1, .FormattedValue (.Name g1 m2) (-1) none m3] m4)) p4 :: .Assign [.Attribute (.Name "self" q1) "code" q2] (.Constant (.str code) j2 q3) q4 :: .Assign [.Attribute (.Name "self" r1) g1 r2] (.Name g1 r3) r4 :: .Assign [.Attribute (.Name "self" s1) g2 s2] (.Name g2 s3) s4 :: .Assign [.Attribute (.Name "self" t1) g3 t2] (.Name g3 t3) t4 :: [])
    (hbind : ∀ us : List Value, us.length = 4 → bindArgs (PySem.W.ksFn "__init__" qual (defArgs st) (defBody st) (defScope st) dV kV doc pm an (.ref cda) ct cc) ⟨us, []⟩ = pure ((["self", g1, g2, g3] : List Str).zip us)) (har : ((defArgs st).posonlyargs ++ (defArgs st).args).head? = some ar) (hself : ar.arg = "self")
    (S : ErrS ["self", g1, g2, g3] (defScope st)) (nd : (["self", g1, g2, g3] : List Str).Nodup) (hd1 : (g1 == ("__debug__" : Str)) = false) (hd2 : (g2 == ("__debug__" : Str)) = false) (hd3 : (g3 == ("__debug__" : Str)) = false) (hc : c.length ≤ 1000)
    (ht : ∀ L, eval (superE p0 p1 p2 p3 (.JoinedStr [.Constant (.str c) j1 m1, .FormattedValue (.Name g1 m2) (-1) none m3] m4)) (PySem.W.ksEnv qual (defScope st) L f (.ref cda) cc) = (do
      let ov ← attributeBase (.Call (.Name "super" p0) [] [] p1) "__init__" (PySem.W.ksEnv qual (defScope st) L f (.ref cda) cc) (eval (.Call (.Name "super" p0) [] [] p1) (PySem.W.ksEnv qual (defScope st) L f (.ref cda) cc))
      standAt p2.atName
      let (fm, first) ← holding [ov] (getMethod ov "__init__" pl)
      callWith p3 fm first (backTo p3 (starEach [.JoinedStr [.Constant (.str c) j1 m1, .FormattedValue (.Name g1 m2) (-1) none m3] m4] (PySem.W.ksEnv qual (defScope st) L f (.ref cda) cc))) []))
    (hsw : ∀ L, swapsWith (superE p0 p1 p2 p3 (.JoinedStr [.Constant (.str c) j1 m1, .FormattedValue (.Name g1 m2) (-1) none m3] m4)) none p4.line (PySem.W.ksEnv qual (defScope st) L f (.ref cda) cc) = pure false) (hi : ∀ L, interactive (PySem.W.ksEnv qual (defScope st) L f (.ref cda) cc) = false)
    (hs0 : ∀ L, swapsWith (.Constant (.str code) j2 q3) (some (.Attribute (.Name "self" q1) "code" q2)) q4.line (PySem.W.ksEnv qual (defScope st) L f (.ref cda) cc) = pure false) (hs1 : ∀ L, swapsWith (.Name g1 r3) (some (.Attribute (.Name "self" r1) g1 r2)) r4.line (PySem.W.ksEnv qual (defScope st) L f (.ref cda) cc) = pure false)
    (hs2 : ∀ L, swapsWith (.Name g2 s3) (some (.Attribute (.Name "self" s1) g2 s2)) s4.line (PySem.W.ksEnv qual (defScope st) L f (.ref cda) cc) = pure false) (hs3 : ∀ L, swapsWith (.Name g3 t3) (some (.Attribute (.Name "self" t1) g3 t2)) t4.line (PySem.W.ksEnv qual (defScope st) L f (.ref cda) cc) = pure false) :
    MakerX P w K mg x C 3 ok3 (mk3 g1 g2 g3 code) := by
  have R := ER.errRun_mk (P := P) (w := w) (mg := mg) (ps := ["self", g1, g2, g3]) (n := 3) (ok := fun vs => ∃ y a b, vs = [V.str y, a, b] ∧ y.length ≤ 1000) (f1 := "code") (v1 := .str code) (l := mk3V g1 g2 g3) T SF KF FB SP IC hbody lk hcd hbind rfl nd har (by rw [hself]; rfl) S.par S.noc S.co S.gen S.sup S.cel S.kind (by rw [hself]; decide)
    (fun L m us vs rv hl ok hp => by
      obtain ⟨y, a, b, rfl, hy⟩ := ok
      match us, rv with
      | [u1, u2, u3], .cons r1 (.cons r2 (.cons r3 .nil)) =>
        have e0 : ∀ z : Str, (Str.empty ++ z).length = z.length := fun z => by rw [PySem.Str.length_append]; exact Nat.zero_add _
        have l0 : (1000 + 1000 : Nat) ≤ sizeLine := by decide
        exact ER.says_f S.kind (S.par g1 (by simp)) (hp 0 g1 u1 rfl rfl) r1 hd1 (by omega) (by rw [e0]; omega) (by rw [PySem.Str.length_append, e0]; omega)) (fun L => rfl) ht hsw hi
    (fun L m us vs rv hl ok hp => by
      obtain ⟨y, a, b, rfl, hy⟩ := ok
      match us, rv with
      | [u1, u2, u3], .cons r1 (.cons r2 (.cons r3 .nil)) =>
        have hn : ar.arg = "self" := hself
        rw [hn]
        exact .cons ER.gives_str tc (hs0 L) (.cons (ER.gives_name S.kind (S.par g1 (by simp)) (hp 0 g1 u1 rfl rfl) r1 hd1) tf1 (hs1 L) (.cons (ER.gives_name S.kind (S.par g2 (by simp)) (hp 1 g2 u2 rfl rfl) r2 hd2) tf2 (hs2 L) (.cons (ER.gives_name S.kind (S.par g3 (by simp)) (hp 2 g3 u3 rfl rfl) r3 hd3) tf3 (hs3 L) .nil)))) (fun vs => by
      match vs with
      | [] => exact Nat.zero_le _
      | [_] => exact Nat.zero_le _
      | [_, _] => exact Nat.zero_le _
      | [_, _, _] => show 3 ≤ 800; decide
      | _ :: _ :: _ :: _ :: _ => exact Nat.zero_le _)
  refine ⟨_, _, ⟨nm, B, i, newId, i, bmB, f, T, FB, hini, hfn, R⟩, T.kC, by decide, fun H ds vs hl rr hok => ?_⟩
  match ds, hl with
  | [d1, d2, d3], _ =>
    obtain ⟨v1, _, rfl, a1, v2, _, rfl, a2, v3, r, rfl, a3, e⟩ := rr
    cases (show r = _ from e)
    unfold ok3 at hok
    split at hok
    · rename_i y _ _ e
      cases e
      cases (show v1 = _ from a1)
      exact ⟨⟨y, v2, v3, rfl, hok⟩, v3, _, rfl, a3, v2, _, rfl, a2, .str y, _, rfl, rfl, .str code, _, rfl, rfl, rfl⟩
    · exact hok.elim
end
structure FunC (K : PySem.W.Frag) (x qual : Str) (st : Stmt) (f : Addr) (fd : FuncData) (c : Addr) : Prop where
  ex : ∃ (oc : Value) (od : Option Addr) (dV kV doc pm : Value) (an : Option Addr) (ct : Value) (osl : Array (Option Value)), fd = PySem.W.fnOf x qual (defArgs st) (defBody st) (defScope st) dV kV doc pm an (.ref c) ct ∧ K.lookup f = some ⟨oc, od, .func fd, osl⟩ ∧ PySem.W.codeIn K (.ref c) qual = true
section
variable {P : Program} {w : World} {K : PySem.W.Frag} {mg : Str → Option Value} {base : Heap}
theorem fnC_ok {x qual : Str} {st : Stmt} {f c : Addr} {fd : FuncData} {N ps : List Str} {k : Nat} {wp : Wp} (n : Nat) (hn : N.length = n) (F : FunC K x qual st f fd c) (S : FnScope N ps (defScope st)) (len : ∀ ds Q Ed, wp ds Q Ed → ds.length = ps.length)
    (body : ∀ (A : Around) (outer : List Env) (s : Shared) (H : Hp) (E : XK), Room k (A.deeper (envOfC qual (defScope st) s.heap.objs.size f (.ref c))) → ∀ (ds : List D) (Qd : D → Prop) (Ed : DX → Prop), wp ds Qd Ed →
      ∃ ts bs, JB (bx P w K mg base N qual st f (.ref c) A outer s H E) Ed E (defBody st) ts bs ∧ bs { nx := fun _ => Qd .non, rt := fun x _ => Qd x } (startD n ds)) (hz : n ≤ 1000 := by decide) : FnOk P w K mg base (L2.CX P w) (k + 1) f fd ps (SpW K wp) := by
  obtain ⟨oc, od, dV, kV, doc, pm, an, ct, osl, rfl, lk, hcd⟩ := F.ex
  have hpl : ps.length ≤ N.length := by
    have e := congrArg List.length S.pre
    rw [List.length_take] at e
    omega
  subst hn
  refine fn_of lk hcd S (fun vs H Q E h => ?_) fun A outer s H vs Q E hr h => ?_
  · obtain ⟨H0, ds, Qd, Ed, sm, r, hw, _⟩ := h
    rw [r.length]
    exact len ds Qd Ed hw
  · obtain ⟨H0, ds, Qd, Ed, sm, r, hw, q, x⟩ := h
    obtain ⟨ts, bs, jb, hb⟩ := body A outer s H E hr ds Qd Ed hw
    refine ⟨ts, jb.pe, jb.sim H0 H _ H0 H _ _ (startS sm r (by rw [len ds Qd Ed hw]; exact hpl) hz) x { nx := fun _ => Qd .non, rt := fun x _ => Qd x } _ ⟨fun A H0' H' σ ρ R h => q .non .non H0' H' R.gr rfl h, fun A H0' H' σ ρ d v R rv h => q d v H0' H' R.gr rv h, fun _ _ _ _ _ _ h => h.elim, fun _ _ _ _ _ _ h => h.elim⟩ hb⟩
/-- the maker of lambdas: its code object at c, its table at Pt -/
structure LamP (mg : Str → Option Value) (base : Heap) (qual : Str) (c Pt : Addr) : Prop where
  t : (Pt, (qual ++ ".<locals>.") ++ "<lambda>") ∈ TbC.T
  u : ∀ p ∈ TbC.T, p.1 = Pt → p.2 = (qual ++ ".<locals>.") ++ "<lambda>"
  b : LamX.TabB base mg c Pt
end
/-- the one table of the law's own code -/
abbrev oneTb (Pt : Addr) (q : Str) : TbC := ⟨[(Pt, q)]⟩
omit [TbC] in
theorem lamP_one {mg : Str → Option Value} {base : Heap} {qual : Str} {c Pt : Addr} (b : LamX.TabB base mg c Pt) : @LamP (oneTb Pt ((qual ++ ".<locals>.") ++ "<lambda>")) mg base qual c Pt := @LamP.mk (oneTb Pt _) _ _ _ _ _ (List.mem_singleton.mpr rfl) (fun p hp _ => by rw [List.mem_singleton.mp hp]) b
omit [TbC] in
theorem law_sp1 {K : PySem.W.Frag} {H : Hp} {a Pt : Addr} {q : Str} {ns : List Int} (hl : ns.length ≤ 63) (hS : SqL K H a (ns.map V.int)) (hT : H Pt = some (.tbl #[])) : @SpW (oneTb Pt q) K wpLaw [.ref a] H (fun v _ => v = .bl true) fun _ _ _ => False :=
  @law_spT (oneTb Pt q) _ _ _ _ hl hS fun p hp => by
    rw [List.mem_singleton.mp hp]
    exact LamX.TabS.nil hT
omit [TbC] in
/-- a written part holds no table that is empty -/
theorem tab_none {K : PySem.W.Frag} {h : Heap} {Pt : Addr} (X : K.In h) (hT : h.get? Pt = some { cls := .none, data := .fields #[] }) (hK : PySem.W.noTabs K = true) : K.lookup Pt = none := by
  cases e : K.lookup Pt with
  | none => rfl
  | some o =>
    have h1 := X _ _ e
    rw [hT] at h1
    cases h1
    exact absurd (show false = true from List.all_eq_true.mp hK _ (PySem.W.mem_of_lookupK e)) Bool.false_ne_true
end DL
namespace DL
variable [TbC]
open PySem PySem.Spec PyProof.Rows L2
section
variable {P : Program} {w : World} {K : PySem.W.Frag} {mg : Str → Option Value} {base : Heap}
theorem takeE {N : List Str} {qual : Str} {st : Stmt} {f : Addr} {cdv : Value} {A : Around} {outer : List Env} {s : Shared} {H : Hp} {E : XK} : Takes (bx P w K mg base N qual st f cdv A outer s H E) fun c d _ H => E c d H := takes_of rfl rfl rfl rfl
theorem lamK {X : Cx} {A : Around} {outer : List Env} {s : Shared} {H : Hp} {E : XK} {scope : Scope} {f c' : Addr} : (LamX.lamCx X A outer s H E scope f c').K = X.K := rfl
theorem lamW {X : Cx} {A : Around} {outer : List Env} {s : Shared} {H : Hp} {E : XK} {scope : Scope} {f c' : Addr} : (LamX.lamCx X A outer s H E scope f c').w = X.w := rfl
theorem lamR {X : Cx} {A : Around} {outer : List Env} {s : Shared} {H : Hp} {E : XK} {scope : Scope} {f c' : Addr} : (LamX.lamCx X A outer s H E scope f c').prog = X.prog := rfl
theorem bxK {N : List Str} {qual : Str} {st : Stmt} {f : Addr} {cdv : Value} {A : Around} {outer : List Env} {s : Shared} {H : Hp} {E : XK} : (bx P w K mg base N qual st f cdv A outer s H E).K = K := rfl
theorem bxW {N : List Str} {qual : Str} {st : Stmt} {f : Addr} {cdv : Value} {A : Around} {outer : List Env} {s : Shared} {H : Hp} {E : XK} : (bx P w K mg base N qual st f cdv A outer s H E).w = w := rfl
theorem bxR {N : List Str} {qual : Str} {st : Stmt} {f : Addr} {cdv : Value} {A : Around} {outer : List Env} {s : Shared} {H : Hp} {E : XK} : (bx P w K mg base N qual st f cdv A outer s H E).prog = P := rfl
theorem seq_stop {t u : DS} {d : DEnds} {ρ : Rho} (h : ∀ N : Rho → Prop, t { nx := N, rt := d.rt, bk := d.bk, ct := d.ct } ρ) : dSeq t u d ρ := h (u d)
theorem loop_stop {g : DG} {tb : DS} {d : DEnds} {x : D} {r : List D} {ρ : Rho} (h : ∀ N : Rho → Prop, g x ρ fun ρ1 => tb { nx := N, rt := d.rt, bk := d.nx, ct := N } ρ1) : loopD g tb d (x :: r) ρ := h _
omit [TbC] in
theorem exm_two {C CE AB : Addr} {b1 b2 : Bool} (e1 : PySem.W.subIn K (.ref CE) (.type "BaseException") = some true) (c1 : PySem.W.isClsIn K CE = true) (t1 : PySem.W.typeIn K (.ref CE) = some (.type "type")) (s1 : PySem.W.subIn K (.ref C) (.ref CE) = some b1)
    (e2 : PySem.W.subIn K (.ref AB) (.type "BaseException") = some true) (c2 : PySem.W.isClsIn K AB = true) (t2 : PySem.W.typeIn K (.ref AB) = some (.type "type")) (s2 : PySem.W.subIn K (.ref C) (.ref AB) = some b2) (h : (b1 || b2) = true) : PySem.W.exmAny K (.ref C) [.ref CE, .ref AB] = some true := by
  unfold PySem.W.isClsIn at c1 c2
  simp [PySem.W.exmAny, PySem.W.exmOne, PySem.W.kitCls, e1, e2, c1, c2, t1, t2, s1, s2]
  simpa using h
omit [TbC] in
theorem law_atS {l : PySem.W.OpenLaw} {fa c Pt : Addr} {h : Heap} {fd : FuncData} {x q : Str} {k : Nat} (X : K.In h) (hT : h.get? Pt = some { cls := .none, data := .fields #[] }) (nT : PySem.W.noTabs K = true) (hc : PySem.W.codeHdIn K c Pt = true) (hb : ∀ (s : Shared) (u : Value), BindsTo s fd ⟨[u], []⟩ [(x, u)])
    (F : ∀ base : Heap, K.In base → base.Ns mainGlobals mg → LamX.TabB base mg c Pt → FnOk l.prog w K mg base (L2.CX l.prog w) k fa fd [x] (@SpW (oneTb Pt q) K wpLaw)) : LamX.LawAtS l w K (L2.CX l.prog w) k 63 x mg fa h := by
  refine ⟨fd, [(c, Pt)], _, fun p hp => ?_, fun p hp => ?_, fun p hp => ?_, hb, fun H a ns hl _ hH hS => law_sp1 hl hS (hH (c, Pt) (List.mem_singleton.mpr rfl)), fun base b1 b2 b3 => F base b1 b2 (b3 (c, Pt) (List.mem_singleton.mpr rfl))⟩
  · rw [List.mem_singleton.mp hp]
    exact hT
  · rw [List.mem_singleton.mp hp]
    exact tab_none X hT nT
  · rw [List.mem_singleton.mp hp]
    exact PySem.W.codeHd_of_K X hc
end
end DL
namespace DL
open PySem PySem.Spec PyProof.Rows L2
instance (priority := low) dfltTb : TbC := noTb
def turnP (t m x y : Int) : Int × Int :=
  if t = 1 then (-y, if m = 1 then -x else x) else if t = 2 then (-(if m = 1 then -x else x), -y) else if t = 3 then (y, -(if m = 1 then -x else x)) else (if m = 1 then -x else x, y)
def wp_turned_point (ds : List D) (Q : D → Prop) (Ed : DX → Prop) : Prop := match ds with
  | [.int t, .int m, .tup [.int x, .int y]] => Q (.tup [.int (turnP t m x y).1, .int (turnP t m x y).2])
  | _ => False
def wp_is_whole (ds : List D) (Q : D → Prop) (Ed : DX → Prop) : Prop := match ds with
  | [.int _] => Q (.bl true)
  | [.bl _] => Q (.bl false)
  | [.str _] => Q (.bl false)
  | [.non] => Q (.bl false)
  | [.tup _] => Q (.bl false)
  | [.lst _] => Q (.bl false)
  | _ => False
def bI (b : Bool) : Int := if b then 1 else 0
def wp_small (ds : List D) (Q : D → Prop) (Ed : DX → Prop) : Prop := match ds with
  | [.bag] => ∀ n : Int, -1000003 ≤ n → n ≤ 1000003 → Q (.int n)
  | _ => False
theorem turnP_b {t m a b B : Int} (h1 : -B ≤ a) (h2 : a ≤ B) (h3 : -B ≤ b) (h4 : b ≤ B) : -B ≤ (turnP t m a b).1 ∧ (turnP t m a b).1 ≤ B ∧ -B ≤ (turnP t m a b).2 ∧ (turnP t m a b).2 ≤ B := by
  unfold turnP
  (repeat' split) <;> refine ⟨?_, ?_, ?_, ?_⟩ <;> dsimp only <;> omega
def bkP (t m : Int) : Int := if m = 1 then t else (-t) % 4
theorem bI_01 {m : Int} (h0 : 0 ≤ m) (h1 : m < 2) : bI (m == 1) = m := by
  have z : m = 0 ∨ m = 1 := by omega
  rcases z with rfl | rfl <;> rfl
theorem bkP_b {t m : Int} (h0 : 0 ≤ t) (h1 : t < 4) : 0 ≤ bkP t m ∧ bkP t m < 4 := by
  unfold bkP
  split <;> omega
theorem q4 {t : Int} (h0 : 0 ≤ t) (h1 : t < 4) : t = 0 ∨ t = 1 ∨ t = 2 ∨ t = 3 := by omega
theorem q2 {m : Int} (h0 : 0 ≤ m) (h1 : m < 2) : m = 0 ∨ m = 1 := by omega
theorem turnP_0 {t m : Int} : turnP t m 0 0 = (0, 0) := by
  unfold turnP
  (repeat' split) <;> simp
def wp_law_of (ds : List D) (Q : D → Prop) (Ed : DX → Prop) : Prop := ∃ xs, ds = [.bag, .lst xs] ∧ 0 < xs.length ∧ xs.length ≤ 1000 ∧ ∀ x, x ∈ xs → Q x
def wordsL : List Str := ["call", "curve", "cut", "define", "end", "keep", "let", "m", "mirror", "move", "never", "none", "nothing", "odd", "outline", "paint", "plain", "repeat", "solid", "stain", "turn", "wipe"]
/-- a name: 1 to 8 small letters and no word -/
def NameOk (s : Str) : Prop := ∃ l : List Nat, s = ⟨l.toArray⟩ ∧ 1 ≤ l.length ∧ l.length ≤ 8 ∧ (∀ c, c ∈ l → 97 ≤ c ∧ c ≤ 122) ∧ s ∉ wordsL
/-- a text that may become a name -/
def PreName (n : Nat) (s : Str) : Prop := ∃ l : List Nat, s = ⟨l.toArray⟩ ∧ 1 ≤ l.length ∧ l.length ≤ n + 1 ∧ (∀ c, c ∈ l → 97 ≤ c ∧ c ≤ 122) ∧ (∃ c r, l = c :: r ∧ (c = 97 ∨ c = 98 ∨ c = 99 ∨ c = 113 ∨ c = 122))
theorem PreName.grow {n : Nat} {s : Str} {c : Nat} (h : PreName n s) (hc : 97 ≤ c ∧ c ≤ 122) : PreName (n + 1) (s ++ ⟨#[c]⟩) := by
  obtain ⟨l, rfl, h1, h2, h3, d, r, rfl, hd⟩ := h
  refine ⟨d :: r ++ [c], ?_, by simp, by simp at h2 ⊢; omega, fun x hx => ?_, d, r ++ [c], rfl, hd⟩
  · show Str.mk ((d :: r).toArray ++ #[c]) = _
    simp
  · rcases List.mem_append.mp hx with hx | hx
    · exact h3 x hx
    · simp at hx
      subst hx
      exact hc
theorem PreName.mono {n m : Nat} {s : Str} (h : PreName n s) (hm : n ≤ m) : PreName m s := by
  obtain ⟨l, e, h1, h2, h3, h4⟩ := h
  exact ⟨l, e, h1, by omega, h3, h4⟩
theorem PreName.len {n : Nat} {s : Str} (h : PreName n s) : s.length ≤ n + 1 := by
  obtain ⟨l, rfl, h1, h2, _⟩ := h
  show (l.toArray).size ≤ _
  simpa using h2
/-- a move's parts -/
structure Mv where
  x : Int
  y : Int
  t : Int
  m : Int
def Mv.l (f : Mv) : List D := [.int f.x, .int f.y, .int f.t, .int f.m]
def Mv.fs (f : Mv) : List (Str × D) := [("parts", .tup f.l)]
structure Mv.Ok (f : Mv) : Prop where
  t0 : 0 ≤ f.t
  t1 : f.t < 4
  m0 : 0 ≤ f.m
  m1 : f.m < 2
def Mv.one : Mv := ⟨0, 0, 0, 0⟩
def Mv.mul (f g : Mv) : Mv := ⟨(turnP f.t f.m g.x g.y).1 + f.x, (turnP f.t f.m g.x g.y).2 + f.y, (f.t + (if f.m = 0 then g.t else -g.t)) % 4, (f.m + g.m) % 2⟩
def Mv.inv (f : Mv) : Mv := ⟨-(turnP (bkP f.t f.m) f.m f.x f.y).1, -(turnP (bkP f.t f.m) f.m f.x f.y).2, bkP f.t f.m, f.m⟩
theorem Mv.one_ok : Mv.one.Ok := ⟨by decide, by decide, by decide, by decide⟩
theorem Mv.Ok.mul {f g : Mv} (_ : f.Ok) (_ : g.Ok) : (f.mul g).Ok := ⟨Int.emod_nonneg _ (by decide), Int.emod_lt_of_pos _ (by decide), Int.emod_nonneg _ (by decide), Int.emod_lt_of_pos _ (by decide)⟩
theorem Mv.Ok.inv {f : Mv} (h : f.Ok) : f.inv.Ok := by
  obtain ⟨t0, t1, m0, m1⟩ := h
  obtain ⟨h1, h2⟩ := bkP_b (m := f.m) t0 t1
  exact ⟨h1, h2, m0, m1⟩
theorem turnP_add {t m a b c d : Int} : turnP t m (a + c) (b + d) = ((turnP t m a b).1 + (turnP t m c d).1, (turnP t m a b).2 + (turnP t m c d).2) := by
  unfold turnP
  (repeat' split) <;> simp <;> omega
theorem turnP_turn {t m s n a b : Int} (t0 : 0 ≤ t) (t1 : t < 4) (m0 : 0 ≤ m) (m1 : m < 2) (s0 : 0 ≤ s) (s1 : s < 4) (n0 : 0 ≤ n) (n1 : n < 2) :
    turnP t m (turnP s n a b).1 (turnP s n a b).2 = turnP ((t + (if m = 0 then s else -s)) % 4) ((m + n) % 2) a b := by
  rcases q4 t0 t1 with rfl | rfl | rfl | rfl <;> rcases q4 s0 s1 with rfl | rfl | rfl | rfl <;> rcases q2 m0 m1 with rfl | rfl <;> rcases q2 n0 n1 with rfl | rfl <;> simp [turnP]
theorem Mv.ext {f g : Mv} (h1 : f.x = g.x) (h2 : f.y = g.y) (h3 : f.t = g.t) (h4 : f.m = g.m) : f = g := by
  cases f
  cases g
  simp_all
instance : DecidableEq Mv := fun f g => decidable_of_iff (f.x = g.x ∧ f.y = g.y ∧ f.t = g.t ∧ f.m = g.m) ⟨fun h => Mv.ext h.1 h.2.1 h.2.2.1 h.2.2.2, fun h => by subst h; exact ⟨rfl, rfl, rfl, rfl⟩⟩
theorem Mv.assoc {f g h : Mv} (hf : f.Ok) (hg : g.Ok) : (f.mul g).mul h = f.mul (g.mul h) := by
  have e := turnP_turn (a := h.x) (b := h.y) hf.t0 hf.t1 hf.m0 hf.m1 hg.t0 hg.t1 hg.m0 hg.m1
  refine Mv.ext ?_ ?_ ?_ ?_
  · simp only [Mv.mul, turnP_add, e]
    omega
  · simp only [Mv.mul, turnP_add, e]
    omega
  · obtain ⟨fx, fy, ft, fm⟩ := f
    obtain ⟨gx, gy, gt, gm⟩ := g
    have m0 : 0 ≤ fm := hf.m0
    have m1 : fm < 2 := hf.m1
    have n0 : 0 ≤ gm := hg.m0
    have n1 : gm < 2 := hg.m1
    clear e hf hg
    rcases q2 m0 m1 with rfl | rfl <;> rcases q2 n0 n1 with rfl | rfl <;> simp [Mv.mul] <;> omega
  · simp only [Mv.mul]
    omega
theorem turnP_one {a b : Int} : turnP 0 0 a b = (a, b) := rfl
theorem Mv.one_mul {f : Mv} (h : f.Ok) : Mv.one.mul f = f := by
  obtain ⟨t0, t1, m0, m1⟩ := h
  refine Mv.ext ?_ ?_ ?_ ?_ <;> simp only [Mv.mul, Mv.one, turnP_one, if_true] <;> omega
theorem Mv.mul_one {f : Mv} (h : f.Ok) : f.mul Mv.one = f := by
  obtain ⟨t0, t1, m0, m1⟩ := h
  refine Mv.ext ?_ ?_ ?_ ?_ <;> simp only [Mv.mul, Mv.one, turnP_0] <;> (try split) <;> omega
def Mv.pow (f : Mv) : Nat → Mv
  | 0 => Mv.one
  | n + 1 => f.mul (f.pow n)
theorem Mv.Ok.pow {f : Mv} (h : f.Ok) : ∀ n : Nat, (f.pow n).Ok
  | 0 => Mv.one_ok
  | n + 1 => h.mul (h.pow n)
theorem Mv.pow_add {f : Mv} (h : f.Ok) : ∀ a b : Nat, f.pow (a + b) = (f.pow a).mul (f.pow b)
  | 0, b => by
    rw [Nat.zero_add]
    exact (Mv.one_mul (h.pow b)).symm
  | a + 1, b => by
    rw [show a + 1 + b = (a + b) + 1 by omega]
    show f.mul (f.pow (a + b)) = (f.mul (f.pow a)).mul (f.pow b)
    rw [Mv.pow_add h a b, Mv.assoc h (h.pow a)]
theorem Mv.pow_mul {f : Mv} (h : f.Ok) (a : Nat) : ∀ b : Nat, f.pow (a * b) = (f.pow a).pow b
  | 0 => rfl
  | b + 1 => by
    rw [Nat.mul_succ, Nat.add_comm, Mv.pow_add h]
    show (f.pow a).mul (f.pow (a * b)) = (f.pow a).mul ((f.pow a).pow b)
    rw [Mv.pow_mul h a b]
theorem Mv.mul4 {f : Mv} (h : f.Ok) : (f.mul f).mul (f.mul f) = f.pow 4 := by
  have e2 : f.pow 2 = f.mul f := by
    show f.mul (f.mul Mv.one) = _
    rw [Mv.mul_one h]
  rw [show (4 : Nat) = 2 + 2 by rfl, Mv.pow_add h, e2]
/-- four times any move are a shift -/
theorem Mv.pow4 {f : Mv} (h : f.Ok) : (f.pow 4).t = 0 ∧ (f.pow 4).m = 0 := by
  obtain ⟨x, y, t, m⟩ := f
  obtain ⟨t0, t1, m0, m1⟩ := h
  simp only at t0 t1 m0 m1
  rcases q4 t0 t1 with rfl | rfl | rfl | rfl <;> rcases q2 m0 m1 with rfl | rfl <;> simp [Mv.pow, Mv.mul, Mv.one]
theorem Mv.pow_shift {a b : Int} : ∀ n : Nat, (Mv.mk a b 0 0).pow n = ⟨a * n, b * n, 0, 0⟩
  | 0 => by simp [Mv.pow, Mv.one]
  | n + 1 => by
    show (Mv.mk a b 0 0).mul ((Mv.mk a b 0 0).pow n) = _
    rw [Mv.pow_shift n]
    refine Mv.ext ?_ ?_ rfl rfl
    · show a * (n : Int) + a = a * ((n + 1 : Nat) : Int)
      push_cast
      rw [Int.mul_add, Int.mul_one]
    · show b * (n : Int) + b = b * ((n + 1 : Nat) : Int)
      push_cast
      rw [Int.mul_add, Int.mul_one]
/-- a power by fours -/
theorem Mv.pow_four {f : Mv} (h : f.Ok) (n : Nat) : f.pow n = (Mv.mk ((f.pow 4).x * (n / 4 : Nat)) ((f.pow 4).y * (n / 4 : Nat)) 0 0).mul (f.pow (n % 4)) := by
  have e : n = 4 * (n / 4) + n % 4 := by omega
  have e4 : f.pow 4 = ⟨(f.pow 4).x, (f.pow 4).y, 0, 0⟩ := Mv.ext rfl rfl (Mv.pow4 h).1 (Mv.pow4 h).2
  have e2 : f.pow (4 * (n / 4)) = Mv.mk ((f.pow 4).x * (n / 4 : Nat)) ((f.pow 4).y * (n / 4 : Nat)) 0 0 := by
    rw [Mv.pow_mul h, e4, Mv.pow_shift]
  calc f.pow n = f.pow (4 * (n / 4) + n % 4) := by rw [← e]
    _ = (f.pow (4 * (n / 4))).mul (f.pow (n % 4)) := Mv.pow_add h _ _
    _ = _ := by rw [e2]
theorem Mv.mul_b {f g : Mv} {A B : Int} (h1 : -A ≤ f.x ∧ f.x ≤ A) (h2 : -A ≤ f.y ∧ f.y ≤ A) (h3 : -B ≤ g.x ∧ g.x ≤ B) (h4 : -B ≤ g.y ∧ g.y ≤ B) : (-(A + B) ≤ (f.mul g).x ∧ (f.mul g).x ≤ A + B) ∧ (-(A + B) ≤ (f.mul g).y ∧ (f.mul g).y ≤ A + B) := by
  obtain ⟨b1, b2, b3, b4⟩ := turnP_b (t := f.t) (m := f.m) h3.1 h3.2 h4.1 h4.2
  simp only [Mv.mul]
  omega
theorem Mv.inv_b {f : Mv} {A : Int} (h1 : -A ≤ f.x ∧ f.x ≤ A) (h2 : -A ≤ f.y ∧ f.y ≤ A) : (-A ≤ f.inv.x ∧ f.inv.x ≤ A) ∧ (-A ≤ f.inv.y ∧ f.inv.y ≤ A) := by
  obtain ⟨b1, b2, b3, b4⟩ := turnP_b (t := bkP f.t f.m) (m := f.m) h1.1 h1.2 h2.1 h2.2
  simp only [Mv.inv]
  omega
theorem Mv.pow_b {f : Mv} {A : Int} (h1 : -A ≤ f.x ∧ f.x ≤ A) (h2 : -A ≤ f.y ∧ f.y ≤ A) : ∀ n : Nat, (-(A * n) ≤ (f.pow n).x ∧ (f.pow n).x ≤ A * n) ∧ (-(A * n) ≤ (f.pow n).y ∧ (f.pow n).y ≤ A * n)
  | 0 => by simp [Mv.pow, Mv.one]
  | n + 1 => by
    obtain ⟨i1, i2⟩ := Mv.pow_b h1 h2 n
    have e : A * ((n + 1 : Nat) : Int) = A + A * (n : Int) := by
      push_cast
      rw [Int.mul_add, Int.mul_one, Int.add_comm]
    rw [e]
    exact Mv.mul_b h1 h2 i1 i2
/-- a power, also a negative one -/
def Mv.zpow (f : Mv) (n : Int) : Mv := if 0 ≤ n then f.pow n.toNat else f.inv.pow (-n).toNat
theorem Mv.Ok.zpow {f : Mv} (h : f.Ok) (n : Int) : (f.zpow n).Ok := by
  unfold Mv.zpow
  split
  · exact h.pow _
  · exact h.inv.pow _
def Mv.In (f : Mv) (B : Int) : Prop := (-B ≤ f.x ∧ f.x ≤ B) ∧ (-B ≤ f.y ∧ f.y ≤ B)
abbrev BM : Int := 1000000000000
def wp_cmb (ds : List D) (Q : D → Prop) (Ed : DX → Prop) : Prop := ∃ f g : Mv, ds = [.tup f.l, .tup g.l] ∧ Q (.tup (f.mul g).l)
def wp_inv (ds : List D) (Q : D → Prop) (Ed : DX → Prop) : Prop := ∃ f : Mv, ds = [.tup f.l] ∧ Q (.tup f.inv.l)
def wp_rep (ds : List D) (Q : D → Prop) (Ed : DX → Prop) : Prop := ∃ (f : Mv) (n : Nat), ds = [.tup f.l, .int n] ∧ (f.Ok ∧ f.In 10000000000000) ∧ Q (.tup (f.pow n).l)
theorem Mv.In.le {f : Mv} {A B : Int} (h : f.In A) (e : A ≤ B) : f.In B := by
  obtain ⟨⟨h1, h2⟩, h3, h4⟩ := h
  exact ⟨⟨by omega, by omega⟩, by omega, by omega⟩
theorem Mv.In.inv {f : Mv} {A : Int} (h : f.In A) : f.inv.In A := Mv.inv_b h.1 h.2
theorem Mv.In.mul {f g : Mv} {A B : Int} (h : f.In A) (h' : g.In B) : (f.mul g).In (A + B) := Mv.mul_b h.1 h.2 h'.1 h'.2
theorem Mv.In.pow {f : Mv} {A : Int} (h : f.In A) (n : Nat) : (f.pow n).In (A * n) := Mv.pow_b h.1 h.2 n
theorem Mv.In.zpow {f : Mv} {A : Int} (h : f.In A) (n : Int) : (f.zpow n).In (A * n.natAbs) := by
  unfold Mv.zpow
  split
  · rw [show n.natAbs = n.toNat by omega]
    exact h.pow _
  · rw [show n.natAbs = (-n).toNat by omega]
    exact h.inv.pow _
/-- the steps of a power -/
def Mv.base (f : Mv) (n : Int) : Mv := if 0 ≤ n then f else f.inv
theorem Mv.Ok.base {f : Mv} (h : f.Ok) (n : Int) : (f.base n).Ok := by
  unfold Mv.base
  split
  · exact h
  · exact h.inv
structure U where
  n : Str
  f : Mv
  deriving DecidableEq
def U.k (u : U) : List Key := [.inr u.n, .inl u.f.x, .inl u.f.y, .inl u.f.t, .inl u.f.m]
def U.d (u : U) : D := .tup [.str u.n, .int u.f.x, .int u.f.y, .int u.f.t, .int u.f.m]
theorem U.k_inj {a b : U} (h : a.k = b.k) : a = b := by
  obtain ⟨n, x, y, t, m⟩ := a
  obtain ⟨n', x', y', t', m'⟩ := b
  simp only [U.k, List.cons.injEq, Sum.inr.injEq, Sum.inl.injEq] at h
  obtain ⟨rfl, rfl, rfl, rfl, rfl, _⟩ := h
  rfl
abbrev Tm := U × Int
def tmD (p : Tm) : D := .tup [p.1.d, .int p.2]
def ltU (a b : U) : Bool := DS.ltK a.k b.k
theorem ltU_asymm {a b : U} (h : ltU a b = true) (h' : ltU b a = true) : False := by
  have z := DS.lexO.trans _ _ _ (show DS.lexO.blt (DS.kl a.k) (DS.kl b.k) = true from h) h'
  rw [DS.lexO.irrefl] at z
  cases z
theorem ltU_trans {a b c : U} (h : ltU a b = true) (h' : ltU b c = true) : ltU a c = true := DS.lexO.trans _ _ _ h h'
theorem ltU_total {a b : U} (h : ltU a b = false) (hne : a ≠ b) : ltU b a = true := by
  cases z : ltU b a
  · exact absurd (U.k_inj (DS.kl_inj (DS.lexO.total _ _ h z))) hne
  · rfl
def getU (acc : List Tm) (u : U) : Int := ((acc.find? fun p => decide (p.1 = u)).map (·.2)).getD 0
def putU (acc : List Tm) (u : U) (n : Int) : List Tm := if (acc.find? fun p => decide (p.1 = u)).isSome then acc.map fun p => if p.1 = u then (p.1, n) else p else acc ++ [(u, n)]
def accU (acc : List Tm) : List Tm → List Tm
  | [] => acc
  | p :: r => accU (putU acc p.1 (getU acc p.1 + p.2)) r
def insU (p : Tm) : List Tm → List Tm
  | [] => [p]
  | q :: r => if ltU p.1 q.1 = true then p :: q :: r else q :: insU p r
def sortU (l : List Tm) : List Tm := l.foldr insU []
def mergeU (ps : List Tm) : List Tm := (sortU (accU [] ps)).filter fun p => decide (p.2 ≠ 0)
theorem putU_len (acc : List Tm) (u : U) (n : Int) : (putU acc u n).length ≤ acc.length + 1 := by
  unfold putU
  split <;> simp
theorem putU_nodup {acc : List Tm} (h : (acc.map (·.1)).Nodup) (u : U) (n : Int) : ((putU acc u n).map (·.1)).Nodup := by
  unfold putU
  split
  · have e : (acc.map fun p => if p.1 = u then (p.1, n) else p).map (·.1) = acc.map (·.1) := by
      rw [List.map_map]
      refine List.map_congr_left fun p _ => ?_
      simp only [Function.comp]
      split <;> rfl
    rw [e]
    exact h
  · rename_i hn
    rw [List.map_append, List.nodup_append]
    refine ⟨h, by simp, fun a ha b hb => ?_⟩
    simp only [List.map_cons, List.map_nil, List.mem_singleton] at hb
    subst hb
    rintro rfl
    obtain ⟨p, hp, e⟩ := List.mem_map.mp ha
    refine hn ?_
    rw [List.find?_isSome]
    exact ⟨p, hp, by simpa using e⟩
theorem accU_nodup : ∀ {ps acc : List Tm}, (acc.map (·.1)).Nodup → ((accU acc ps).map (·.1)).Nodup
  | [], _, h => h
  | p :: r, _, h => accU_nodup (ps := r) (putU_nodup h _ _)
theorem accU_len : ∀ (ps acc : List Tm), (accU acc ps).length ≤ acc.length + ps.length
  | [], acc => Nat.le_refl _
  | p :: r, acc => by
    have h1 := accU_len r (putU acc p.1 (getU acc p.1 + p.2))
    have h2 := putU_len acc p.1 (getU acc p.1 + p.2)
    rw [List.length_cons]
    show (accU (putU acc p.1 (getU acc p.1 + p.2)) r).length ≤ _
    omega
theorem insU_perm (p : Tm) : ∀ l : List Tm, (insU p l).Perm (p :: l)
  | [] => List.Perm.refl _
  | q :: r => by
    unfold insU
    split
    · exact List.Perm.refl _
    · exact ((insU_perm p r).cons q).trans (List.Perm.swap p q r)
theorem sortU_perm : ∀ l : List Tm, (sortU l).Perm l
  | [] => List.Perm.refl _
  | p :: r => (insU_perm p (sortU r)).trans ((sortU_perm r).cons p)
theorem insU_sorted {p : Tm} : ∀ {l : List Tm}, l.Pairwise (fun a b => ltU a.1 b.1 = true) → (∀ q ∈ l, q.1 ≠ p.1) → (insU p l).Pairwise fun a b => ltU a.1 b.1 = true
  | [], _, _ => by simp [insU]
  | q :: r, h, hn => by
    unfold insU
    obtain ⟨h1, h2⟩ := List.pairwise_cons.mp h
    split
    · rename_i hl
      refine List.pairwise_cons.mpr ⟨fun x hx => ?_, h⟩
      rcases List.mem_cons.mp hx with e | hx
      · subst e
        exact hl
      · exact ltU_trans hl (h1 x hx)
    · rename_i hl
      refine List.pairwise_cons.mpr ⟨fun x hx => ?_, insU_sorted h2 fun y hy => hn y (List.mem_cons_of_mem _ hy)⟩
      rcases List.mem_cons.mp ((insU_perm p r).mem_iff.mp hx) with e | hx
      · subst e
        exact ltU_total (by simpa using hl) fun z => hn q List.mem_cons_self z.symm
      · exact h1 x hx
theorem sortU_sorted : ∀ {l : List Tm}, (l.map (·.1)).Nodup → (sortU l).Pairwise fun a b => ltU a.1 b.1 = true
  | [], _ => List.Pairwise.nil
  | p :: r, h => by
    obtain ⟨h1, h2⟩ := List.nodup_cons.mp h
    exact insU_sorted (sortU_sorted h2) fun q hq e => h1 (List.mem_map.mpr ⟨q, (sortU_perm r).mem_iff.mp hq, e⟩)
theorem sorted_same {α : Type} {R : α → α → Prop} (as : ∀ a b, R a b → R b a → False) : ∀ {l m : List α}, l.Perm m → l.Pairwise R → m.Pairwise R → l = m
  | [], m, p, _, _ => p.symm.eq_nil.symm
  | a :: l, [], p, _, _ => absurd p.eq_nil (by simp)
  | a :: l, b :: m, p, h1, h2 => by
    obtain ⟨a1, a2⟩ := List.pairwise_cons.mp h1
    obtain ⟨b1, b2⟩ := List.pairwise_cons.mp h2
    have hab : a = b := by
      rcases List.mem_cons.mp (p.mem_iff.mp List.mem_cons_self) with e | e
      · exact e
      · rcases List.mem_cons.mp (p.symm.mem_iff.mp List.mem_cons_self) with z | z
        · exact z.symm
        · exact (as a b (a1 b z) (b1 a e)).elim
    subst hab
    rw [sorted_same as p.cons_inv a2 b2]
def itx (i : Int) : Str := (toString i : String)
/-- no more than forty digits -/
def Sm (i : Int) : Prop := i.natAbs < 10 ^ 40
theorem Sm.len {i : Int} (h : Sm i) : (itx i).length ≤ 41 := by
  have e := int_text_length_le10 (k := 40) (by decide) h
  show (Str.ofString (toString i)).length ≤ 41
  rw [PySem.ofString_length]
  exact e
def timesT (n : Int) : Str := if n = 1 then "" else itx n ++ " * "
structure U.Ok (u : U) : Prop where
  m : u.f.m = 0 ∨ u.f.m = 1
  n : u.n.length ≤ 100
  x : Sm u.f.x
  y : Sm u.f.y
  t : Sm u.f.t
def mTx (m : Int) : Str := if m = 1 then " m" else ""
def U.tx (u : U) : Str := if u.f.x = 0 ∧ u.f.y = 0 ∧ u.f.t = 0 ∧ u.f.m = 0 then u.n else u.n ++ "[" ++ itx u.f.x ++ " " ++ itx u.f.y ++ " " ++ itx u.f.t ++ mTx u.f.m ++ "]"
inductive Sg where
  | and | or | sub | xor
  deriving DecidableEq
def Sg.s : Sg → Str
  | .and => "&"
  | .or => "|"
  | .sub => "-"
  | .xor => "^"
inductive Nd where
  | non
  | ask (odd : Bool) (ts : List Tm) (os : List (Nd × Int))
  | jn (s : Sg) (a b : Nd)
abbrev Os := List (Nd × Int)
def kindS (odd : Bool) : Str := if odd = true then "odd" else "solid"
mutual
def Nd.d : Nd → D
  | .non => .tup [.str "none"]
  | .ask o ts os => .tup [.str (kindS o), .tup [.tup (ts.map tmD), .tup (osD os)]]
  | .jn s a b => .tup [.str s.s, a.d, b.d]
def osD : Os → List D
  | [] => []
  | (n, k) :: r => .tup [n.d, .int k] :: osD r
end
mutual
def Nd.ht : Nd → Nat
  | .non => 0
  | .ask _ _ os => htL os + 1
  | .jn _ a b => max a.ht b.ht + 1
def htL : Os → Nat
  | [] => 0
  | (n, _) :: r => max n.ht (htL r)
end
mutual
def Nd.Ok : Nd → Prop
  | .non => True
  | .ask _ ts os => ts.length ≤ 1000 ∧ os.length ≤ 1000 ∧ (∀ p ∈ ts, p.1.Ok ∧ Sm p.2) ∧ OkL os
  | .jn _ a b => a.Ok ∧ b.Ok
def OkL : Os → Prop
  | [] => True
  | (n, k) :: r => (n.Ok ∧ Sm k) ∧ OkL r
end
def FmOk (ts : List Tm) (os : Os) : Prop := ts.length ≤ 1000 ∧ os.length ≤ 1000 ∧ (∀ p ∈ ts, p.1.Ok ∧ Sm p.2) ∧ OkL os
theorem OkL.mem : ∀ {os : Os}, OkL os → ∀ p ∈ os, p.1.Ok ∧ Sm p.2
  | (n, k) :: r, ⟨h1, h2⟩, p, hp => by
    rcases List.mem_cons.mp hp with e | hp
    · subst e
      exact h1
    · exact OkL.mem h2 p hp
theorem all_map {α : Type} {f : α → D} {n : Nat} : ∀ {l : List α}, (∀ x ∈ l, (f x).isData n = true) → allData n (l.map f) = true
  | [], _ => rfl
  | x :: r, h => by
    rw [List.map_cons]
    unfold allData
    rw [h x List.mem_cons_self, all_map fun y hy => h y (List.mem_cons_of_mem _ hy)]
    rfl
theorem data_up {x : D} {n m : Nat} (h : n ≤ m) (hx : x.isData n = true) : x.isData m = true := by
  obtain ⟨k, rfl⟩ := Nat.exists_eq_add_of_le h
  clear h
  induction k with
  | zero => exact hx
  | succ k ih => exact isData_mono _ _ ih
mutual
theorem Nd.data : ∀ (nd : Nd) (m : Nat), nd.ht ≤ m → nd.d.isData (4 * m + 4) = true
  | .non, m, _ => rfl
  | .ask o ts os, m, h => by
    unfold Nd.ht at h
    obtain ⟨j, rfl⟩ : ∃ j, m = j + 1 := ⟨m - 1, by omega⟩
    have h1 : allData (4 * j + 5) (ts.map tmD) = true := all_map fun p _ => rfl
    have h2 : allData (4 * j + 5) (osD os) = true := os_data os j (by omega)
    show allData (4 * j + 7) [.str (kindS o), .tup [.tup (ts.map tmD), .tup (osD os)]] = true
    simp only [allData, D.isData, h1, h2, Bool.and_true]
  | .jn s a b, m, h => by
    unfold Nd.ht at h
    obtain ⟨j, rfl⟩ : ∃ j, m = j + 1 := ⟨m - 1, by omega⟩
    have e1 : a.d.isData (4 * j + 7) = true := data_up (by omega) (Nd.data a j (by omega))
    have e2 : b.d.isData (4 * j + 7) = true := data_up (by omega) (Nd.data b j (by omega))
    show allData (4 * j + 7) [.str s.s, a.d, b.d] = true
    simp only [allData, D.isData, e1, e2, Bool.and_true]
theorem os_data : ∀ (os : Os) (m : Nat), htL os ≤ m → allData (4 * m + 5) (osD os) = true
  | [], _, _ => rfl
  | (n, k) :: r, m, h => by
    unfold htL at h
    have h1 := Nd.data n m (by omega)
    have h2 := os_data r m (by omega)
    unfold osD
    simp only [allData, D.isData, h1, h2, Bool.and_true]
end
mutual
def Nd.size : Nd → Nat
  | .non => 1
  | .ask _ ts os => 1 + (ts.length + sizeL os)
  | .jn _ a b => 1 + a.size + b.size
def sizeL : Os → Nat
  | [] => 0
  | (n, _) :: r => (1 + n.size) + sizeL r
end
def tmP (p : Tm) : Int × Str := (p.2 * (1 - 2 * p.1.f.m), p.1.tx)
def sgnT (acc : Str) (n : Int) : Str := if acc = "" then (if n < 0 then "-" else "") else (if n < 0 then " - " else " + ")
def joinT : Str → List (Int × Str) → Str
  | acc, [] => acc
  | acc, (n, x) :: r => joinT (acc ++ sgnT acc n ++ timesT n.natAbs ++ x) r
def pieceT (ps : List (Int × Str)) : Str := if ps.isEmpty = true then "nothing" else joinT "" ps
mutual
def Nd.tx : Nd → Str
  | .non => "none"
  | .ask o ts os => kindS o ++ "(" ++ pieceT (ts.map tmP ++ osP os) ++ ")"
  | .jn s a b => "(" ++ a.tx ++ " " ++ s.s ++ " " ++ b.tx ++ ")"
def osP : Os → List (Int × Str)
  | [] => []
  | (n, k) :: r => (k, "outline(" ++ n.tx ++ ")") :: osP r
end
def fmT (ts : List Tm) (os : Os) : Str := pieceT (ts.map tmP ++ osP os)
theorem osP_map : ∀ os : Os, osP os = os.map fun p => (p.2, (("outline(" : Str) ++ p.1.tx ++ (")" : Str) : Str))
  | [] => rfl
  | (n, k) :: r => by
    show (k, (("outline(" : Str) ++ n.tx ++ (")" : Str) : Str)) :: osP r = _
    rw [osP_map r]
    rfl
abbrev Ac := Str × Int × Nd
def ltS (a b : Str) : Bool := decide (a.cps.toList < b.cps.toList)
theorem str_ext {a b : Str} (h : a.cps.toList = b.cps.toList) : a = b := by
  obtain ⟨x⟩ := a
  obtain ⟨y⟩ := b
  have e : x = y := Array.ext' h
  rw [e]
theorem ltS_asymm {a b : Str} (h : ltS a b = true) (h' : ltS b a = true) : False := by
  unfold ltS at h h'
  exact List.lt_irrefl _ (List.lt_trans (of_decide_eq_true h) (of_decide_eq_true h'))
theorem ltS_trans {a b c : Str} (h : ltS a b = true) (h' : ltS b c = true) : ltS a c = true := decide_eq_true (List.lt_trans (of_decide_eq_true h) (of_decide_eq_true h'))
theorem ltS_total {a b : Str} (h : ltS a b = false) (hne : a ≠ b) : ltS b a = true := by
  cases z : ltS b a
  · exact absurd (str_ext (strKind.total _ _ h z)) hne
  · rfl
def getO (acc : List Ac) (t : Str) : Int := ((acc.find? fun p => decide (p.1 = t)).map (·.2.1)).getD 0
def putO (acc : List Ac) (t : Str) (n : Int) (nd : Nd) : List Ac := if (acc.find? fun p => decide (p.1 = t)).isSome then acc.map fun p => if p.1 = t then (p.1, n, nd) else p else acc ++ [(t, n, nd)]
def accO (acc : List Ac) : Os → List Ac
  | [] => acc
  | p :: r => accO (putO acc p.1.tx (getO acc p.1.tx + p.2) p.1) r
def insO (p : Ac) : List Ac → List Ac
  | [] => [p]
  | q :: r => if ltS p.1 q.1 = true then p :: q :: r else q :: insO p r
def sortO (l : List Ac) : List Ac := l.foldr insO []
def Nd.isNon : Nd → Bool
  | .non => true
  | _ => false
def mergeO (ps : Os) : Os := ((sortO (accO [] ps)).filter fun p => decide (p.2.1 ≠ 0) && !p.2.2.isNon).map fun p => (p.2.2, p.2.1)
theorem putO_nodup {acc : List Ac} (h : (acc.map (·.1)).Nodup) (t : Str) (n : Int) (nd : Nd) : ((putO acc t n nd).map (·.1)).Nodup := by
  unfold putO
  split
  · have e : (acc.map fun p => if p.1 = t then (p.1, n, nd) else p).map (·.1) = acc.map (·.1) := by
      rw [List.map_map]
      refine List.map_congr_left fun p _ => ?_
      simp only [Function.comp]
      split <;> rfl
    rw [e]
    exact h
  · rename_i hn
    rw [List.map_append, List.nodup_append]
    refine ⟨h, by simp, fun a ha b hb => ?_⟩
    simp only [List.map_cons, List.map_nil, List.mem_singleton] at hb
    subst hb
    rintro rfl
    obtain ⟨p, hp, e⟩ := List.mem_map.mp ha
    refine hn ?_
    rw [List.find?_isSome]
    exact ⟨p, hp, by simpa using e⟩
/-- the nodes that are kept are nodes that came -/
theorem putO_nd {acc : List Ac} {t : Str} {n : Int} {nd : Nd} {q : Ac} (h : q ∈ putO acc t n nd) : q.2.2 = nd ∨ q ∈ acc := by
  unfold putO at h
  split at h
  · obtain ⟨p, hp, e⟩ := List.mem_map.mp h
    split at e
    · subst e
      exact .inl rfl
    · subst e
      exact .inr hp
  · rcases List.mem_append.mp h with h | h
    · exact .inr h
    · rw [List.mem_singleton.mp h]
      exact .inl rfl
theorem accO_nd : ∀ {ps : Os} {acc : List Ac} {q : Ac}, q ∈ accO acc ps → (∃ p ∈ ps, p.1 = q.2.2) ∨ ∃ a ∈ acc, a.2.2 = q.2.2
  | [], _, q, h => .inr ⟨q, h, rfl⟩
  | p :: r, acc, q, h => by
    rcases accO_nd (ps := r) h with ⟨x, hx, e⟩ | ⟨x, hx, e⟩
    · exact .inl ⟨x, List.mem_cons_of_mem _ hx, e⟩
    · rcases putO_nd hx with z | z
      · exact .inl ⟨p, List.mem_cons_self, z.symm.trans e⟩
      · exact .inr ⟨x, z, e⟩
theorem insO_perm (p : Ac) : ∀ l : List Ac, (insO p l).Perm (p :: l)
  | [] => List.Perm.refl _
  | q :: r => by
    unfold insO
    split
    · exact List.Perm.refl _
    · exact ((insO_perm p r).cons q).trans (List.Perm.swap p q r)
theorem sortO_perm : ∀ l : List Ac, (sortO l).Perm l
  | [] => List.Perm.refl _
  | p :: r => (insO_perm p (sortO r)).trans ((sortO_perm r).cons p)
theorem insO_sorted {p : Ac} : ∀ {l : List Ac}, l.Pairwise (fun a b => ltS a.1 b.1 = true) → (∀ q ∈ l, q.1 ≠ p.1) → (insO p l).Pairwise fun a b => ltS a.1 b.1 = true
  | [], _, _ => by simp [insO]
  | q :: r, h, hn => by
    unfold insO
    obtain ⟨h1, h2⟩ := List.pairwise_cons.mp h
    split
    · rename_i hl
      refine List.pairwise_cons.mpr ⟨fun x hx => ?_, h⟩
      rcases List.mem_cons.mp hx with e | hx
      · subst e
        exact hl
      · exact ltS_trans hl (h1 x hx)
    · rename_i hl
      refine List.pairwise_cons.mpr ⟨fun x hx => ?_, insO_sorted h2 fun y hy => hn y (List.mem_cons_of_mem _ hy)⟩
      rcases List.mem_cons.mp ((insO_perm p r).mem_iff.mp hx) with e | hx
      · subst e
        exact ltS_total (by simpa using hl) fun z => hn q List.mem_cons_self z.symm
      · exact h1 x hx
theorem sortO_sorted : ∀ {l : List Ac}, (l.map (·.1)).Nodup → (sortO l).Pairwise fun a b => ltS a.1 b.1 = true
  | [], _ => List.Pairwise.nil
  | p :: r, h => by
    obtain ⟨h1, h2⟩ := List.nodup_cons.mp h
    exact insO_sorted (sortO_sorted h2) fun q hq e => h1 (List.mem_map.mpr ⟨q, (sortO_perm r).mem_iff.mp hq, e⟩)
def insV (u : U) : List U → List U
  | [] => [u]
  | v :: r => if u = v then v :: r else if ltU u v = true then u :: v :: r else v :: insV u r
def setU (l : List U) : List U := l.foldr insV []
theorem insV_mem {u x : U} : ∀ {l : List U}, x ∈ insV u l ↔ x = u ∨ x ∈ l
  | [] => by simp [insV]
  | v :: r => by
    unfold insV
    split
    · rename_i e
      subst e
      simp
    · split
      · simp
      · rw [List.mem_cons, insV_mem, List.mem_cons]
        constructor
        · rintro (h | h | h)
          · exact .inr (.inl h)
          · exact .inl h
          · exact .inr (.inr h)
        · rintro (h | h | h)
          · exact .inr (.inl h)
          · exact .inl h
          · exact .inr (.inr h)
theorem setU_mem {x : U} : ∀ {l : List U}, x ∈ setU l ↔ x ∈ l
  | [] => Iff.rfl
  | v :: r => by
    show x ∈ insV v (setU r) ↔ _
    rw [insV_mem, setU_mem, List.mem_cons]
mutual
def Nd.unk : Nd → List U
  | .non => []
  | .ask _ ts os => setU (ts.map (·.1) ++ unkL os)
  | .jn _ a b => setU (a.unk ++ b.unk)
def unkL : Os → List U
  | [] => []
  | (n, _) :: r => n.unk ++ unkL r
end
def fmU (ts : List Tm) (os : Os) : List U := setU (ts.map (·.1) ++ unkL os)
def Sg.op : Sg → Bool → Bool → Bool
  | .and, a, b => a && b
  | .or, a, b => a || b
  | .sub, a, b => a && !b
  | .xor, a, b => a != b
def roundsT (ws : List Tm) (ts : List Tm) : Int := (ts.map fun p => p.2 * getU ws p.1).sum
mutual
def Nd.holds (ws : List Tm) : Nd → Bool
  | .non => false
  | .ask o ts os => if o = true then (roundsT ws ts + roundsL ws os) % 2 == 1 else !(roundsT ws ts + roundsL ws os == 0)
  | .jn s a b => s.op (a.holds ws) (b.holds ws)
def roundsL (ws : List Tm) : Os → Int
  | [] => 0
  | (n, k) :: r => k * b2z (n.holds ws) + roundsL ws r
end
def fmR (ws : List Tm) (ts : List Tm) (os : Os) : Int := roundsT ws ts + roundsL ws os
/-- values that are not too great -/
def WsOk (ws : List Tm) : Prop := ∀ p ∈ ws, -1000000000000000000 ≤ p.2 ∧ p.2 ≤ 1000000000000000000
theorem WsOk.get {ws : List Tm} (h : WsOk ws) (u : U) : -1000000000000000000 ≤ getU ws u ∧ getU ws u ≤ 1000000000000000000 := by
  unfold getU
  cases e : ws.find? (fun p => decide (p.1 = u)) with
  | none => exact ⟨by decide, by decide⟩
  | some p => exact h p (List.mem_of_find?_eq_some e)
/-- what the merging of outlines asks -/
def OsIn (os : Os) : Prop := os.length ≤ 63 ∧ htL os < 25 ∧ ∀ p ∈ os, p.1.Ok ∧ p.1.size ≤ 10000
def timesTm (n : Int) (ts : List Tm) : List Tm := ts.map fun p => (p.1, n * p.2)
def timesOs (n : Int) (os : Os) : Os := os.map fun p => (p.1, n * p.2)
def U.mv (f : Mv) (u : U) : U := ⟨u.n, f.mul u.f⟩
/-- two nodes joined, in their normal form -/
def joinN (s : Sg) (a b : Nd) : Nd :=
  if deq a.d b.d = true then (if s = .and ∨ s = .or then a else .non)
  else if a.isNon = true then (if s = .and ∨ s = .sub then .non else b)
  else if b.isNon = true then (if s = .and then .non else a)
  else .jn s a b
mutual
def Nd.dep : Nd → Nat
  | .non => 0
  | .ask _ ts os => 1 + depL os
  | .jn _ a b => 1 + max a.dep b.dep
def depL : Os → Nat
  | [] => 0
  | (n, _) :: r => max (1 + n.dep) (depL r)
end
/-- the greatest common divisor of a list -/
def gcdL (ns : List Int) : Nat := ns.foldl (fun g n => Nat.gcd g n.natAbs) 0
/-- what a path must be -/
structure PathOk (ts : List Tm) (os : Os) : Prop where
  fm : FmOk ts os
  t1 : ∀ p ∈ ts, -1000000000000 ≤ p.2 ∧ p.2 ≤ 1000000000000
  t2 : ∀ p ∈ os, -1000000000000 ≤ p.2 ∧ p.2 ≤ 1000000000000
  ht : htL os < 25
  few : (fmU ts os).length ≤ 62
  sh : ∀ u ∈ fmU ts os, (-1000000000000 ≤ u.f.x ∧ u.f.x ≤ 1000000000000) ∧ -1000000000000 ≤ u.f.y ∧ u.f.y ≤ 1000000000000
  size : ts.length + sizeL os ≤ 300
  dep : depL os ≤ 20
def oddTm (ts : List Tm) : List Tm := ts.map fun p => (p.1, p.2 % 2)
def oddOs (os : Os) : Os := os.map fun p => (p.1, p.2 % 2)
def divTm (n : Int) (ts : List Tm) : List Tm := ts.map fun p => (p.1, p.2.fdiv n)
def divOs (n : Int) (os : Os) : Os := os.map fun p => (p.1, p.2.fdiv n)
def timesOf (ts : List Tm) (os : Os) : List Int := ts.map (·.2) ++ os.map (·.2)
def byOf (ts : List Tm) (os : Os) : Int := if 0 < (timesOf ts os).headD 0 then (gcdL (timesOf ts os) : Int) else -(gcdL (timesOf ts os) : Int)
end DL
namespace DL
open PySem PySem.Spec PyProof.Rows L2
def cp (x : Str) : List Nat := x.cps.toList
theorem cp_app (a b : Str) : cp (a ++ b) = cp a ++ cp b := cps_toList_append a b
theorem cp_inj {a b : Str} (h : cp a = cp b) : a = b := str_ext h
theorem run_cancel (p : Nat → Bool) : ∀ {a b r s : List Nat}, (∀ x ∈ a, p x = true) → (∀ x ∈ b, p x = true) → (∀ x, r.head? = some x → p x = false) → (∀ x, s.head? = some x → p x = false) → a ++ r = b ++ s → a = b ∧ r = s
  | [], [], _, _, _, _, _, _, e => ⟨rfl, e⟩
  | [], y :: b, r, s, _, hb, hr, _, e => by
    have z := hr y (by rw [show r = y :: (b ++ s) from e]; rfl)
    rw [hb y List.mem_cons_self] at z
    cases z
  | x :: a, [], r, s, ha, _, _, hs, e => by
    have z := hs x (by rw [show s = x :: (a ++ r) from e.symm]; rfl)
    rw [ha x List.mem_cons_self] at z
    cases z
  | x :: a, y :: b, r, s, ha, hb, hr, hs, e => by
    obtain ⟨e1, e2⟩ := List.cons.inj (show x :: (a ++ r) = y :: (b ++ s) from e)
    obtain ⟨h1, h2⟩ := run_cancel p (fun z hz => ha z (List.mem_cons_of_mem _ hz)) (fun z hz => hb z (List.mem_cons_of_mem _ hz)) hr hs e2
    exact ⟨by rw [e1, h1], h2⟩
def isNum (c : Nat) : Bool := decide (c = 45 ∨ (48 ≤ c ∧ c ≤ 57))
def isLet (c : Nat) : Bool := decide (97 ≤ c ∧ c ≤ 122)
theorem itx_chars (i : Int) : ∀ x ∈ cp (itx i), isNum x = true := fun x hx => by
  by_cases h : x ≠ 45 ∧ (x < 48 ∨ 57 < x)
  · exact absurd hx (int_text_free' x h i)
  · unfold isNum
    exact decide_eq_true (by omega)
theorem cp_of (s : String) : cp (Str.ofString s) = s.toList.map Char.toNat := by
  show (cpsOfBytes 0 0 s.toByteArray.data.toList).toArray.toList = _
  rw [List.toList_toArray, cpsOfBytes_string]
theorem toNat_inj {a b : Char} (h : a.toNat = b.toNat) : a = b := Char.ext (UInt32.toNat_inj.mp h)
theorem map_toNat_inj : ∀ {a b : List Char}, a.map Char.toNat = b.map Char.toNat → a = b
  | [], [], _ => rfl
  | [], _ :: _, h => by cases h
  | _ :: _, [], h => by cases h
  | x :: a, y :: b, h => by
    obtain ⟨h1, h2⟩ := List.cons.inj h
    rw [toNat_inj h1, map_toNat_inj h2]
theorem repr_inj {m n : Nat} (h : Nat.repr m = Nat.repr n) : m = n := by
  have e : Nat.toDigits 10 m = Nat.toDigits 10 n := by
    have h2 := congrArg String.toList h
    simpa [Nat.repr] using h2
  have e1 := Nat.ofDigitChars_toDigits (b := 10) (n := m) (by decide) (by decide)
  have e2 := Nat.ofDigitChars_toDigits (b := 10) (n := n) (by decide) (by decide)
  rw [← e1, ← e2, e]
theorem repr_minus (m : Nat) : '-' ∉ (Nat.repr m).toList := fun h => by
  · have h2 : (Nat.repr m).toList = Nat.toDigits 10 m := by simp [Nat.repr]
    rw [h2] at h
    have := Nat.isDigit_of_mem_toDigits (by decide) (by decide) h
    cases this
theorem toString_inj {i j : Int} (h : (toString i : String) = toString j) : i = j := by
  cases i with
  | ofNat m =>
    cases j with
    | ofNat n => exact congrArg Int.ofNat (repr_inj h)
    | negSucc n =>
      have h : Nat.repr m = "-" ++ Nat.repr (n + 1) := h
      exact absurd (by rw [h]; simp) (repr_minus m)
  | negSucc m =>
    cases j with
    | ofNat n =>
      have h : "-" ++ Nat.repr (m + 1) = Nat.repr n := h
      exact absurd (by rw [← h]; simp) (repr_minus n)
    | negSucc n =>
      have h : "-" ++ Nat.repr (m + 1) = "-" ++ Nat.repr (n + 1) := h
      have h2 : Nat.repr (m + 1) = Nat.repr (n + 1) := by
        have h3 := congrArg String.toList h
        simp only [String.toList_append, List.append_cancel_left_eq] at h3
        exact String.toList_inj.mp h3
      have := repr_inj h2
      rw [show m = n by omega]
theorem itx_inj {i j : Int} (h : cp (itx i) = cp (itx j)) : i = j := by
  unfold itx at h
  have h : cp (Str.ofString (toString i)) = cp (Str.ofString (toString j)) := h
  rw [cp_of, cp_of] at h
  exact toString_inj (String.toList_inj.mp (map_toNat_inj h))
/-- lowercase letters, one at least -/
def Lw (x : Str) : Prop := cp x ≠ [] ∧ ∀ c ∈ cp x, isLet c = true
structure U.Tx (u : U) : Prop where
  lw : Lw u.n
  no : u.n ≠ "nothing"
  m : u.f.m = 0 ∨ u.f.m = 1
def mL (m : Int) : List Nat := if m = 1 then [32, 109] else []
def uT (u : U) : List Nat := if u.f.x = 0 ∧ u.f.y = 0 ∧ u.f.t = 0 ∧ u.f.m = 0 then [] else 91 :: (cp (itx u.f.x) ++ 32 :: (cp (itx u.f.y) ++ 32 :: (cp (itx u.f.t) ++ (mL u.f.m ++ [93]))))
theorem cp_utx (u : U) : cp u.tx = cp u.n ++ uT u := by
  unfold U.tx uT
  have e1 : cp (Str.ofString "[") = [91] := rfl
  have e2 : cp (Str.ofString " ") = [32] := rfl
  have e3 : cp (Str.ofString "]") = [93] := rfl
  have e4 : cp (mTx u.f.m) = mL u.f.m := by
    unfold mTx mL
    split <;> rfl
  split
  · simp
  · simp only [cp_app, e1, e2, e3, e4, List.append_assoc, List.cons_append, List.nil_append]
def Stop (r : List Nat) : Prop := ∀ x, r.head? = some x → x = 32 ∨ x = 41
def End (r : List Nat) : Prop := ∀ x, r.head? = some x → x = 41
theorem num_step {i j : Int} {r s : List Nat} (hr : ∀ x, r.head? = some x → isNum x = false) (hs : ∀ x, s.head? = some x → isNum x = false) (e : cp (itx i) ++ r = cp (itx j) ++ s) : i = j ∧ r = s := by
  obtain ⟨h1, h2⟩ := run_cancel isNum (itx_chars i) (itx_chars j) hr hs e
  exact ⟨itx_inj h1, h2⟩
theorem mL_head (m : Int) (r : List Nat) : ∀ x, (mL m ++ 93 :: r).head? = some x → isNum x = false := fun x h => by
  unfold mL at h
  split at h <;> (cases h; decide)
theorem head_cons {c : Nat} {r : List Nat} {P : Nat → Prop} (h : P c) : ∀ x, (c :: r).head? = some x → P x := fun x e => by
  cases e
  exact h
theorem ut_head {u : U} {r : List Nat} (hr : Stop r) : ∀ x, (uT u ++ r).head? = some x → isLet x = false := fun x h => by
  unfold uT at h
  split at h
  · rcases hr x h with e | e <;> (rw [e]; decide)
  · cases h
    decide
theorem utx_dec {u v : U} {r s : List Nat} (hu : u.Tx) (hv : v.Tx) (hr : Stop r) (hs : Stop s) (e : cp u.tx ++ r = cp v.tx ++ s) : u = v ∧ r = s := by
  rw [cp_utx, cp_utx, List.append_assoc, List.append_assoc] at e
  obtain ⟨h1, h2⟩ := run_cancel isLet hu.lw.2 hv.lw.2 (ut_head hr) (ut_head hs) e
  obtain ⟨n, x, y, t, m⟩ := u
  obtain ⟨n', x', y', t', m'⟩ := v
  have hm := hu.m
  have hm' := hv.m
  simp only at h1 hm hm'
  cases cp_inj h1
  clear hu hv e h1
  unfold uT at h2
  simp only at h2
  by_cases z : x = 0 ∧ y = 0 ∧ t = 0 ∧ m = 0
  · rw [if_pos z] at h2
    by_cases z' : x' = 0 ∧ y' = 0 ∧ t' = 0 ∧ m' = 0
    · rw [if_pos z'] at h2
      obtain ⟨rfl, rfl, rfl, rfl⟩ := z
      obtain ⟨rfl, rfl, rfl, rfl⟩ := z'
      exact ⟨rfl, h2⟩
    · rw [if_neg z'] at h2
      rcases hr 91 (by rw [show r = _ from h2]; rfl) with q | q <;> cases q
  · rw [if_neg z] at h2
    by_cases z' : x' = 0 ∧ y' = 0 ∧ t' = 0 ∧ m' = 0
    · rw [if_pos z'] at h2
      rcases hs 91 (by rw [show s = _ from h2.symm]; rfl) with q | q <;> cases q
    · rw [if_neg z'] at h2
      simp only [List.cons_append, List.append_assoc, List.cons.injEq, true_and, List.nil_append] at h2
      have n32 : ∀ (l : List Nat), ∀ x, (32 :: l).head? = some x → isNum x = false := fun l => head_cons (P := fun x => isNum x = false) (by decide)
      obtain ⟨ex, h3⟩ := num_step (n32 _) (n32 _) h2
      obtain ⟨ey, h4⟩ := num_step (n32 _) (n32 _) (List.cons.inj h3).2
      obtain ⟨et, h5⟩ := num_step (mL_head m r) (mL_head m' s) (List.cons.inj h4).2
      subst ex ey et
      clear h2 h3 h4
      rcases hm with rfl | rfl <;> rcases hm' with rfl | rfl <;> simp [mL] at h5
      · exact ⟨rfl, h5⟩
      · exact ⟨rfl, h5⟩
def tL (n : Nat) : List Nat := if n = 1 then [] else cp (itx n) ++ [32, 42, 32]
theorem cp_times (n : Nat) : cp (timesT (n : Int)) = tL n := by
  unfold timesT tL
  have e1 : cp (Str.ofString " * ") = [32, 42, 32] := rfl
  by_cases h : n = 1
  · subst h
    rfl
  · rw [if_neg (by omega), if_neg h, cp_app, e1]
def Lead (x : List Nat) : Prop := ∃ c r, x = c :: r ∧ isLet c = true
theorem lead_no {x : List Nat} {n : Nat} (h : Lead x) (y : List Nat) : x ≠ cp (itx n) ++ (32 :: y) := fun e => by
  obtain ⟨c, r, rfl, hc⟩ := h
  cases q : cp (itx n) with
  | nil =>
    rw [q] at e
    cases e
    exact absurd hc (by decide)
  | cons d l =>
    rw [q] at e
    cases e
    have := itx_chars n c (by rw [q]; exact List.mem_cons_self)
    unfold isNum at this
    unfold isLet at hc
    have a := of_decide_eq_true this
    have b := of_decide_eq_true hc
    omega
theorem times_dec {m n : Nat} {x y : List Nat} (hx : Lead x) (hy : Lead y) (e : tL m ++ x = tL n ++ y) : m = n ∧ x = y := by
  unfold tL at e
  by_cases h : m = 1
  · subst h
    rw [if_pos rfl] at e
    by_cases h' : n = 1
    · subst h'
      rw [if_pos rfl] at e
      exact ⟨rfl, e⟩
    · rw [if_neg h', List.append_assoc] at e
      exact absurd e (lead_no hx _)
  · rw [if_neg h, List.append_assoc] at e
    by_cases h' : n = 1
    · subst h'
      rw [if_pos rfl] at e
      exact absurd e.symm (lead_no hy _)
    · rw [if_neg h', List.append_assoc] at e
      have e : cp (itx m) ++ (32 :: 42 :: 32 :: x) = cp (itx n) ++ (32 :: 42 :: 32 :: y) := by simpa using e
      obtain ⟨h1, h2⟩ := num_step (head_cons (P := fun x => isNum x = false) (by decide)) (head_cons (P := fun x => isNum x = false) (by decide)) e
      exact ⟨by omega, by simpa using h2⟩
def flatP : List (Int × Str) → List Nat
  | [] => []
  | (n, x) :: r => 32 :: (if n < 0 then 45 else 43) :: 32 :: (tL n.natAbs ++ (cp x ++ flatP r))
theorem len_ne {a : Str} : a ≠ "" ↔ cp a ≠ [] := by
  constructor
  · intro h z
    exact h (cp_inj z)
  · intro h z
    exact h (by rw [z]; rfl)
theorem cp_join : ∀ (ps : List (Int × Str)) (acc : Str), acc ≠ "" → cp (joinT acc ps) = cp acc ++ flatP ps
  | [], acc, _ => by simp [joinT, flatP]
  | (n, x) :: r, acc, h => by
    have h2 : (acc ++ sgnT acc n ++ timesT n.natAbs ++ x) ≠ "" := by
      rw [len_ne] at h ⊢
      simp only [cp_app]
      intro z
      simp at z
      exact h z.1
    show cp (joinT (acc ++ sgnT acc n ++ timesT n.natAbs ++ x) r) = _
    rw [cp_join r _ h2]
    have e : cp (sgnT acc n) = [32, (if n < 0 then 45 else 43), 32] := by
      unfold sgnT
      rw [if_neg h]
      split <;> rfl
    simp only [cp_app, e, cp_times, flatP, List.append_assoc, List.cons_append, List.nil_append]
def sgL (n : Int) : List Nat := if n < 0 then [45] else []
theorem cp_piece {n : Int} {x : Str} {r : List (Int × Str)} (hx : cp x ≠ []) : cp (pieceT ((n, x) :: r)) = sgL n ++ (tL n.natAbs ++ (cp x ++ flatP r)) := by
  show cp (joinT ("" ++ sgnT "" n ++ timesT n.natAbs ++ x) r) = _
  rw [cp_join]
  · have e : cp (sgnT "" n) = sgL n := by
      unfold sgnT sgL
      rw [if_pos rfl]
      split <;> rfl
    have e0 : cp (Str.ofString "") = [] := rfl
    simp only [cp_app, e, e0, cp_times, List.append_assoc, List.nil_append]
  · rw [len_ne]
    simp only [cp_app]
    intro z
    simp at z
    exact hx z.2.2.2
mutual
def Nd.Tx : Nd → Prop
  | .non => True
  | .ask _ ts os => (∀ p ∈ ts, p.1.Tx) ∧ TxL os
  | .jn _ a b => a.Tx ∧ b.Tx
def TxL : Os → Prop
  | [] => True
  | (n, _) :: r => n.Tx ∧ TxL r
end
theorem TxL_iff : ∀ {os : Os}, TxL os ↔ ∀ p ∈ os, p.1.Tx
  | [] => by simp [TxL]
  | (n, k) :: r => by simp [TxL, TxL_iff (os := r)]
def outT (n : Nd) : Str := "outline(" ++ n.tx ++ ")"
theorem cp_out (n : Nd) : cp (outT n) = [111, 117, 116, 108, 105, 110, 101, 40] ++ (cp n.tx ++ [41]) := by
  unfold outT
  rw [cp_app, cp_app, List.append_assoc]
  rfl
theorem utx_lead {u : U} (h : u.Tx) (r : List Nat) : Lead (cp u.tx ++ r) := by
  rw [cp_utx]
  obtain ⟨h1, h2⟩ := h.lw
  cases e : cp u.n with
  | nil => exact absurd e h1
  | cons c l => exact ⟨c, l ++ uT u ++ r, by simp, h2 c (by rw [e]; exact List.mem_cons_self)⟩
theorem out_lead (n : Nd) (r : List Nat) : Lead (cp (outT n) ++ r) := by
  rw [cp_out]
  exact ⟨111, _, rfl, by decide⟩
theorem u_no_out {u : U} {n : Nd} {r s : List Nat} (h : u.Tx) (hr : Stop r) (e : cp u.tx ++ r = cp (outT n) ++ s) : False := by
  rw [cp_utx, cp_out, List.append_assoc] at e
  have e : cp u.n ++ (uT u ++ r) = [111, 117, 116, 108, 105, 110, 101] ++ (40 :: (cp n.tx ++ [41] ++ s)) := by simpa using e
  obtain ⟨_, h2⟩ := run_cancel isLet h.lw.2 (by decide) (ut_head hr) (head_cons (P := fun x => isLet x = false) (by decide)) e
  unfold uT at h2
  split at h2
  · rcases hr 40 (by rw [show r = _ from h2]; rfl) with z | z <;> cases z
  · cases h2
theorem stop_flat {ps : List (Int × Str)} {r : List Nat} (h : End r) : Stop (flatP ps ++ r) := fun x e => by
  cases ps with
  | nil => exact .inr (h x e)
  | cons p l =>
    obtain ⟨n, y⟩ := p
    cases e
    exact .inl rfl
theorem sgn_eq {a b : Int} (h1 : (a < 0) ↔ (b < 0)) (h2 : a.natAbs = b.natAbs) : a = b := by omega
theorem tm_eq {p q : Tm} (hp : p.1.Tx) (e1 : p.1 = q.1) (e2 : (tmP p).1 = (tmP q).1) : p = q := by
  obtain ⟨u, k⟩ := p
  obtain ⟨v, l⟩ := q
  simp only at e1 hp
  subst e1
  simp only [tmP] at e2
  have hm := hp.m
  have : k = l := by
    rcases hm with z | z <;> rw [z] at e2 <;> omega
  rw [this]
abbrev DecN (n : Nd) : Prop := ∀ (n' : Nd) (r s : List Nat), n.Tx → n'.Tx → cp n.tx ++ r = cp n'.tx ++ s → n = n' ∧ r = s
/-- one piece ahead of the others -/
inductive Pc where
  | t (p : Tm) | o (p : Nd × Int)
def Pc.k : Pc → Int
  | .t p => (tmP p).1
  | .o p => p.2
def Pc.x : Pc → Str
  | .t p => p.1.tx
  | .o p => outT p.1
def Pc.Tx : Pc → Prop
  | .t p => p.1.Tx
  | .o p => p.1.Tx
theorem pc_dec {a b : Pc} {r s : List Nat} (ih : ∀ p, a = .o p → DecN p.1) (ha : a.Tx) (hb : b.Tx) (hr : Stop r) (hs : Stop s) (hk : (a.k < 0) ↔ (b.k < 0)) (e : tL a.k.natAbs ++ (cp a.x ++ r) = tL b.k.natAbs ++ (cp b.x ++ s)) : a = b ∧ r = s := by
  have la : Lead (cp a.x ++ r) := by
    cases a with
    | t p => exact utx_lead ha r
    | o p => exact out_lead p.1 r
  have lb : Lead (cp b.x ++ s) := by
    cases b with
    | t p => exact utx_lead hb s
    | o p => exact out_lead p.1 s
  obtain ⟨e1, e2⟩ := times_dec la lb e
  have ek := sgn_eq hk e1
  cases a with
  | t p =>
    cases b with
    | t q =>
      obtain ⟨h1, h2⟩ := utx_dec ha hb hr hs e2
      rw [tm_eq ha h1 ek]
      exact ⟨rfl, h2⟩
    | o q => exact (u_no_out ha hr e2).elim
  | o p =>
    cases b with
    | t q => exact (u_no_out hb hs e2.symm).elim
    | o q =>
      have e3 : cp p.1.tx ++ (41 :: r) = cp q.1.tx ++ (41 :: s) := by
        have e4 : cp (outT p.1) ++ r = cp (outT q.1) ++ s := e2
        rw [cp_out, cp_out] at e4
        simpa using e4
      obtain ⟨h1, h2⟩ := ih p rfl q.1 _ _ ha hb e3
      have h2 : r = s := by simpa using h2
      obtain ⟨n, k⟩ := p
      obtain ⟨n', k'⟩ := q
      have ek : k = k' := ek
      simp only at h1
      rw [h1, ek]
      exact ⟨rfl, h2⟩
def pcs (ts : List Tm) (os : Os) : List Pc := ts.map .t ++ os.map .o
def pcP (p : Pc) : Int × Str := (p.k, p.x)
theorem pcs_P (ts : List Tm) (os : Os) : ts.map tmP ++ osP os = (pcs ts os).map pcP := by
  unfold pcs
  rw [osP_map, List.map_append, List.map_map, List.map_map]
  rfl
theorem pcs_inj : ∀ {ts ts' : List Tm} {os os' : Os}, pcs ts os = pcs ts' os' → ts = ts' ∧ os = os'
  | [], [], os, os', e => by
    refine ⟨rfl, ?_⟩
    have e : os.map Pc.o = os'.map Pc.o := by simpa [pcs] using e
    exact List.map_inj_right (fun a b h => by cases h; rfl) |>.mp e
  | [], p :: ts', os, os', e => by
    cases os with
    | nil => simp [pcs] at e
    | cons q os => simp [pcs] at e
  | p :: ts, [], os, os', e => by
    cases os' with
    | nil => simp [pcs] at e
    | cons q os => simp [pcs] at e
  | p :: ts, p' :: ts', os, os', e => by
    simp only [pcs, List.map_cons, List.cons_append, List.cons.injEq, Pc.t.injEq] at e
    obtain ⟨h1, h2⟩ := pcs_inj (ts := ts) (ts' := ts') (os := os) (os' := os') e.2
    rw [e.1, h1, h2]
    exact ⟨rfl, rfl⟩
theorem flat_dec : ∀ (ps qs : List Pc) (r s : List Nat), (∀ a ∈ ps, ∀ p, a = .o p → DecN p.1) → (∀ a ∈ ps, a.Tx) → (∀ a ∈ qs, a.Tx) → End r → End s → flatP (ps.map pcP) ++ r = flatP (qs.map pcP) ++ s → ps = qs ∧ r = s
  | [], [], r, s, _, _, _, _, _, e => ⟨rfl, e⟩
  | [], q :: qs, r, s, _, _, _, hr, _, e => by
    have := hr 32 (by rw [show r = _ from e]; rfl)
    cases this
  | p :: ps, [], r, s, _, _, _, _, hs, e => by
    have := hs 32 (by rw [show s = _ from e.symm]; rfl)
    cases this
  | p :: ps, q :: qs, r, s, ih, hp, hq, hr, hs, e => by
    simp only [List.map_cons, pcP, flatP, List.cons_append, List.append_assoc, List.cons.injEq, true_and] at e
    have hk : (p.k < 0) ↔ (q.k < 0) := by
      have := e.1
      by_cases h1 : p.k < 0 <;> by_cases h2 : q.k < 0 <;> simp [h1, h2] at this ⊢
    obtain ⟨e1, e2⟩ := pc_dec (ih p List.mem_cons_self) (hp p List.mem_cons_self) (hq q List.mem_cons_self) (stop_flat hr) (stop_flat hs) hk e.2
    obtain ⟨e3, e4⟩ := flat_dec ps qs r s (fun a ha => ih a (List.mem_cons_of_mem _ ha)) (fun a ha => hp a (List.mem_cons_of_mem _ ha)) (fun a ha => hq a (List.mem_cons_of_mem _ ha)) hr hs e2
    rw [e1, e3]
    exact ⟨rfl, e4⟩
theorem pcx_ne {a : Pc} (h : a.Tx) : cp a.x ≠ [] := fun z => by
  cases a with
  | t p =>
    obtain ⟨c, r, e, _⟩ := utx_lead h []
    rw [show cp p.1.tx = [] from z] at e
    cases e
  | o p =>
    have : cp (outT p.1) = [] := z
    rw [cp_out] at this
    cases this
theorem lead_sg {a : Pc} (h : a.Tx) {r : List Nat} (hr : Stop r) : ∃ c l, sgL a.k ++ (tL a.k.natAbs ++ (cp a.x ++ r)) = c :: l ∧ ((c = 45 ∧ a.k < 0) ∨ (c ≠ 45 ∧ ¬ a.k < 0)) := by
  by_cases hk : a.k < 0
  · unfold sgL
    rw [if_pos hk]
    exact ⟨45, _, rfl, .inl ⟨rfl, hk⟩⟩
  · unfold sgL
    rw [if_neg hk, List.nil_append]
    have la : Lead (cp a.x ++ r) := by
      cases a with
      | t p => exact utx_lead h r
      | o p => exact out_lead p.1 r
    unfold tL
    split
    · obtain ⟨c, l, e, hc⟩ := la
      exact ⟨c, l, by simpa using e, .inr ⟨fun z => by subst z; exact absurd hc (by decide), hk⟩⟩
    · cases q : cp (itx a.k.natAbs) with
      | nil => exact ⟨32, 42 :: 32 :: (cp a.x ++ r), by simp, .inr ⟨by decide, hk⟩⟩
      | cons d l =>
        refine ⟨d, l ++ [32, 42, 32] ++ (cp a.x ++ r), by simp, .inr ⟨fun z => ?_, hk⟩⟩
        subst z
        have e : itx (a.k.natAbs : Int) = Str.ofString (Nat.repr a.k.natAbs) := rfl
        rw [e, cp_of] at q
        have : 45 ∈ (Nat.repr a.k.natAbs).toList.map Char.toNat := by rw [q]; exact List.mem_cons_self
        obtain ⟨ch, hch, e2⟩ := List.mem_map.mp this
        have : ch = '-' := toNat_inj (e2.trans (by decide))
        subst this
        exact repr_minus _ hch
theorem piece_nothing {a : Pc} {r s : List Nat} (h : a.Tx) (hr : Stop r) (hs : End s) (e : sgL a.k ++ (tL a.k.natAbs ++ (cp a.x ++ r)) = cp (Str.ofString "nothing") ++ s) : False := by
  have e0 : cp (Str.ofString "nothing") = [110, 111, 116, 104, 105, 110, 103] := rfl
  obtain ⟨c, l, e1, hc⟩ := lead_sg h hr
  rw [e0] at e
  have hk : ¬ a.k < 0 := by
    rcases hc with ⟨rfl, _⟩ | ⟨_, hk⟩
    · rw [e1] at e
      cases e
    · exact hk
  unfold sgL at e
  rw [if_neg hk, List.nil_append] at e
  have e2 : tL a.k.natAbs ++ (cp a.x ++ r) = tL 1 ++ ([110, 111, 116, 104, 105, 110, 103] ++ s) := by simpa [tL] using e
  have la : Lead (cp a.x ++ r) := by
    cases a with
    | t p => exact utx_lead h r
    | o p => exact out_lead p.1 r
  obtain ⟨_, e3⟩ := times_dec la ⟨110, _, rfl, by decide⟩ e2
  cases a with
  | t p =>
    have e3 : cp p.1.tx ++ r = [110, 111, 116, 104, 105, 110, 103] ++ s := e3
    rw [cp_utx, List.append_assoc] at e3
    obtain ⟨h1, _⟩ := run_cancel isLet (show p.1.Tx from h).lw.2 (by decide) (ut_head hr) (fun x hx => by rw [hs x hx]; decide) e3
    exact (show p.1.Tx from h).no (cp_inj h1)
  | o p =>
    have e3 : cp (outT p.1) ++ r = [110, 111, 116, 104, 105, 110, 103] ++ s := e3
    rw [cp_out] at e3
    cases e3
theorem cp_pieces (a : Pc) (ps : List Pc) (h : a.Tx) : cp (pieceT ((a :: ps).map pcP)) = sgL a.k ++ (tL a.k.natAbs ++ (cp a.x ++ flatP (ps.map pcP))) := cp_piece (pcx_ne h)
theorem piece_dec (ps qs : List Pc) (r s : List Nat) (ih : ∀ a ∈ ps, ∀ p, a = .o p → DecN p.1) (hp : ∀ a ∈ ps, a.Tx) (hq : ∀ a ∈ qs, a.Tx) (hr : End r) (hs : End s) (e : cp (pieceT (ps.map pcP)) ++ r = cp (pieceT (qs.map pcP)) ++ s) : ps = qs ∧ r = s := by
  cases ps with
  | nil =>
    cases qs with
    | nil => exact ⟨rfl, List.append_cancel_left e⟩
    | cons q qs =>
      rw [cp_pieces q qs (hq q List.mem_cons_self)] at e
      simp only [List.append_assoc] at e
      exact (piece_nothing (hq q List.mem_cons_self) (stop_flat hs) hr e.symm).elim
  | cons p ps =>
    cases qs with
    | nil =>
      rw [cp_pieces p ps (hp p List.mem_cons_self)] at e
      simp only [List.append_assoc] at e
      exact (piece_nothing (hp p List.mem_cons_self) (stop_flat hr) hs e).elim
    | cons q qs =>
      rw [cp_pieces p ps (hp p List.mem_cons_self), cp_pieces q qs (hq q List.mem_cons_self)] at e
      simp only [List.append_assoc] at e
      obtain ⟨c, l, e1, h1⟩ := lead_sg (hp p List.mem_cons_self) (stop_flat (ps := ps.map pcP) hr)
      obtain ⟨d, l', e2, h2⟩ := lead_sg (hq q List.mem_cons_self) (stop_flat (ps := qs.map pcP) hs)
      have hk : (p.k < 0) ↔ (q.k < 0) := by
        rw [e1, e2] at e
        cases e
        rcases h1 with ⟨a, b⟩ | ⟨a, b⟩ <;> rcases h2 with ⟨a', b'⟩ | ⟨a', b'⟩
        · exact ⟨fun _ => b', fun _ => b⟩
        · exact absurd a a'
        · exact absurd a' a
        · exact ⟨fun z => absurd z b, fun z => absurd z b'⟩
      have es : sgL p.k = sgL q.k := by
        unfold sgL
        by_cases h : p.k < 0
        · rw [if_pos h, if_pos (hk.mp h)]
        · rw [if_neg h, if_neg fun z => h (hk.mpr z)]
      rw [es] at e
      obtain ⟨e3, e4⟩ := pc_dec (ih p List.mem_cons_self) (hp p List.mem_cons_self) (hq q List.mem_cons_self) (stop_flat hr) (stop_flat hs) hk (List.append_cancel_left e)
      obtain ⟨e5, e6⟩ := flat_dec ps qs r s (fun a ha => ih a (List.mem_cons_of_mem _ ha)) (fun a ha => hp a (List.mem_cons_of_mem _ ha)) (fun a ha => hq a (List.mem_cons_of_mem _ ha)) hr hs e4
      rw [e3, e5]
      exact ⟨rfl, e6⟩
theorem pcs_tx {ts : List Tm} {os : Os} (h : (∀ p ∈ ts, p.1.Tx) ∧ TxL os) : ∀ a ∈ pcs ts os, a.Tx := fun a ha => by
  rcases List.mem_append.mp ha with q | q
  · obtain ⟨p, hp, rfl⟩ := List.mem_map.mp q
    exact h.1 p hp
  · obtain ⟨p, hp, rfl⟩ := List.mem_map.mp q
    exact TxL_iff.mp h.2 p hp
theorem form_dec {ts ts' : List Tm} {os os' : Os} {r s : List Nat} (ih : ∀ p ∈ os, DecN p.1) (h : (∀ p ∈ ts, p.1.Tx) ∧ TxL os) (h' : (∀ p ∈ ts', p.1.Tx) ∧ TxL os') (hr : End r) (hs : End s) (e : cp (fmT ts os) ++ r = cp (fmT ts' os') ++ s) : ts = ts' ∧ os = os' ∧ r = s := by
  unfold fmT at e
  rw [pcs_P, pcs_P] at e
  obtain ⟨e1, e2⟩ := piece_dec _ _ r s (fun a ha p hp => by
    subst hp
    rcases List.mem_append.mp ha with q | q
    · obtain ⟨p', _, e⟩ := List.mem_map.mp q
      cases e
    · obtain ⟨p', hp', e⟩ := List.mem_map.mp q
      cases e
      exact ih p hp') (pcs_tx h) (pcs_tx h') hr hs e
  obtain ⟨e3, e4⟩ := pcs_inj e1
  exact ⟨e3, e4, e2⟩
theorem cp_non : cp Nd.non.tx = [110, 111, 110, 101] := rfl
def kdL (o : Bool) : List Nat := if o = true then [111, 100, 100] else [115, 111, 108, 105, 100]
theorem cp_ask (o : Bool) (ts : List Tm) (os : Os) : cp (Nd.ask o ts os).tx = kdL o ++ 40 :: (cp (fmT ts os) ++ [41]) := by
  show cp (kindS o ++ "(" ++ fmT ts os ++ ")") = _
  have e1 : cp (Str.ofString "(") = [40] := rfl
  have e2 : cp (Str.ofString ")") = [41] := rfl
  have e3 : cp (kindS o) = kdL o := by cases o <;> rfl
  simp only [cp_app, e1, e2, e3, List.append_assoc, List.cons_append, List.nil_append]
def Sg.c : Sg → Nat
  | .and => 38
  | .or => 124
  | .sub => 45
  | .xor => 94
theorem cp_jn (s : Sg) (a b : Nd) : cp (Nd.jn s a b).tx = 40 :: (cp a.tx ++ 32 :: s.c :: 32 :: (cp b.tx ++ [41])) := by
  show cp ("(" ++ a.tx ++ " " ++ s.s ++ " " ++ b.tx ++ ")") = _
  have e1 : cp (Str.ofString "(") = [40] := rfl
  have e2 : cp (Str.ofString ")") = [41] := rfl
  have e3 : cp (Str.ofString " ") = [32] := rfl
  have e4 : cp s.s = [s.c] := by cases s <;> rfl
  simp only [cp_app, e1, e2, e3, e4, List.append_assoc, List.cons_append, List.nil_append]
theorem sgc_inj {a b : Sg} (h : a.c = b.c) : a = b := by cases a <;> cases b <;> first | rfl | cases h
mutual
theorem tx_dec : ∀ n : Nd, DecN n
  | .non, n', r, s, _, _, e => by
    cases n' with
    | non => exact ⟨rfl, List.append_cancel_left e⟩
    | ask o ts os =>
      rw [cp_non, cp_ask] at e
      cases o <;> cases e
    | jn sg a b =>
      rw [cp_non, cp_jn] at e
      cases e
  | .ask o ts os, n', r, s, h, h', e => by
    cases n' with
    | non =>
      rw [cp_non, cp_ask] at e
      cases o <;> cases e
    | ask o' ts' os' =>
      rw [cp_ask, cp_ask] at e
      have eo : o = o' := by cases o <;> cases o' <;> first | rfl | cases e
      subst eo
      simp only [List.append_assoc, List.cons_append, List.append_cancel_left_eq, List.cons.injEq, true_and, List.nil_append] at e
      obtain ⟨e1, e2, e3⟩ := form_dec (osx_dec os) h h' (head_cons rfl) (head_cons rfl) e
      rw [e1, e2]
      exact ⟨rfl, by simpa using e3⟩
    | jn sg a b =>
      rw [cp_ask, cp_jn] at e
      cases o <;> cases e
  | .jn sg a b, n', r, s, h, h', e => by
    cases n' with
    | non =>
      rw [cp_non, cp_jn] at e
      cases e
    | ask o' ts' os' =>
      rw [cp_ask, cp_jn] at e
      cases o' <;> cases e
    | jn sg' a' b' =>
      rw [cp_jn, cp_jn] at e
      simp only [List.append_assoc, List.cons_append, List.cons.injEq, true_and, List.nil_append] at e
      obtain ⟨e1, e2⟩ := tx_dec a a' _ _ h.1 h'.1 e
      simp only [List.cons.injEq, true_and] at e2
      obtain ⟨e3, e4⟩ := tx_dec b b' _ _ h.2 h'.2 e2.2
      rw [e1, sgc_inj e2.1, e3]
      exact ⟨rfl, by simpa using e4⟩
theorem osx_dec : ∀ (os : Os), ∀ p ∈ os, DecN p.1
  | [], _, hp => absurd hp List.not_mem_nil
  | (n, k) :: r, p, hp => by
    rcases List.mem_cons.mp hp with e | hp
    · rw [e]
      exact tx_dec n
    · exact osx_dec r p hp
end
theorem Nd.tx_inj {a b : Nd} (ha : a.Tx) (hb : b.Tx) (e : a.tx = b.tx) : a = b := (tx_dec a b [] [] ha hb (by rw [e])).1
end DL
namespace DL
open PySem PySem.Spec PyProof.Rows L2
noncomputable instance : DecidableEq Nd := fun a b => Classical.propDecidable (a = b)
def rT (v : U → Int) (ts : List Tm) : Int := (ts.map fun p => p.2 * v p.1).sum
def rO (h : Nd → Int) (os : Os) : Int := (os.map fun p => p.2 * h p.1).sum
def indU (u : U) : U → Int := fun x => if x = u then 1 else 0
noncomputable def indN (n : Nd) : Nd → Int := fun x => if x = n then 1 else 0
theorem rT_nil (v) : rT v [] = 0 := rfl
theorem rO_nil (v) : rO v [] = 0 := rfl
theorem rT_cons (v p) (r : List Tm) : rT v (p :: r) = p.2 * v p.1 + rT v r := by simp [rT]
theorem rO_cons (v p) (r : Os) : rO v (p :: r) = p.2 * v p.1 + rO v r := by simp [rO]
theorem rT_app (v) (a b : List Tm) : rT v (a ++ b) = rT v a + rT v b := by simp [rT]
theorem rT_perm (v) {a b : List Tm} (h : a.Perm b) : rT v a = rT v b := by
  induction h with
  | nil => rfl
  | cons x _ ih => rw [rT_cons, rT_cons, ih]
  | swap x y l => rw [rT_cons, rT_cons, rT_cons, rT_cons]; omega
  | trans _ _ i1 i2 => exact i1.trans i2
def nT (ts : List Tm) : Nat := (ts.map fun p => p.2.natAbs).sum
def nO (os : Os) : Nat := (os.map fun p => p.2.natAbs).sum
theorem nT_cons (p) (r : List Tm) : nT (p :: r) = p.2.natAbs + nT r := by simp [nT]
theorem nO_cons (p) (r : Os) : nO (p :: r) = p.2.natAbs + nO r := by simp [nO]
theorem nT_app (a b : List Tm) : nT (a ++ b) = nT a + nT b := by simp [nT]
theorem nO_app (a b : Os) : nO (a ++ b) = nO a + nO b := by simp [nO]
theorem nT_perm {a b : List Tm} (h : a.Perm b) : nT a = nT b := by
  induction h with
  | nil => rfl
  | cons x _ ih => rw [nT_cons, nT_cons, ih]
  | swap x y l => rw [nT_cons, nT_cons, nT_cons, nT_cons]; omega
  | trans _ _ i1 i2 => exact i1.trans i2
theorem put_id {acc : List Tm} {u : U} {m : Int} (h : u ∉ acc.map (·.1)) : (acc.map fun p => if p.1 = u then (p.1, m) else p) = acc := by
  conv => rhs; rw [← List.map_id acc]
  refine List.map_congr_left fun p hp => ?_
  rw [if_neg fun e => h (List.mem_map.mpr ⟨p, hp, e⟩)]
  rfl
theorem put_at : ∀ {acc : List Tm} {u : U} {p : Tm} (m : Int), (acc.map (·.1)).Nodup → acc.find? (fun q => decide (q.1 = u)) = some p →
    (∀ v, rT v (acc.map fun q => if q.1 = u then (q.1, m) else q) = rT v acc + (m - p.2) * v u) ∧ nT (acc.map fun q => if q.1 = u then (q.1, m) else q) + p.2.natAbs = nT acc + m.natAbs
  | [], _, _, _, _, h => by cases h
  | q :: r, u, p, m, nd, h => by
    obtain ⟨h1, h2⟩ := List.nodup_cons.mp nd
    rw [List.find?_cons] at h
    by_cases e : q.1 = u
    · simp only [e, decide_true] at h
      cases h
      rw [List.map_cons, if_pos e, put_id (by rw [← e]; exact h1)]
      refine ⟨fun v => ?_, ?_⟩
      · rw [rT_cons, rT_cons, e]
        simp only [Int.sub_mul]
        omega
      · rw [nT_cons, nT_cons]
        simp only
        omega
    · simp only [e, decide_false] at h
      obtain ⟨i1, i2⟩ := put_at m h2 h
      rw [List.map_cons, if_neg e]
      refine ⟨fun v => ?_, ?_⟩
      · rw [rT_cons, rT_cons, i1 v]
        omega
      · rw [nT_cons, nT_cons]
        omega
theorem put_r {acc : List Tm} (nd : (acc.map (·.1)).Nodup) (u : U) (n : Int) : (∀ v, rT v (putU acc u (getU acc u + n)) = rT v acc + n * v u) ∧ nT (putU acc u (getU acc u + n)) ≤ nT acc + n.natAbs := by
  unfold putU getU
  cases e : acc.find? (fun p => decide (p.1 = u)) with
  | none =>
    simp only [Option.isSome_none, Bool.false_eq_true, if_false, Option.map_none, Option.getD_none, Int.zero_add]
    refine ⟨fun v => by rw [rT_app, rT_cons, rT_nil]; simp, by rw [nT_app, nT_cons]; simp [nT]⟩
  | some p =>
    simp only [Option.isSome_some, if_true, Option.map_some, Option.getD_some]
    obtain ⟨i1, i2⟩ := put_at (p.2 + n) nd e
    refine ⟨fun v => by rw [i1 v, show p.2 + n - p.2 = n by omega], by omega⟩
theorem acc_r : ∀ {ps acc : List Tm}, (acc.map (·.1)).Nodup → (∀ v, rT v (accU acc ps) = rT v acc + rT v ps) ∧ nT (accU acc ps) ≤ nT acc + nT ps
  | [], acc, _ => ⟨fun v => by rw [rT_nil, Int.add_zero]; rfl, by simp [nT, accU]⟩
  | p :: r, acc, nd => by
    obtain ⟨i1, i2⟩ := put_r nd p.1 p.2
    obtain ⟨j1, j2⟩ := acc_r (ps := r) (putU_nodup nd p.1 (getU acc p.1 + p.2))
    refine ⟨fun v => ?_, ?_⟩
    · show rT v (accU (putU acc p.1 (getU acc p.1 + p.2)) r) = _
      rw [j1 v, i1 v, rT_cons]
      omega
    · show nT (accU (putU acc p.1 (getU acc p.1 + p.2)) r) ≤ _
      rw [nT_cons]
      omega
theorem filt_r : ∀ l : List Tm, (∀ v, rT v (l.filter fun p => decide (p.2 ≠ 0)) = rT v l) ∧ nT (l.filter fun p => decide (p.2 ≠ 0)) = nT l
  | [] => ⟨fun _ => rfl, rfl⟩
  | p :: r => by
    obtain ⟨i1, i2⟩ := filt_r r
    by_cases h : p.2 = 0
    · rw [List.filter_cons_of_neg (by simp [h])]
      exact ⟨fun v => by rw [i1 v, rT_cons, h]; simp, by rw [i2, nT_cons, h]; simp⟩
    · rw [List.filter_cons_of_pos (by simp [h])]
      exact ⟨fun v => by rw [rT_cons, rT_cons, i1 v], by rw [nT_cons, nT_cons, i2]⟩
theorem rT_merge (v) (ps : List Tm) : rT v (mergeU ps) = rT v ps := by
  unfold mergeU
  rw [(filt_r _).1, rT_perm v (sortU_perm _), (acc_r (by exact List.nodup_nil)).1, rT_nil, Int.zero_add]
theorem nT_merge (ps : List Tm) : nT (mergeU ps) ≤ nT ps := by
  unfold mergeU
  rw [(filt_r _).2, nT_perm (sortU_perm _)]
  have := (acc_r (ps := ps) (acc := []) (by exact List.nodup_nil)).2
  simpa [nT] using this
theorem merge_len (ps : List Tm) : (mergeU ps).length ≤ ps.length := by
  unfold mergeU
  refine Nat.le_trans (List.length_filter_le _ _) ?_
  rw [(sortU_perm _).length_eq]
  have := accU_len ps []
  simpa using this
theorem putU_key {acc : List Tm} {u : U} {n : Int} {q : Tm} (h : q ∈ putU acc u n) : q.1 = u ∨ ∃ a ∈ acc, a.1 = q.1 := by
  unfold putU at h
  split at h
  · obtain ⟨p, hp, e⟩ := List.mem_map.mp h
    split at e
    · subst e
      exact .inr ⟨p, hp, rfl⟩
    · subst e
      exact .inr ⟨p, hp, rfl⟩
  · rcases List.mem_append.mp h with h | h
    · exact .inr ⟨q, h, rfl⟩
    · rw [List.mem_singleton.mp h]
      exact .inl rfl
theorem accU_key : ∀ {ps acc : List Tm} {q : Tm}, q ∈ accU acc ps → (∃ p ∈ ps, p.1 = q.1) ∨ ∃ a ∈ acc, a.1 = q.1
  | [], _, q, h => .inr ⟨q, h, rfl⟩
  | p :: r, acc, q, h => by
    rcases accU_key (ps := r) h with ⟨x, hx, e⟩ | ⟨x, hx, e⟩
    · exact .inl ⟨x, List.mem_cons_of_mem _ hx, e⟩
    · rcases putU_key hx with z | ⟨y, hy, z⟩
      · exact .inl ⟨p, List.mem_cons_self, z.symm.trans e⟩
      · exact .inr ⟨y, hy, z.trans e⟩
theorem merge_key {ps : List Tm} {q : Tm} (h : q ∈ mergeU ps) : ∃ p ∈ ps, p.1 = q.1 := by
  unfold mergeU at h
  have h1 := (sortU_perm _).mem_iff.mp (List.mem_filter.mp h).1
  rcases accU_key h1 with z | ⟨a, ha, _⟩
  · exact z
  · cases ha
structure CanU (ts : List Tm) : Prop where
  lt : ts.Pairwise fun a b => ltU a.1 b.1 = true
  nz : ∀ p ∈ ts, p.2 ≠ 0
theorem merge_can (ps : List Tm) : CanU (mergeU ps) := by
  refine ⟨?_, fun p hp => ?_⟩
  · unfold mergeU
    exact (sortU_sorted (accU_nodup (by exact List.nodup_nil))).filter _
  · unfold mergeU at hp
    have := (List.mem_filter.mp hp).2
    simpa using this
theorem CanU.nodup {ts : List Tm} (h : CanU ts) : (ts.map (·.1)).Nodup := by
  rw [List.nodup_iff_pairwise_ne, List.pairwise_map]
  exact h.lt.imp fun {a b} h e => by
    rw [e] at h
    exact ltU_asymm h h
theorem indU_not {ts : List Tm} {u : U} (h : u ∉ ts.map (·.1)) : rT (indU u) ts = 0 := by
  induction ts with
  | nil => rfl
  | cons p r ih =>
    rw [List.map_cons, List.mem_cons, not_or] at h
    rw [rT_cons, ih h.2]
    unfold indU
    rw [if_neg fun e => h.1 e.symm]
    simp
theorem indU_mem {ts : List Tm} (nd : (ts.map (·.1)).Nodup) {p : Tm} (h : p ∈ ts) : rT (indU p.1) ts = p.2 := by
  induction ts with
  | nil => cases h
  | cons q r ih =>
    obtain ⟨h1, h2⟩ := List.nodup_cons.mp nd
    rw [rT_cons]
    rcases List.mem_cons.mp h with e | h
    · subst e
      rw [indU_not h1]
      unfold indU
      rw [if_pos rfl]
      simp
    · rw [ih h2 h]
      unfold indU
      rw [if_neg fun e => h1 (List.mem_map.mpr ⟨p, h, e.symm⟩)]
      simp
theorem sub_of {ts us : List Tm} (h : CanU ts) (h' : (us.map (·.1)).Nodup) (e : ∀ u, rT (indU u) ts = rT (indU u) us) : ∀ p ∈ ts, p ∈ us := fun p hp => by
  have z := indU_mem h.nodup hp
  rw [e] at z
  by_cases hm : p.1 ∈ us.map (·.1)
  · obtain ⟨q, hq, e1⟩ := List.mem_map.mp hm
    have z2 := indU_mem h' hq
    rw [e1, z] at z2
    have : p = q := Prod.ext e1.symm z2
    rw [this]
    exact hq
  · rw [indU_not hm] at z
    exact absurd z.symm (h.nz p hp)
theorem nodup_of_map {α β : Type} {f : α → β} : ∀ {l : List α}, (l.map f).Nodup → l.Nodup
  | [], _ => List.nodup_nil
  | x :: r, h => by
    obtain ⟨h1, h2⟩ := List.nodup_cons.mp h
    exact List.nodup_cons.mpr ⟨fun z => h1 (List.mem_map.mpr ⟨x, z, rfl⟩), nodup_of_map h2⟩
theorem CanU.ext {ts us : List Tm} (h : CanU ts) (h' : CanU us) (e : ∀ u, rT (indU u) ts = rT (indU u) us) : ts = us :=
  sorted_same (fun a b => ltU_asymm) ((List.perm_ext_iff_of_nodup (nodup_of_map h.nodup) (nodup_of_map h'.nodup)).mpr fun p => ⟨sub_of h h'.nodup e p, sub_of h' h.nodup (fun u => (e u).symm) p⟩) h.lt h'.lt
theorem CanU.merge {ts : List Tm} (h : CanU ts) : mergeU ts = ts := (merge_can ts).ext h fun u => by rw [rT_merge]
structure AcOk (acc : List Ac) : Prop where
  nd : (acc.map (·.1)).Nodup
  tx : ∀ e ∈ acc, e.1 = e.2.2.tx ∧ e.2.2.Tx
def rA (h : Nd → Int) (acc : List Ac) : Int := (acc.map fun e => e.2.1 * h e.2.2).sum
def nA (acc : List Ac) : Nat := (acc.map fun e => e.2.1.natAbs).sum
theorem rA_cons (v p) (r : List Ac) : rA v (p :: r) = p.2.1 * v p.2.2 + rA v r := by simp [rA]
theorem nA_cons (p) (r : List Ac) : nA (p :: r) = p.2.1.natAbs + nA r := by simp [nA]
theorem rA_app (v) (a b : List Ac) : rA v (a ++ b) = rA v a + rA v b := by simp [rA]
theorem nA_app (a b : List Ac) : nA (a ++ b) = nA a + nA b := by simp [nA]
theorem rA_perm (v) {a b : List Ac} (h : a.Perm b) : rA v a = rA v b := by
  induction h with
  | nil => rfl
  | cons x _ ih => rw [rA_cons, rA_cons, ih]
  | swap x y l => rw [rA_cons, rA_cons, rA_cons, rA_cons]; omega
  | trans _ _ i1 i2 => exact i1.trans i2
theorem nA_perm {a b : List Ac} (h : a.Perm b) : nA a = nA b := by
  induction h with
  | nil => rfl
  | cons x _ ih => rw [nA_cons, nA_cons, ih]
  | swap x y l => rw [nA_cons, nA_cons, nA_cons, nA_cons]; omega
  | trans _ _ i1 i2 => exact i1.trans i2
/-- what the sizes add up to -/
def sA (acc : List Ac) : Nat := (acc.map fun e => 1 + e.2.2.size).sum
theorem sA_cons (p) (r : List Ac) : sA (p :: r) = (1 + p.2.2.size) + sA r := by simp [sA]
theorem sA_app (a b : List Ac) : sA (a ++ b) = sA a + sA b := by simp [sA]
theorem sA_perm {a b : List Ac} (h : a.Perm b) : sA a = sA b := by
  induction h with
  | nil => rfl
  | cons x _ ih => rw [sA_cons, sA_cons, ih]
  | swap x y l => rw [sA_cons, sA_cons, sA_cons, sA_cons]; omega
  | trans _ _ i1 i2 => exact i1.trans i2
theorem putO_id {acc : List Ac} {t : Str} {m : Int} {nd : Nd} (h : t ∉ acc.map (·.1)) : (acc.map fun p => if p.1 = t then (p.1, m, nd) else p) = acc := by
  conv => rhs; rw [← List.map_id acc]
  refine List.map_congr_left fun p hp => ?_
  rw [if_neg fun e => h (List.mem_map.mpr ⟨p, hp, e⟩)]
  rfl
theorem putO_at : ∀ {acc : List Ac} {nd : Nd} {p : Ac} (m : Int), AcOk acc → nd.Tx → acc.find? (fun q => decide (q.1 = nd.tx)) = some p →
    (∀ v, rA v (acc.map fun q => if q.1 = nd.tx then (q.1, m, nd) else q) = rA v acc + (m - p.2.1) * v nd) ∧ nA (acc.map fun q => if q.1 = nd.tx then (q.1, m, nd) else q) + p.2.1.natAbs = nA acc + m.natAbs ∧ sA (acc.map fun q => if q.1 = nd.tx then (q.1, m, nd) else q) = sA acc
  | [], _, _, _, _, _, h => by cases h
  | q :: r, nd, p, m, ok, htx, h => by
    obtain ⟨h1, h2⟩ := List.nodup_cons.mp ok.nd
    rw [List.find?_cons] at h
    by_cases e : q.1 = nd.tx
    · simp only [e, decide_true] at h
      cases h
      have eq : q.2.2 = nd := by
        obtain ⟨z1, z2⟩ := ok.tx q List.mem_cons_self
        exact Nd.tx_inj z2 htx (z1.symm.trans e)
      rw [List.map_cons, if_pos e, putO_id (by rw [← e]; exact h1)]
      refine ⟨fun v => ?_, ?_, ?_⟩
      · rw [rA_cons, rA_cons, eq]
        simp only [Int.sub_mul]
        omega
      · rw [nA_cons, nA_cons]
        simp only
        omega
      · rw [sA_cons, sA_cons, eq]
    · simp only [e, decide_false] at h
      obtain ⟨i1, i2, i3⟩ := putO_at m ⟨h2, fun e he => ok.tx e (List.mem_cons_of_mem _ he)⟩ htx h
      rw [List.map_cons, if_neg e]
      refine ⟨fun v => ?_, ?_, ?_⟩
      · rw [rA_cons, rA_cons, i1 v]
        omega
      · rw [nA_cons, nA_cons]
        omega
      · rw [sA_cons, sA_cons, i3]
theorem putO_ok {acc : List Ac} (ok : AcOk acc) {nd : Nd} (h : nd.Tx) (n : Int) : AcOk (putO acc nd.tx n nd) := by
  refine ⟨putO_nodup ok.nd _ _ _, fun e he => ?_⟩
  unfold putO at he
  split at he
  · obtain ⟨p, hp, z⟩ := List.mem_map.mp he
    split at z
    · rename_i hz
      subst z
      exact ⟨hz, h⟩
    · subst z
      exact ok.tx p hp
  · rcases List.mem_append.mp he with z | z
    · exact ok.tx e z
    · rw [List.mem_singleton.mp z]
      exact ⟨rfl, h⟩
theorem putO_r {acc : List Ac} (ok : AcOk acc) {nd : Nd} (h : nd.Tx) (n : Int) : (∀ v, rA v (putO acc nd.tx (getO acc nd.tx + n) nd) = rA v acc + n * v nd) ∧ nA (putO acc nd.tx (getO acc nd.tx + n) nd) ≤ nA acc + n.natAbs ∧ sA (putO acc nd.tx (getO acc nd.tx + n) nd) ≤ sA acc + (1 + nd.size) := by
  unfold putO getO
  cases e : acc.find? (fun p => decide (p.1 = nd.tx)) with
  | none =>
    simp only [Option.isSome_none, Bool.false_eq_true, if_false, Option.map_none, Option.getD_none, Int.zero_add]
    refine ⟨fun v => by rw [rA_app, rA_cons]; simp [rA], by rw [nA_app, nA_cons]; simp [nA], by rw [sA_app, sA_cons]; simp [sA]⟩
  | some p =>
    simp only [Option.isSome_some, if_true, Option.map_some, Option.getD_some]
    obtain ⟨i1, i2, i3⟩ := putO_at (p.2.1 + n) ok h e
    refine ⟨fun v => by rw [i1 v, show p.2.1 + n - p.2.1 = n by omega], by omega, by omega⟩
theorem accO_r : ∀ {ps : Os} {acc : List Ac}, AcOk acc → TxL ps → AcOk (accO acc ps) ∧ (∀ v, rA v (accO acc ps) = rA v acc + rO v ps) ∧ nA (accO acc ps) ≤ nA acc + nO ps ∧ sA (accO acc ps) ≤ sA acc + sizeL ps
  | [], acc, ok, _ => ⟨ok, fun v => by rw [rO_nil, Int.add_zero]; rfl, by simp [nO, accO], by simp [sizeL, accO]⟩
  | (n, k) :: r, acc, ok, h => by
    obtain ⟨i1, i2, i3⟩ := putO_r ok h.1 k
    obtain ⟨j0, j1, j2, j3⟩ := accO_r (ps := r) (putO_ok ok h.1 (getO acc n.tx + k)) h.2
    refine ⟨j0, fun v => ?_, ?_, ?_⟩
    · show rA v (accO (putO acc n.tx (getO acc n.tx + k) n) r) = _
      have z : rO v ((n, k) :: r) = k * v n + rO v r := rO_cons v (n, k) r
      rw [j1 v, i1 v, z]
      omega
    · show nA (accO (putO acc n.tx (getO acc n.tx + k) n) r) ≤ _
      have z : nO ((n, k) :: r) = k.natAbs + nO r := nO_cons (n, k) r
      omega
    · show sA (accO (putO acc n.tx (getO acc n.tx + k) n) r) ≤ sA acc + ((1 + n.size) + sizeL r)
      omega
def kpB (p : Ac) : Bool := decide (p.2.1 ≠ 0) && !p.2.2.isNon
def kpO (l : List Ac) : Os := (l.filter kpB).map fun p => (p.2.2, p.2.1)
theorem non_iff {n : Nd} : n.isNon = true ↔ n = .non := by cases n <;> simp [Nd.isNon]
theorem kp_r : ∀ l : List Ac, (∀ v : Nd → Int, v .non = 0 → rO v (kpO l) = rA v l) ∧ nO (kpO l) ≤ nA l ∧ sizeL (kpO l) ≤ sA l
  | [] => ⟨fun _ _ => rfl, Nat.le_refl _, Nat.le_refl _⟩
  | p :: r => by
    obtain ⟨i1, i2, i3⟩ := kp_r r
    unfold kpO at i1 i2 i3 ⊢
    by_cases h : kpB p = true
    · rw [List.filter_cons_of_pos h, List.map_cons]
      refine ⟨fun v hv => by rw [rO_cons, rA_cons, i1 v hv], by rw [nO_cons, nA_cons]; simp only; omega, ?_⟩
      rw [sA_cons]
      show (1 + p.2.2.size) + sizeL _ ≤ _
      omega
    · rw [List.filter_cons_of_neg h]
      refine ⟨fun v hv => ?_, by rw [nA_cons]; omega, by rw [sA_cons]; omega⟩
      rw [rA_cons, i1 v hv]
      by_cases z : p.2.1 = 0
      · rw [z]
        simp
      · have : p.2.2.isNon = true := by
          cases q : p.2.2.isNon
          · exact absurd (by simp [kpB, z, q]) h
          · rfl
        rw [non_iff.mp this, hv]
        simp
theorem acOk_nil : AcOk [] := ⟨List.nodup_nil, fun e he => by cases he⟩
theorem mergeO_kp (ps : Os) : mergeO ps = kpO (sortO (accO [] ps)) := rfl
theorem rO_merge {v : Nd → Int} (hv : v .non = 0) {ps : Os} (h : TxL ps) : rO v (mergeO ps) = rO v ps := by
  rw [mergeO_kp, (kp_r _).1 v hv, rA_perm v (sortO_perm _), (accO_r acOk_nil h).2.1]
  simp [rA]
theorem nO_merge {ps : Os} (h : TxL ps) : nO (mergeO ps) ≤ nO ps := by
  rw [mergeO_kp]
  refine Nat.le_trans (kp_r _).2.1 ?_
  rw [nA_perm (sortO_perm _)]
  have := (accO_r acOk_nil h).2.2.1
  simpa [nA] using this
theorem sizeL_merge {ps : Os} (h : TxL ps) : sizeL (mergeO ps) ≤ sizeL ps := by
  rw [mergeO_kp]
  refine Nat.le_trans (kp_r _).2.2 ?_
  rw [sA_perm (sortO_perm _)]
  have := (accO_r acOk_nil h).2.2.2
  simpa [sA] using this
theorem mergeO_nd {ps : Os} {q : Nd × Int} (h : q ∈ mergeO ps) : ∃ p ∈ ps, p.1 = q.1 := by
  rw [mergeO_kp] at h
  obtain ⟨e, he, rfl⟩ := List.mem_map.mp h
  have h1 := (sortO_perm _).mem_iff.mp (List.mem_filter.mp he).1
  rcases accO_nd h1 with z | ⟨a, ha, _⟩
  · exact z
  · cases ha
theorem TxL.merge {ps : Os} (h : TxL ps) : TxL (mergeO ps) := TxL_iff.mpr fun q hq => by
  obtain ⟨p, hp, e⟩ := mergeO_nd hq
  rw [← e]
  exact TxL_iff.mp h p hp
structure CanO (os : Os) : Prop where
  lt : os.Pairwise fun a b => ltS a.1.tx b.1.tx = true
  nz : ∀ p ∈ os, p.2 ≠ 0 ∧ p.1 ≠ .non
theorem mergeO_can {ps : Os} (h : TxL ps) : CanO (mergeO ps) := by
  obtain ⟨ok, _⟩ := accO_r acOk_nil h
  have so := sortO_sorted ok.nd
  have tx : ∀ e ∈ sortO (accO [] ps), e.1 = e.2.2.tx := fun e he => (ok.tx e ((sortO_perm _).mem_iff.mp he)).1
  rw [mergeO_kp]
  refine ⟨?_, fun p hp => ?_⟩
  · unfold kpO
    rw [List.pairwise_map]
    have z := so.filter kpB
    refine z.imp_of_mem fun {a b} ha hb hab => ?_
    rw [← tx a (List.mem_filter.mp ha).1, ← tx b (List.mem_filter.mp hb).1]
    exact hab
  · obtain ⟨e, he, rfl⟩ := List.mem_map.mp hp
    have := (List.mem_filter.mp he).2
    unfold kpB at this
    simp only [Bool.and_eq_true, decide_eq_true_eq, Bool.not_eq_true'] at this
    exact ⟨this.1, fun z => by rw [show e.2.2 = .non from z] at this; cases this.2⟩
theorem CanO.nodup {os : Os} (h : CanO os) : (os.map (·.1)).Nodup := by
  rw [List.nodup_iff_pairwise_ne, List.pairwise_map]
  exact h.lt.imp fun {a b} h e => by
    rw [e] at h
    exact ltS_asymm h h
theorem indN_not {os : Os} {n : Nd} (h : n ∉ os.map (·.1)) : rO (indN n) os = 0 := by
  induction os with
  | nil => rfl
  | cons p r ih =>
    rw [List.map_cons, List.mem_cons, not_or] at h
    rw [rO_cons, ih h.2]
    unfold indN
    rw [if_neg fun e => h.1 e.symm]
    simp
theorem indN_mem {os : Os} (nd : (os.map (·.1)).Nodup) {p : Nd × Int} (h : p ∈ os) : rO (indN p.1) os = p.2 := by
  induction os with
  | nil => cases h
  | cons q r ih =>
    obtain ⟨h1, h2⟩ := List.nodup_cons.mp nd
    rw [rO_cons]
    rcases List.mem_cons.mp h with e | h
    · subst e
      rw [indN_not h1]
      unfold indN
      rw [if_pos rfl]
      simp
    · rw [ih h2 h]
      unfold indN
      rw [if_neg fun e => h1 (List.mem_map.mpr ⟨p, h, e.symm⟩)]
      simp
theorem sub_ofO {os ps : Os} (h : CanO os) (h' : (ps.map (·.1)).Nodup) (e : ∀ n, n ≠ .non → rO (indN n) os = rO (indN n) ps) : ∀ p ∈ os, p ∈ ps := fun p hp => by
  have z := indN_mem h.nodup hp
  rw [e _ (h.nz p hp).2] at z
  by_cases hm : p.1 ∈ ps.map (·.1)
  · obtain ⟨q, hq, e1⟩ := List.mem_map.mp hm
    have z2 := indN_mem h' hq
    rw [e1, z] at z2
    have : p = q := Prod.ext e1.symm z2
    rw [this]
    exact hq
  · rw [indN_not hm] at z
    exact absurd z.symm (h.nz p hp).1
theorem CanO.ext {os ps : Os} (h : CanO os) (h' : CanO ps) (e : ∀ n, n ≠ .non → rO (indN n) os = rO (indN n) ps) : os = ps :=
  sorted_same (fun a b => ltS_asymm) ((List.perm_ext_iff_of_nodup (nodup_of_map h.nodup) (nodup_of_map h'.nodup)).mpr fun p => ⟨sub_ofO h h'.nodup e p, sub_ofO h' h.nodup (fun u hu => (e u hu).symm) p⟩) h.lt h'.lt
theorem indN_non {n : Nd} (h : n ≠ .non) : indN n .non = 0 := by
  unfold indN
  rw [if_neg fun e => h e.symm]
theorem CanO.merge {os : Os} (t : TxL os) (h : CanO os) : mergeO os = os := (mergeO_can t).ext h fun n hn => by rw [rO_merge (indN_non hn) t]
end DL
namespace DL
open PySem PySem.Spec PyProof.Rows L2
abbrev Fm := List Tm × Os
def Fm.Tx (x : Fm) : Prop := (∀ p ∈ x.1, p.1.Tx) ∧ TxL x.2
structure Fm.Can (x : Fm) : Prop where
  u : CanU x.1
  o : CanO x.2
def mrg (x : Fm) : Fm := (mergeU x.1, mergeO x.2)
def scl (k : Int) (x : Fm) : Fm := mrg (timesTm k x.1, timesOs k x.2)
def addF (x y : Fm) : Fm := mrg (x.1 ++ y.1, x.2 ++ y.2)
theorem TxL_app {a b : Os} : TxL (a ++ b) ↔ TxL a ∧ TxL b := by
  rw [TxL_iff, TxL_iff, TxL_iff]
  simp only [List.mem_append]
  constructor
  · intro h
    exact ⟨fun p hp => h p (.inl hp), fun p hp => h p (.inr hp)⟩
  · rintro ⟨h1, h2⟩ p (hp | hp)
    · exact h1 p hp
    · exact h2 p hp
theorem TxL_times {k : Int} {a : Os} (h : TxL a) : TxL (timesOs k a) := TxL_iff.mpr fun p hp => by
  obtain ⟨q, hq, rfl⟩ := List.mem_map.mp hp
  exact TxL_iff.mp h q hq
theorem Fm.Tx.mrg {x : Fm} (h : x.Tx) : (mrg x).Tx := ⟨fun p hp => by
  obtain ⟨q, hq, e⟩ := merge_key hp
  rw [← e]
  exact h.1 q hq, h.2.merge⟩
theorem Fm.Tx.times {x : Fm} (h : x.Tx) (k : Int) : Fm.Tx (timesTm k x.1, timesOs k x.2) := ⟨fun p hp => by
  obtain ⟨q, hq, rfl⟩ := List.mem_map.mp hp
  exact h.1 q hq, TxL_times h.2⟩
theorem Fm.Tx.scl {x : Fm} (h : x.Tx) (k : Int) : (scl k x).Tx := (h.times k).mrg
theorem Fm.Tx.app {x y : Fm} (h : x.Tx) (h' : y.Tx) : Fm.Tx (x.1 ++ y.1, x.2 ++ y.2) := ⟨fun p hp => by
  rcases List.mem_append.mp hp with hp | hp
  · exact h.1 p hp
  · exact h'.1 p hp, TxL_app.mpr ⟨h.2, h'.2⟩⟩
theorem Fm.Tx.add {x y : Fm} (h : x.Tx) (h' : y.Tx) : (addF x y).Tx := (h.app h').mrg
theorem mrg_can {x : Fm} (h : x.Tx) : (mrg x).Can := ⟨merge_can _, mergeO_can h.2⟩
theorem Fm.Can.mrg {x : Fm} (t : x.Tx) (h : x.Can) : DL.mrg x = x := Prod.ext h.u.merge (h.o.merge t.2)
def questN (o : Bool) (ts : List Tm) (os : Os) : Nd :=
  if o = true then (if mergeU (oddTm ts) = [] ∧ mergeO (oddOs os) = [] then .non else .ask true (mergeU (oddTm ts)) (mergeO (oddOs os)))
  else if ts = [] ∧ os = [] then .non else .ask false (divTm (byOf ts os) ts) (divOs (byOf ts os) os)
theorem oddOs_tx {os : Os} (h : TxL os) : TxL (oddOs os) := TxL_iff.mpr fun p hp => by
  obtain ⟨q, hq, rfl⟩ := List.mem_map.mp hp
  exact TxL_iff.mp h q hq
theorem divOs_tx {k : Int} {os : Os} (h : TxL os) : TxL (divOs k os) := TxL_iff.mpr fun p hp => by
  obtain ⟨q, hq, rfl⟩ := List.mem_map.mp hp
  exact TxL_iff.mp h q hq
theorem questN_tx {o : Bool} {x : Fm} (h : x.Tx) : (questN o x.1 x.2).Tx := by
  unfold questN
  split
  · split
    · trivial
    · refine ⟨fun p hp => ?_, (oddOs_tx h.2).merge⟩
      obtain ⟨q, hq, e⟩ := merge_key hp
      obtain ⟨q', hq', rfl⟩ := List.mem_map.mp hq
      rw [← e]
      exact h.1 q' hq'
  · split
    · trivial
    · refine ⟨fun p hp => ?_, divOs_tx h.2⟩
      obtain ⟨q', hq', rfl⟩ := List.mem_map.mp hp
      exact h.1 q' hq'
theorem joinN_tx {s : Sg} {a b : Nd} (ha : a.Tx) (hb : b.Tx) : (joinN s a b).Tx := by
  unfold joinN
  split
  · split
    · exact ha
    · trivial
  · split
    · split
      · trivial
      · exact hb
    · split
      · split
        · trivial
        · exact ha
      · exact ⟨ha, hb⟩
def mvT (f : Mv) (p : Tm) : Tm := (p.1.mv f, p.2)
mutual
def Nd.mvd (f : Mv) : Nd → Nd
  | .non => .non
  | .ask o ts os => questN o (mergeU (ts.map (mvT f))) (mergeO (mvdL f os))
  | .jn s a b => joinN s (a.mvd f) (b.mvd f)
def mvdL (f : Mv) : Os → Os
  | [] => []
  | (n, k) :: r => (n.mvd f, k) :: mvdL f r
end
theorem mvdL_map (f : Mv) : ∀ os : Os, mvdL f os = os.map fun p => (p.1.mvd f, p.2)
  | [] => rfl
  | (n, k) :: r => by
    show (n.mvd f, k) :: mvdL f r = _
    rw [mvdL_map f r]
    rfl
theorem U.Tx.mv {u : U} (h : u.Tx) (f : Mv) : (u.mv f).Tx := ⟨h.lw, h.no, by
  show (f.m + u.f.m) % 2 = 0 ∨ (f.m + u.f.m) % 2 = 1
  omega⟩
theorem mvTs_tx {f : Mv} {ts : List Tm} (h : ∀ p ∈ ts, p.1.Tx) : ∀ p ∈ ts.map (mvT f), p.1.Tx := fun p hp => by
  obtain ⟨q, hq, rfl⟩ := List.mem_map.mp hp
  exact (h q hq).mv f
mutual
theorem Nd.Tx.mvd (f : Mv) : ∀ n : Nd, n.Tx → (n.mvd f).Tx
  | .non, _ => trivial
  | .ask o ts os, h => by
    have h1 : Fm.Tx (ts.map (mvT f), mvdL f os) := ⟨mvTs_tx h.1, mvdL_tx f os h.2⟩
    exact questN_tx (x := mrg (ts.map (mvT f), mvdL f os)) h1.mrg
  | .jn s a b, h => joinN_tx (Nd.Tx.mvd f a h.1) (Nd.Tx.mvd f b h.2)
theorem mvdL_tx (f : Mv) : ∀ os : Os, TxL os → TxL (mvdL f os)
  | [], _ => trivial
  | (n, k) :: r, h => ⟨Nd.Tx.mvd f n h.1, mvdL_tx f r h.2⟩
end
theorem oddO_keys (ts : Os) : (oddOs ts).map (·.1) = ts.map (·.1) := by
  unfold oddOs
  rw [List.map_map]
  rfl
theorem nil_can : Fm.Can ([], []) := ⟨⟨List.Pairwise.nil, fun _ h => by cases h⟩, ⟨List.Pairwise.nil, fun _ h => by cases h⟩⟩
theorem nil_tx : Fm.Tx ([], []) := ⟨fun _ h => (by cases h), trivial⟩
theorem gcd_fold_dvd : ∀ (ns : List Int) (g : Nat), (ns.foldl (fun g n => Nat.gcd g n.natAbs) g) ∣ g ∧ ∀ n ∈ ns, ((ns.foldl (fun g n => Nat.gcd g n.natAbs) g : Nat) : Int) ∣ n
  | [], g => ⟨Nat.dvd_refl g, fun _ h => by cases h⟩
  | n :: r, g => by
    obtain ⟨h1, h2⟩ := gcd_fold_dvd r (Nat.gcd g n.natAbs)
    refine ⟨Nat.dvd_trans h1 (Nat.gcd_dvd_left _ _), fun m hm => ?_⟩
    rcases List.mem_cons.mp hm with e | hm
    · subst e
      exact Int.ofNat_dvd_left.mpr (Nat.dvd_trans h1 (Nat.gcd_dvd_right _ _))
    · exact h2 m hm
theorem gcdL_dvd {ns : List Int} {n : Int} (h : n ∈ ns) : (gcdL ns : Int) ∣ n := (gcd_fold_dvd ns 0).2 n h
theorem byOf_dvd {x : Fm} {n : Int} (h : n ∈ timesOf x.1 x.2) : byOf x.1 x.2 ∣ n := by
  unfold byOf
  split
  · exact gcdL_dvd h
  · exact Int.neg_dvd.mpr (gcdL_dvd h)
theorem byOf_ne {x : Fm} {n : Int} (h : n ∈ timesOf x.1 x.2) (h0 : n ≠ 0) : byOf x.1 x.2 ≠ 0 := fun z => by
  have := byOf_dvd h
  rw [z] at this
  exact h0 (Int.zero_dvd.mp this)
theorem Fm.Can.nz {x : Fm} (c : x.Can) : ∀ n ∈ timesOf x.1 x.2, n ≠ 0 := fun n hn => by
  rcases List.mem_append.mp hn with h | h
  · obtain ⟨p, hp, rfl⟩ := List.mem_map.mp h
    exact c.u.nz p hp
  · obtain ⟨p, hp, rfl⟩ := List.mem_map.mp h
    exact (c.o.nz p hp).1
theorem mem_t {x : Fm} {p : Tm} (h : p ∈ x.1) : p.2 ∈ timesOf x.1 x.2 := List.mem_append_left _ (List.mem_map.mpr ⟨p, h, rfl⟩)
theorem mem_o {x : Fm} {p : Nd × Int} (h : p ∈ x.2) : p.2 ∈ timesOf x.1 x.2 := List.mem_append_right _ (List.mem_map.mpr ⟨p, h, rfl⟩)
def divF (x : Fm) : Fm := (divTm (byOf x.1 x.2) x.1, divOs (byOf x.1 x.2) x.2)
theorem CanU.times {ts : List Tm} (c : CanU ts) {k : Int} (hk : k ≠ 0) : CanU (timesTm k ts) := by
  refine ⟨?_, fun p hp => ?_⟩
  · unfold timesTm
    rw [List.pairwise_map]
    exact c.lt
  · obtain ⟨q, hq, rfl⟩ := List.mem_map.mp hp
    exact Int.mul_ne_zero hk (c.nz q hq)
theorem CanO.times {ts : Os} (c : CanO ts) {k : Int} (hk : k ≠ 0) : CanO (timesOs k ts) := by
  refine ⟨?_, fun p hp => ?_⟩
  · unfold timesOs
    rw [List.pairwise_map]
    exact c.lt
  · obtain ⟨q, hq, rfl⟩ := List.mem_map.mp hp
    exact ⟨Int.mul_ne_zero hk (c.nz q hq).1, (c.nz q hq).2⟩
theorem Fm.Can.times {x : Fm} (c : x.Can) {k : Int} (hk : k ≠ 0) : Fm.Can (timesTm k x.1, timesOs k x.2) := ⟨c.u.times hk, c.o.times hk⟩
theorem Fm.Can.scl {x : Fm} (t : x.Tx) (c : x.Can) {k : Int} (hk : k ≠ 0) : DL.scl k x = (timesTm k x.1, timesOs k x.2) := (c.times hk).mrg (t.times k)
end DL
namespace DL
open PySem PySem.Spec PyProof.Rows L2
structure UB (B : Int) (u : U) : Prop where
  tx : u.Tx
  ok : u.f.Ok
  x : -B ≤ u.f.x ∧ u.f.x ≤ B
  y : -B ≤ u.f.y ∧ u.f.y ≤ B
  n : u.n.length ≤ 20
mutual
def Nd.Bd (B : Int) (N : Nat) : Nd → Prop
  | .non => True
  | .ask _ ts os => ((∀ p ∈ ts, UB B p.1) ∧ nT ts + nO os ≤ N) ∧ BdL B N os
  | .jn _ a b => a.Bd B N ∧ b.Bd B N
def BdL (B : Int) (N : Nat) : Os → Prop
  | [] => True
  | (n, _) :: r => n.Bd B N ∧ BdL B N r
end
theorem BdL_iff {B : Int} {N : Nat} : ∀ {os : Os}, BdL B N os ↔ ∀ p ∈ os, p.1.Bd B N
  | [] => by simp [BdL]
  | (n, k) :: r => by simp [BdL, BdL_iff (os := r)]
theorem UB.mono {B B' : Int} (h : B ≤ B') {u : U} (q : UB B u) : UB B' u := ⟨q.tx, q.ok, ⟨by have := q.x; omega, by have := q.x; omega⟩, ⟨by have := q.y; omega, by have := q.y; omega⟩, q.n⟩
mutual
theorem Nd.Bd.mono {B B' : Int} {N N' : Nat} (hB : B ≤ B') (hN : N ≤ N') : ∀ n : Nd, n.Bd B N → n.Bd B' N'
  | .non, _ => trivial
  | .ask o ts os, h => ⟨⟨fun p hp => (h.1.1 p hp).mono hB, Nat.le_trans h.1.2 hN⟩, BdL.mono hB hN os h.2⟩
  | .jn s a b, h => ⟨Nd.Bd.mono hB hN a h.1, Nd.Bd.mono hB hN b h.2⟩
theorem BdL.mono {B B' : Int} {N N' : Nat} (hB : B ≤ B') (hN : N ≤ N') : ∀ os : Os, BdL B N os → BdL B' N' os
  | [], _ => trivial
  | (n, k) :: r, h => ⟨Nd.Bd.mono hB hN n h.1, BdL.mono hB hN r h.2⟩
end
mutual
theorem Nd.Bd.tx {B : Int} {N : Nat} : ∀ n : Nd, n.Bd B N → n.Tx
  | .non, _ => trivial
  | .ask o ts os, h => ⟨fun p hp => (h.1.1 p hp).tx, BdL.tx os h.2⟩
  | .jn s a b, h => ⟨Nd.Bd.tx a h.1, Nd.Bd.tx b h.2⟩
theorem BdL.tx {B : Int} {N : Nat} : ∀ os : Os, BdL B N os → TxL os
  | [], _ => trivial
  | (n, k) :: r, h => ⟨Nd.Bd.tx n h.1, BdL.tx r h.2⟩
end
structure Fm.Bd (x : Fm) (B : Int) (N S Dp : Nat) : Prop where
  u : ∀ p ∈ x.1, UB B p.1
  n : nT x.1 + nO x.2 ≤ N
  o : BdL B N x.2
  s : x.1.length + sizeL x.2 ≤ S
  d : depL x.2 ≤ Dp
structure Nd.BS (n : Nd) (B : Int) (N S Dp : Nat) : Prop where
  b : n.Bd B N
  s : n.size ≤ S
  d : n.dep ≤ Dp
section
variable {x y : Fm} {B B' A : Int} {N N' S S' Dp Dp' : Nat}
theorem Fm.Bd.tx (h : x.Bd B N S Dp) : x.Tx := ⟨fun p hp => (h.u p hp).tx, BdL.tx x.2 h.o⟩
theorem Fm.Bd.mono (h : x.Bd B N S Dp) (hB : B ≤ B') (hN : N ≤ N') (hS : S ≤ S') (hD : Dp ≤ Dp') : x.Bd B' N' S' Dp' := ⟨fun p hp => (h.u p hp).mono hB, Nat.le_trans h.n hN, BdL.mono hB hN x.2 h.o, Nat.le_trans h.s hS, Nat.le_trans h.d hD⟩
theorem Nd.BS.mono {n : Nd} (h : n.BS B N S Dp) (hB : B ≤ B') (hN : N ≤ N') (hS : S ≤ S') (hD : Dp ≤ Dp') : n.BS B' N' S' Dp' := ⟨Nd.Bd.mono hB hN n h.b, Nat.le_trans h.s hS, Nat.le_trans h.d hD⟩
theorem depL_iff {d : Nat} : ∀ {os : Os}, depL os ≤ d ↔ ∀ p ∈ os, 1 + p.1.dep ≤ d
  | [] => by simp [depL]
  | (n, k) :: r => by
    have ih := depL_iff (d := d) (os := r)
    show max (1 + n.dep) (depL r) ≤ d ↔ _
    rw [List.forall_mem_cons, ← ih]
    show max (1 + n.dep) (depL r) ≤ d ↔ 1 + n.dep ≤ d ∧ depL r ≤ d
    omega
theorem Fm.Bd.mrg (h : x.Bd B N S Dp) : (mrg x).Bd B N S Dp := by
  have t := h.tx
  refine ⟨fun p hp => ?_, ?_, BdL_iff.mpr fun p hp => ?_, ?_, depL_iff.mpr fun p hp => ?_⟩
  · obtain ⟨q, hq, e⟩ := merge_key hp
    rw [← e]
    exact h.u q hq
  · have h1 := nT_merge x.1
    have h2 := nO_merge t.2
    have := h.n
    show nT (mergeU x.1) + nO (mergeO x.2) ≤ N
    omega
  · obtain ⟨q, hq, e⟩ := mergeO_nd hp
    rw [← e]
    exact BdL_iff.mp h.o q hq
  · have h1 := merge_len x.1
    have h2 := sizeL_merge t.2
    have := h.s
    show (mergeU x.1).length + sizeL (mergeO x.2) ≤ S
    omega
  · obtain ⟨q, hq, e⟩ := mergeO_nd hp
    rw [← e]
    exact depL_iff.mp h.d q hq
theorem sizeL_app : ∀ (a b : Os), sizeL (a ++ b) = sizeL a + sizeL b
  | [], b => by simp [sizeL]
  | (n, k) :: r, b => by
    show (1 + n.size) + sizeL (r ++ b) = ((1 + n.size) + sizeL r) + sizeL b
    rw [sizeL_app r b]
    omega
theorem Fm.Bd.app (h : x.Bd B N S Dp) (h' : y.Bd B N' S' Dp) : Fm.Bd (x.1 ++ y.1, x.2 ++ y.2) B (N + N') (S + S') Dp := by
  refine ⟨fun p hp => ?_, ?_, BdL_iff.mpr fun p hp => ?_, ?_, depL_iff.mpr fun p hp => ?_⟩
  · rcases List.mem_append.mp hp with hp | hp
    · exact h.u p hp
    · exact h'.u p hp
  · rw [nT_app, nO_app]
    have := h.n
    have := h'.n
    omega
  · rcases List.mem_append.mp hp with hp | hp
    · exact Nd.Bd.mono (Int.le_refl _) (Nat.le_add_right _ _) _ (BdL_iff.mp h.o p hp)
    · exact Nd.Bd.mono (Int.le_refl _) (Nat.le_add_left _ _) _ (BdL_iff.mp h'.o p hp)
  · rw [List.length_append, sizeL_app]
    have := h.s
    have := h'.s
    omega
  · rcases List.mem_append.mp hp with hp | hp
    · exact depL_iff.mp h.d p hp
    · exact depL_iff.mp h'.d p hp
theorem Fm.Bd.add (h : x.Bd B N S Dp) (h' : y.Bd B N' S' Dp) : (addF x y).Bd B (N + N') (S + S') Dp := (h.app h').mrg
theorem nT_times (k : Int) : ∀ ts : List Tm, nT (timesTm k ts) = k.natAbs * nT ts
  | [] => by simp [timesTm, nT]
  | p :: r => by
    have ih := nT_times k r
    show nT ((p.1, k * p.2) :: timesTm k r) = _
    rw [nT_cons, nT_cons, ih, Nat.mul_add, Int.natAbs_mul]
theorem nO_times (k : Int) : ∀ ts : Os, nO (timesOs k ts) = k.natAbs * nO ts
  | [] => by simp [timesOs, nO]
  | p :: r => by
    have ih := nO_times k r
    show nO ((p.1, k * p.2) :: timesOs k r) = _
    rw [nO_cons, nO_cons, ih, Nat.mul_add, Int.natAbs_mul]
theorem sizeL_of : ∀ {os ps : Os}, os.map (·.1) = ps.map (·.1) → sizeL os = sizeL ps
  | [], [], _ => rfl
  | [], _ :: _, h => by cases h
  | _ :: _, [], h => by cases h
  | (n, k) :: r, (m, l) :: q, h => by
    obtain ⟨h1, h2⟩ := List.cons.inj h
    show (1 + n.size) + sizeL r = (1 + m.size) + sizeL q
    rw [sizeL_of h2, show n = m from h1]
theorem sizeL_times (k : Int) (os : Os) : sizeL (timesOs k os) = sizeL os := sizeL_of (by unfold timesOs; rw [List.map_map]; rfl)
theorem Fm.Bd.times (h : x.Bd B N S Dp) (k : Int) : Fm.Bd (timesTm k x.1, timesOs k x.2) B ((k.natAbs + 1) * N) S Dp := by
  have hN : N ≤ (k.natAbs + 1) * N := by
    rw [Nat.add_mul, Nat.one_mul]
    exact Nat.le_add_left _ _
  refine ⟨fun p hp => ?_, ?_, BdL_iff.mpr fun p hp => ?_, ?_, depL_iff.mpr fun p hp => ?_⟩
  · obtain ⟨q, hq, rfl⟩ := List.mem_map.mp hp
    exact h.u q hq
  · show nT (timesTm k x.1) + nO (timesOs k x.2) ≤ _
    rw [nT_times, nO_times, ← Nat.mul_add, Nat.add_mul]
    exact Nat.le_trans (Nat.mul_le_mul_left _ h.n) (Nat.le_add_right _ _)
  · obtain ⟨q, hq, rfl⟩ := List.mem_map.mp hp
    exact Nd.Bd.mono (Int.le_refl _) hN _ (BdL_iff.mp h.o q hq)
  · show (timesTm k x.1).length + sizeL (timesOs k x.2) ≤ S
    rw [sizeL_times]
    unfold timesTm
    rw [List.length_map]
    exact h.s
  · obtain ⟨q, hq, rfl⟩ := List.mem_map.mp hp
    exact depL_iff.mp h.d q hq
theorem Fm.Bd.scl (h : x.Bd B N S Dp) (k : Int) : (scl k x).Bd B ((k.natAbs + 1) * N) S Dp := (h.times k).mrg
theorem nT_odd : ∀ ts : List Tm, nT (oddTm ts) ≤ nT ts
  | [] => Nat.le_refl _
  | p :: r => by
    have ih := nT_odd r
    show nT ((p.1, p.2 % 2) :: oddTm r) ≤ _
    rw [nT_cons, nT_cons]
    simp only
    omega
theorem nO_odd : ∀ ts : Os, nO (oddOs ts) ≤ nO ts
  | [] => Nat.le_refl _
  | p :: r => by
    have ih := nO_odd r
    show nO ((p.1, p.2 % 2) :: oddOs r) ≤ _
    rw [nO_cons, nO_cons]
    simp only
    omega
theorem fdiv_abs {a b : Int} (h0 : b ≠ 0) (h : b ∣ a) : (a.fdiv b).natAbs ≤ a.natAbs := by
  obtain ⟨c, rfl⟩ := h
  rw [Int.mul_fdiv_cancel_left _ h0, Int.natAbs_mul]
  exact Nat.le_mul_of_pos_left _ (by omega)
theorem nT_div {k : Int} : ∀ {ts : List Tm}, (∀ p ∈ ts, k ≠ 0 ∧ k ∣ p.2) → nT (divTm k ts) ≤ nT ts
  | [], _ => Nat.le_refl _
  | p :: r, h => by
    have ih := nT_div (k := k) (ts := r) fun q hq => h q (List.mem_cons_of_mem _ hq)
    obtain ⟨h1, h2⟩ := h p List.mem_cons_self
    have z := fdiv_abs h1 h2
    show nT ((p.1, p.2.fdiv k) :: divTm k r) ≤ _
    rw [nT_cons, nT_cons]
    simp only
    omega
theorem nO_div {k : Int} : ∀ {ts : Os}, (∀ p ∈ ts, k ≠ 0 ∧ k ∣ p.2) → nO (divOs k ts) ≤ nO ts
  | [], _ => Nat.le_refl _
  | p :: r, h => by
    have ih := nO_div (k := k) (ts := r) fun q hq => h q (List.mem_cons_of_mem _ hq)
    obtain ⟨h1, h2⟩ := h p List.mem_cons_self
    have z := fdiv_abs h1 h2
    show nO ((p.1, p.2.fdiv k) :: divOs k r) ≤ _
    rw [nO_cons, nO_cons]
    simp only
    omega
theorem Fm.Bd.odd (h : x.Bd B N S Dp) : Fm.Bd (oddTm x.1, oddOs x.2) B N S Dp := by
  refine ⟨fun p hp => ?_, ?_, BdL_iff.mpr fun p hp => ?_, ?_, depL_iff.mpr fun p hp => ?_⟩
  · obtain ⟨q, hq, rfl⟩ := List.mem_map.mp hp
    exact h.u q hq
  · have h1 := nT_odd x.1
    have h2 := nO_odd x.2
    have := h.n
    show nT (oddTm x.1) + nO (oddOs x.2) ≤ N
    omega
  · obtain ⟨q, hq, rfl⟩ := List.mem_map.mp hp
    exact BdL_iff.mp h.o q hq
  · show (oddTm x.1).length + sizeL (oddOs x.2) ≤ S
    rw [sizeL_of (oddO_keys x.2)]
    unfold oddTm
    rw [List.length_map]
    exact h.s
  · obtain ⟨q, hq, rfl⟩ := List.mem_map.mp hp
    exact depL_iff.mp h.d q hq
theorem divO_keys (k : Int) (ts : Os) : (divOs k ts).map (·.1) = ts.map (·.1) := by
  unfold divOs
  rw [List.map_map]
  rfl
theorem Fm.Bd.divF (h : x.Bd B N S Dp) (c : x.Can) : (divF x).Bd B N S Dp := by
  refine ⟨fun p hp => ?_, ?_, BdL_iff.mpr fun p hp => ?_, ?_, depL_iff.mpr fun p hp => ?_⟩
  · obtain ⟨q, hq, rfl⟩ := List.mem_map.mp hp
    exact h.u q hq
  · have h1 := nT_div (k := byOf x.1 x.2) (ts := x.1) fun p hp => ⟨byOf_ne (mem_t hp) (c.nz _ (mem_t hp)), byOf_dvd (mem_t hp)⟩
    have h2 := nO_div (k := byOf x.1 x.2) (ts := x.2) fun p hp => ⟨byOf_ne (mem_o hp) (c.nz _ (mem_o hp)), byOf_dvd (mem_o hp)⟩
    have := h.n
    show nT (divTm _ x.1) + nO (divOs _ x.2) ≤ N
    omega
  · obtain ⟨q, hq, rfl⟩ := List.mem_map.mp hp
    exact BdL_iff.mp h.o q hq
  · show (divTm (byOf x.1 x.2) x.1).length + sizeL (divOs (byOf x.1 x.2) x.2) ≤ S
    rw [sizeL_of (divO_keys _ x.2)]
    unfold divTm
    rw [List.length_map]
    exact h.s
  · obtain ⟨q, hq, rfl⟩ := List.mem_map.mp hp
    exact depL_iff.mp h.d q hq
theorem Fm.Bd.ask {o : Bool} (h : x.Bd B N S Dp) : (Nd.ask o x.1 x.2).BS B N (S + 1) (Dp + 1) := ⟨⟨⟨h.u, h.n⟩, h.o⟩, by
  show 1 + (x.1.length + sizeL x.2) ≤ S + 1
  have := h.s
  omega, by
  show 1 + depL x.2 ≤ Dp + 1
  have := h.d
  omega⟩
theorem non_bs (h1 : 1 ≤ S) : Nd.non.BS B N S Dp := ⟨trivial, h1, Nat.zero_le _⟩
theorem Fm.Bd.quest {o : Bool} (h : x.Bd B N S Dp) (c : x.Can) : (questN o x.1 x.2).BS B N (S + 1) (Dp + 1) := by
  unfold questN
  split
  · split
    · exact non_bs (by omega)
    · exact h.odd.mrg.ask
  · split
    · exact non_bs (by omega)
    · exact (h.divF c).ask
theorem Nd.BS.join {a b : Nd} {s : Sg} (ha : a.BS B N S Dp) (hb : b.BS B N S' Dp) (h1 : 1 ≤ S) : (joinN s a b).BS B N (S + S' + 1) (Dp + 1) := by
  have e1 : a.BS B N (S + S' + 1) (Dp + 1) := ha.mono (Int.le_refl _) (Nat.le_refl _) (by omega) (by omega)
  have e2 : b.BS B N (S + S' + 1) (Dp + 1) := hb.mono (Int.le_refl _) (Nat.le_refl _) (by omega) (by omega)
  have e3 : Nd.non.BS B N (S + S' + 1) (Dp + 1) := non_bs (by omega)
  unfold joinN
  split
  · split
    · exact e1
    · exact e3
  · split
    · split
      · exact e3
      · exact e2
    · split
      · split
        · exact e3
        · exact e1
      · refine ⟨⟨ha.b, hb.b⟩, ?_, ?_⟩
        · show 1 + a.size + b.size ≤ _
          have := ha.s
          have := hb.s
          omega
        · show 1 + max a.dep b.dep ≤ _
          have := ha.d
          have := hb.d
          omega
theorem UB.mv {u : U} {f : Mv} (h : UB B u) (hf : f.Ok) (hA : f.In A) : UB (A + B) (u.mv f) := by
  have z := Mv.mul_b (f := f) (g := u.f) hA.1 hA.2 h.x h.y
  exact ⟨h.tx.mv f, hf.mul h.ok, z.1, z.2, h.n⟩
theorem nT_mv (f : Mv) (ts : List Tm) : nT (ts.map (mvT f)) = nT ts := by
  unfold nT
  rw [List.map_map]
  rfl
theorem nO_mv (f : Mv) (os : Os) : nO (mvdL f os) = nO os := by
  rw [mvdL_map]
  unfold nO
  rw [List.map_map]
  rfl
theorem Nd.size_pos : ∀ n : Nd, 1 ≤ n.size
  | .non => Nat.le_refl _
  | .ask o ts os => by show 1 ≤ 1 + _; omega
  | .jn s a b => by show 1 ≤ 1 + a.size + b.size; omega
mutual
theorem Nd.BS.mv {f : Mv} (hf : f.Ok) (hA : f.In A) : ∀ n : Nd, n.Bd B N → (n.mvd f).BS (A + B) N n.size n.dep
  | .non, _ => non_bs (Nat.le_refl _)
  | .ask o ts os, h => by
    have b : Fm.Bd (ts.map (mvT f), mvdL f os) (A + B) N (ts.length + sizeL os) (depL os) := by
      obtain ⟨h1, h2, h3⟩ := BdL.mv hf hA os h.2
      refine ⟨fun p hp => ?_, ?_, h1, ?_, h3⟩
      · obtain ⟨q, hq, rfl⟩ := List.mem_map.mp hp
        exact (h.1.1 q hq).mv hf hA
      · show nT (ts.map (mvT f)) + nO (mvdL f os) ≤ N
        rw [nT_mv, nO_mv]
        exact h.1.2
      · show (ts.map (mvT f)).length + sizeL (mvdL f os) ≤ _
        rw [List.length_map]
        omega
    have z := b.mrg.quest (o := o) (mrg_can b.tx)
    refine z.mono (Int.le_refl _) (Nat.le_refl _) ?_ ?_
    · show _ ≤ 1 + (ts.length + sizeL os)
      omega
    · show _ ≤ 1 + depL os
      omega
  | .jn s a b, h => by
    have z := (Nd.BS.mv hf hA a h.1).mono (Int.le_refl _) (Nat.le_refl _) (Nat.le_refl _) (Nat.le_max_left a.dep b.dep)
    have z' := (Nd.BS.mv hf hA b h.2).mono (Int.le_refl _) (Nat.le_refl _) (Nat.le_refl _) (Nat.le_max_right a.dep b.dep)
    refine (z.join (s := s) z' a.size_pos).mono (Int.le_refl _) (Nat.le_refl _) ?_ ?_
    · show _ ≤ 1 + a.size + b.size
      omega
    · show _ ≤ 1 + max a.dep b.dep
      omega
theorem BdL.mv {f : Mv} (hf : f.Ok) (hA : f.In A) : ∀ os : Os, BdL B N os → BdL (A + B) N (mvdL f os) ∧ sizeL (mvdL f os) ≤ sizeL os ∧ depL (mvdL f os) ≤ depL os
  | [], _ => ⟨trivial, Nat.le_refl _, Nat.le_refl _⟩
  | (n, k) :: r, h => by
    obtain ⟨h1, h2, h3⟩ := BdL.mv hf hA r h.2
    have z := Nd.BS.mv hf hA n h.1
    have zs := z.s
    have zd := z.d
    refine ⟨⟨z.b, h1⟩, ?_, ?_⟩
    · show (1 + (n.mvd f).size) + sizeL (mvdL f r) ≤ (1 + n.size) + sizeL r
      omega
    · show max (1 + (n.mvd f).dep) (depL (mvdL f r)) ≤ max (1 + n.dep) (depL r)
      omega
end
theorem UB.okU {u : U} (h : UB B u) (hB : B ≤ 1000000000000000000) : u.Ok := by
  have t0 := h.ok.t0
  have t1 := h.ok.t1
  have hx := h.x
  have hy := h.y
  refine ⟨h.tx.m, Nat.le_trans h.n (by decide), ?_, ?_, ?_⟩ <;> (refine Nat.lt_of_le_of_lt (m := 1000000000000000000) ?_ (by decide) ; omega)
theorem nT_mem {ts : List Tm} {p : Tm} (h : p ∈ ts) : p.2.natAbs ≤ nT ts := by
  induction ts with
  | nil => cases h
  | cons q r ih =>
    rw [nT_cons]
    rcases List.mem_cons.mp h with e | h
    · subst e
      omega
    · have := ih h
      omega
theorem nO_mem {ts : Os} {p : Nd × Int} (h : p ∈ ts) : p.2.natAbs ≤ nO ts := by
  induction ts with
  | nil => cases h
  | cons q r ih =>
    rw [nO_cons]
    rcases List.mem_cons.mp h with e | h
    · subst e
      omega
    · have := ih h
      omega
theorem os_len : ∀ os : Os, os.length ≤ sizeL os
  | [] => Nat.le_refl _
  | (n, k) :: r => by
    have := os_len r
    show r.length + 1 ≤ (1 + n.size) + sizeL r
    omega
theorem sm_of {k : Int} (h : k.natAbs ≤ 1000000000000000000) : Sm k := Nat.lt_of_le_of_lt h (by decide)
mutual
theorem Nd.Bd.okN (hB : B ≤ 1000000000000000000) (hN : N ≤ 1000000000000000000) : ∀ n : Nd, n.Bd B N → n.size ≤ 1000 → n.Ok
  | .non, _, _ => trivial
  | .ask o ts os, h, hs => by
    have hs : 1 + (ts.length + sizeL os) ≤ 1000 := hs
    have h2 := h.1.2
    have hl := os_len os
    refine ⟨by omega, by omega, fun p hp => ⟨(h.1.1 p hp).okU hB, sm_of (by have := nT_mem hp; omega)⟩, BdL.okL hB hN os h.2 (by omega) (fun p hp => by have := nO_mem hp; omega)⟩
  | .jn s a b, h, hs => by
    have hs : 1 + a.size + b.size ≤ 1000 := hs
    exact ⟨Nd.Bd.okN hB hN a h.1 (by omega), Nd.Bd.okN hB hN b h.2 (by omega)⟩
theorem BdL.okL (hB : B ≤ 1000000000000000000) (hN : N ≤ 1000000000000000000) : ∀ os : Os, BdL B N os → sizeL os ≤ 1000 → (∀ p ∈ os, p.2.natAbs ≤ 1000000000000000000) → OkL os
  | [], _, _, _ => trivial
  | (n, k) :: r, h, hs, hk => by
    have hs : (1 + n.size) + sizeL r ≤ 1000 := hs
    exact ⟨⟨Nd.Bd.okN hB hN n h.1 (by omega), sm_of (hk (n, k) List.mem_cons_self)⟩, BdL.okL hB hN r h.2 (by omega) fun p hp => hk p (List.mem_cons_of_mem _ hp)⟩
end
mutual
theorem ht_dep : ∀ n : Nd, n.ht ≤ n.dep
  | .non => Nat.le_refl _
  | .ask o ts os => by
    have := htL_dep os
    show htL os + 1 ≤ 1 + depL os
    omega
  | .jn s a b => by
    have := ht_dep a
    have := ht_dep b
    show max a.ht b.ht + 1 ≤ 1 + max a.dep b.dep
    omega
theorem htL_dep : ∀ os : Os, htL os ≤ depL os
  | [] => Nat.le_refl _
  | (n, k) :: r => by
    have := ht_dep n
    have := htL_dep r
    show max n.ht (htL r) ≤ max (1 + n.dep) (depL r)
    omega
end
theorem setU_len : ∀ l : List U, (setU l).length ≤ l.length
  | [] => Nat.le_refl _
  | u :: r => by
    have ih := setU_len r
    have z : ∀ (m : List U), (insV u m).length ≤ m.length + 1 := fun m => by
      induction m with
      | nil => simp [insV]
      | cons v r ih =>
        unfold insV
        split
        · simp
        · split
          · simp
          · simp only [List.length_cons]
            omega
    have := z (setU r)
    show (insV u (setU r)).length ≤ r.length + 1
    omega
mutual
theorem unk_len : ∀ n : Nd, n.unk.length ≤ n.size
  | .non => Nat.zero_le _
  | .ask o ts os => by
    have h1 := setU_len (ts.map (·.1) ++ unkL os)
    have h2 := unkL_len os
    rw [List.length_append, List.length_map] at h1
    show (setU (ts.map (·.1) ++ unkL os)).length ≤ 1 + (ts.length + sizeL os)
    omega
  | .jn s a b => by
    have h1 := setU_len (a.unk ++ b.unk)
    have h2 := unk_len a
    have h3 := unk_len b
    rw [List.length_append] at h1
    show (setU (a.unk ++ b.unk)).length ≤ 1 + a.size + b.size
    omega
theorem unkL_len : ∀ os : Os, (unkL os).length ≤ sizeL os
  | [] => Nat.le_refl _
  | (n, k) :: r => by
    have h2 := unk_len n
    have h3 := unkL_len r
    show (n.unk ++ unkL r).length ≤ (1 + n.size) + sizeL r
    rw [List.length_append]
    omega
end
mutual
theorem unk_bd : ∀ n : Nd, n.Bd B N → ∀ u ∈ n.unk, UB B u
  | .non, _, u, hu => by cases hu
  | .ask o ts os, h, u, hu => by
    rcases List.mem_append.mp (setU_mem.mp hu) with z | z
    · obtain ⟨p, hp, rfl⟩ := List.mem_map.mp z
      exact h.1.1 p hp
    · exact unkL_bd os h.2 u z
  | .jn s a b, h, u, hu => by
    rcases List.mem_append.mp (setU_mem.mp hu) with z | z
    · exact unk_bd a h.1 u z
    · exact unk_bd b h.2 u z
theorem unkL_bd : ∀ os : Os, BdL B N os → ∀ u ∈ unkL os, UB B u
  | [], _, u, hu => by cases hu
  | (n, k) :: r, h, u, hu => by
    rcases List.mem_append.mp hu with z | z
    · exact unk_bd n h.1 u z
    · exact unkL_bd r h.2 u z
end
theorem Fm.Bd.fmOk (h : x.Bd B N S Dp) (hB : B ≤ 1000000000000000000) (hN : N ≤ 1000000000000000000) (hS : S ≤ 1000) : FmOk x.1 x.2 := by
  have hn := h.n
  have hs := h.s
  have hl := os_len x.2
  exact ⟨by omega, by omega, fun p hp => ⟨(h.u p hp).okU hB, sm_of (by have := nT_mem hp; omega)⟩, BdL.okL hB hN x.2 h.o (by omega) fun p hp => by have := nO_mem hp; omega⟩
theorem Fm.Bd.pathOk (h : x.Bd B N S Dp) (hB : B ≤ 1000000000000) (hN : N ≤ 1000000000000) (hS : S ≤ 62) (hD : Dp ≤ 20) : PathOk x.1 x.2 := by
  have hn := h.n
  have hs := h.s
  have hd := h.d
  have hl := os_len x.2
  have hk := htL_dep x.2
  refine ⟨h.fmOk (by omega) (by omega) (by omega), fun p hp => ?_, fun p hp => ?_, by omega, ?_, fun u hu => ?_, by omega, by omega⟩
  · have := nT_mem hp
    omega
  · have := nO_mem hp
    omega
  · have h1 := setU_len (x.1.map (·.1) ++ unkL x.2)
    have h2 := unkL_len x.2
    rw [List.length_append, List.length_map] at h1
    show (setU (x.1.map (·.1) ++ unkL x.2)).length ≤ 62
    omega
  · have z : UB B u := by
      rcases List.mem_append.mp (setU_mem.mp hu) with z | z
      · obtain ⟨p, hp, rfl⟩ := List.mem_map.mp z
        exact h.u p hp
      · exact unkL_bd x.2 h.o u z
    have := z.x
    have := z.y
    omega
theorem sizeL_memb : ∀ {os : Os} {p : Nd × Int}, p ∈ os → p.1.size ≤ sizeL os
  | (n, k) :: r, p, hp => by
    rcases List.mem_cons.mp hp with e | hp
    · subst e
      show n.size ≤ (1 + n.size) + sizeL r
      omega
    · have := sizeL_memb hp
      show _ ≤ (1 + n.size) + sizeL r
      omega
theorem Fm.Bd.len (h : x.Bd B N S Dp) (hS : S ≤ 90000) : x.1.length ≤ 90000 := by
  have := h.s
  omega
end
end DL
namespace DL
open PySem PySem.Spec PyProof.Rows L2
mutual
inductive Rp where
  | cur (n : Str) | nul | sum (a b : Rp) | less (a b : Rp) | many (k : Int) (a : Rp) | mvd (f : Mv) (a : Rp) | outl (r : Rr) | back (a : Rp)
inductive Rr where
  | non | ask (o : Bool) (p : Rp) | mvd (f : Mv) (r : Rr) | jn (s : Sg) (a b : Rr)
end
mutual
def Rp.d : Rp → D
  | .cur n => .tup [.str "curve", .str n]
  | .nul => .tup [.str "nothing"]
  | .sum a b => .tup [.str "sum", a.d, b.d]
  | .less a b => .tup [.str "less", a.d, b.d]
  | .many k a => .tup [.str "many", .int k, a.d]
  | .mvd f a => .tup [.str "moved", .tup f.l, a.d]
  | .outl r => .tup [.str "outline", r.d]
  | .back a => .tup [.str "back", a.d]
def Rr.d : Rr → D
  | .non => .tup [.str "none"]
  | .ask o p => .tup [.str (kindS o), p.d]
  | .mvd f r => .tup [.str "moved", .tup f.l, r.d]
  | .jn s a b => .tup [.str s.s, a.d, b.d]
end
def Mv.sg (f : Mv) : Int := 1 - 2 * f.m
mutual
def Rp.fm (F : Mv) : Rp → Fm
  | .cur n => ([(⟨n, F⟩, 1)], [])
  | .nul => ([], [])
  | .sum a b => addF (a.fm F) (b.fm F)
  | .less a b => addF (a.fm F) (scl (-1) (b.fm F))
  | .many k a => scl k (a.fm F)
  | .mvd f a => scl f.sg (a.fm (F.mul f))
  | .outl r => if (r.nd F).isNon = true then ([], []) else ([], [(r.nd F, 1)])
  | .back a => scl (-1) (a.fm F)
def Rr.nd (F : Mv) : Rr → Nd
  | .non => .non
  | .ask o p => questN o (p.fm F).1 (p.fm F).2
  | .mvd f r => r.nd (F.mul f)
  | .jn s a b => joinN s (a.nd F) (b.nd F)
end
def NmOk (n : Str) : Prop := Lw n ∧ n ≠ "nothing" ∧ n.length ≤ 20 ∧ NameOk n
theorem NmOk.of {n : Str} (h : NameOk n) : NmOk n := by
  have h' := h
  obtain ⟨l, rfl, h1, h2, h3, h4⟩ := h
  refine ⟨⟨fun z => ?_, fun c hc => ?_⟩, fun z => ?_, ?_, h'⟩
  · have z : l = [] := z
    rw [z] at h1
    cases h1
  · have hc : c ∈ l := hc
    exact decide_eq_true (h3 c hc)
  · exact h4 (by rw [z]; decide)
  · show l.length ≤ 20
    omega
mutual
def Rp.Ok : Rp → Prop
  | .cur n => NmOk n
  | .nul => True
  | .sum a b => a.Ok ∧ b.Ok
  | .less a b => a.Ok ∧ b.Ok
  | .many k a => a.Ok
  | .mvd f a => f.Ok ∧ a.Ok
  | .outl r => r.Ok
  | .back a => a.Ok
def Rr.Ok : Rr → Prop
  | .non => True
  | .ask o p => p.Ok
  | .mvd f r => f.Ok ∧ r.Ok
  | .jn s a b => a.Ok ∧ b.Ok
end
theorem one_tx {n : Str} (h : NmOk n) {F : Mv} (hF : F.Ok) : Fm.Tx ([(⟨n, F⟩, 1)], []) := ⟨fun p hp => by
  rw [List.mem_singleton.mp hp]
  exact ⟨h.1, h.2.1, by show F.m = 0 ∨ F.m = 1; have := hF.m0; have := hF.m1; omega⟩, trivial⟩
theorem one_can {u : U} : Fm.Can ([(u, 1)], []) := ⟨⟨by simp, fun p hp => by rw [List.mem_singleton.mp hp]; exact Int.one_ne_zero⟩, nil_can.o⟩
theorem out_tx {n : Nd} (h : n.Tx) : Fm.Tx ([], [(n, 1)]) := ⟨fun p hp => (by cases hp), h, trivial⟩
theorem out_can {n : Nd} (h : n ≠ .non) : Fm.Can ([], [(n, 1)]) := ⟨nil_can.u, ⟨by simp, fun p hp => by rw [List.mem_singleton.mp hp]; exact ⟨Int.one_ne_zero, h⟩⟩⟩
mutual
theorem Rp.fmT : ∀ (r : Rp) (F : Mv), r.Ok → F.Ok → (r.fm F).Tx ∧ (r.fm F).Can
  | .cur n, F, h, hF => ⟨one_tx h hF, one_can⟩
  | .nul, F, h, hF => ⟨nil_tx, nil_can⟩
  | .sum a b, F, h, hF => by
    have z := (Rp.fmT a F h.1 hF).1.app (Rp.fmT b F h.2 hF).1
    exact ⟨z.mrg, mrg_can z⟩
  | .less a b, F, h, hF => by
    have z := (Rp.fmT a F h.1 hF).1.app ((Rp.fmT b F h.2 hF).1.scl (-1))
    exact ⟨z.mrg, mrg_can z⟩
  | .many k a, F, h, hF => by
    have z := (Rp.fmT a F h hF).1.times k
    exact ⟨z.mrg, mrg_can z⟩
  | .mvd f a, F, h, hF => by
    have z := (Rp.fmT a (F.mul f) h.2 (hF.mul h.1)).1.times f.sg
    exact ⟨z.mrg, mrg_can z⟩
  | .outl r, F, h, hF => by
    have z := Rr.ndT r F h hF
    show Fm.Tx (if (r.nd F).isNon = true then (([], []) : Fm) else ([], [(r.nd F, 1)])) ∧ Fm.Can (if (r.nd F).isNon = true then (([], []) : Fm) else ([], [(r.nd F, 1)]))
    split
    · exact ⟨nil_tx, nil_can⟩
    · rename_i hn
      exact ⟨out_tx z, out_can fun e => hn (non_iff.mpr e)⟩
  | .back a, F, h, hF => by
    have z := (Rp.fmT a F h hF).1.times (-1)
    exact ⟨z.mrg, mrg_can z⟩
theorem Rr.ndT : ∀ (r : Rr) (F : Mv), r.Ok → F.Ok → (r.nd F).Tx
  | .non, F, h, hF => trivial
  | .ask o p, F, h, hF => questN_tx (Rp.fmT p F h hF).1
  | .mvd f r, F, h, hF => Rr.ndT r (F.mul f) h.2 (hF.mul h.1)
  | .jn s a b, F, h, hF => joinN_tx (Rr.ndT a F h.1 hF) (Rr.ndT b F h.2 hF)
end
theorem Rp.fm_mvd {f : Mv} (r : Rp) (hf : f.Ok) : (Rp.mvd f r).fm Mv.one = scl f.sg (r.fm f) := by
  show scl f.sg (r.fm (Mv.one.mul f)) = _
  rw [Mv.one_mul hf]
theorem Rr.nd_mvd {f : Mv} (r : Rr) (hf : f.Ok) : (Rr.mvd f r).nd Mv.one = r.nd f := by
  show r.nd (Mv.one.mul f) = _
  rw [Mv.one_mul hf]
def hz (ws : List Tm) (n : Nd) : Int := b2z (n.holds ws)
def Fm.rd (ws : List Tm) (x : Fm) : Int := fmR ws x.1 x.2
mutual
def Rp.rd (ws : List Tm) (F : Mv) : Rp → Int
  | .cur n => getU ws ⟨n, F⟩
  | .nul => 0
  | .sum a b => a.rd ws F + b.rd ws F
  | .less a b => a.rd ws F - b.rd ws F
  | .many k a => k * a.rd ws F
  | .mvd f a => f.sg * a.rd ws (F.mul f)
  | .outl r => b2z (r.hd ws F)
  | .back a => 0 - a.rd ws F
def Rr.hd (ws : List Tm) (F : Mv) : Rr → Bool
  | .non => false
  | .ask o p => if o = true then p.rd ws F % 2 == 1 else !(p.rd ws F == 0)
  | .mvd f r => r.hd ws (F.mul f)
  | .jn s a b => s.op (a.hd ws F) (b.hd ws F)
end
mutual
def Rp.W (d : Nat) : Rp → Prop
  | .cur n => NmOk n
  | .nul => True
  | .sum a b => 1 ≤ d ∧ a.W (d - 1) ∧ b.W (d - 1)
  | .less a b => 1 ≤ d ∧ a.W (d - 1) ∧ b.W (d - 1)
  | .many k a => 1 ≤ d ∧ (-4 ≤ k ∧ k ≤ 4) ∧ a.W (d - 1)
  | .mvd f a => 1 ≤ d ∧ (f.Ok ∧ f.In (10000000000 : Int)) ∧ a.W (d - 1)
  | .outl r => 1 ≤ d ∧ r.W (d - 1)
  | .back a => 1 ≤ d ∧ a.W (d - 1)
def Rr.W (d : Nat) : Rr → Prop
  | .non => True
  | .ask o p => p.W (d - 1)
  | .mvd f r => 1 ≤ d ∧ (f.Ok ∧ f.In (10000000000 : Int)) ∧ r.W (d - 1)
  | .jn s a b => 1 ≤ d ∧ a.W (d - 1) ∧ b.W (d - 1)
end
mutual
theorem Rp.W.ok : ∀ (r : Rp) (d : Nat), r.W d → r.Ok
  | .cur n, d, h => h
  | .nul, d, h => trivial
  | .sum a b, d, h => ⟨Rp.W.ok a _ h.2.1, Rp.W.ok b _ h.2.2⟩
  | .less a b, d, h => ⟨Rp.W.ok a _ h.2.1, Rp.W.ok b _ h.2.2⟩
  | .many k a, d, h => Rp.W.ok a _ h.2.2
  | .mvd f a, d, h => ⟨h.2.1.1, Rp.W.ok a _ h.2.2⟩
  | .outl r, d, h => Rr.W.ok r _ h.2
  | .back a, d, h => Rp.W.ok a _ h.2
theorem Rr.W.ok : ∀ (r : Rr) (d : Nat), r.W d → r.Ok
  | .non, d, h => trivial
  | .ask o p, d, h => Rp.W.ok p _ h
  | .mvd f r, d, h => ⟨h.2.1.1, Rr.W.ok r _ h.2.2⟩
  | .jn s a b, d, h => ⟨Rr.W.ok a _ h.2.1, Rr.W.ok b _ h.2.2⟩
end
theorem In_mul {f g : Mv} {A B : Int} (h : f.In A) (h' : g.In B) : (f.mul g).In (A + B) := Mv.mul_b h.1 h.2 h'.1 h'.2
theorem sg_abs {f : Mv} (h : f.Ok) : f.sg.natAbs = 1 := by
  have := h.m0
  have := h.m1
  unfold Mv.sg
  omega
theorem pow_pred {b d : Nat} (h : 1 ≤ d) : b ^ d = b ^ (d - 1) * b := by
  obtain ⟨e, rfl⟩ : ∃ e, d = e + 1 := ⟨d - 1, by omega⟩
  rw [Nat.add_sub_cancel, Nat.pow_succ]
theorem nil_bd {B : Int} {N S Dp : Nat} : Fm.Bd ([], []) B N S Dp := ⟨fun p hp => (by cases hp), Nat.zero_le _, trivial, Nat.zero_le _, Nat.zero_le _⟩
theorem one_bd {n : Str} (h : NmOk n) {F : Mv} (hF : F.Ok) {B : Int} (hB : F.In B) {N S Dp : Nat} (hN : 1 ≤ N) (hS : 1 ≤ S) : Fm.Bd ([(⟨n, F⟩, 1)], []) B N S Dp := ⟨fun p hp => by
  have z := (one_tx h hF).1 p hp
  rw [List.mem_singleton.mp hp] at z ⊢
  exact ⟨z, hF, hB.1, hB.2, h.2.2.1⟩, hN, trivial, hS, Nat.zero_le _⟩
theorem out_bd {n : Nd} {B : Int} {N S Dp : Nat} (h : n.BS B N S Dp) (hN : 1 ≤ N) : Fm.Bd ([], [(n, 1)]) B N (S + 1) (Dp + 1) := ⟨fun p hp => (by cases hp), hN, ⟨h.b, trivial⟩, by
  show 0 + ((1 + n.size) + 0) ≤ _
  have := h.s
  omega, by
  show max (1 + n.dep) 0 ≤ _
  have := h.d
  omega⟩
theorem In.mono {f : Mv} {A B : Int} (h : f.In A) (hab : A ≤ B) : f.In B := by
  obtain ⟨⟨h1, h2⟩, h3, h4⟩ := h
  exact ⟨⟨by omega, by omega⟩, by omega, by omega⟩
mutual
theorem Rp.bd : ∀ (r : Rp) (d : Nat) (F : Mv) (A : Int), r.W d → F.Ok → F.In A → (r.fm F).Bd (A + (10000000000 : Int) * d) (6 ^ d) (3 * 2 ^ d / 2) (2 * d)
  | .cur n, d, F, A, h, hF, hA => one_bd h hF (In.mono hA (by omega)) (Nat.pow_pos (by decide)) (by have := Nat.pow_pos (a := 2) (n := d) (by decide); omega)
  | .nul, d, F, A, h, hF, hA => nil_bd
  | .sum a b, d, F, A, h, hF, hA => by
    have z1 := Rp.bd a (d - 1) F A h.2.1 hF hA
    have z2 := Rp.bd b (d - 1) F A h.2.2 hF hA
    have p1 := pow_pred (b := 6) h.1
    have p2 := pow_pred (b := 2) h.1
    have p3 := Nat.pow_pos (a := 2) (n := d - 1) (by decide)
    have e : ((d - 1 : Nat) : Int) = (d : Int) - 1 := by have := h.1; omega
    exact (z1.add z2).mono (by rw [e]; omega) (by omega) (by omega) (by omega)
  | .less a b, d, F, A, h, hF, hA => by
    have z1 := Rp.bd a (d - 1) F A h.2.1 hF hA
    have z2 := (Rp.bd b (d - 1) F A h.2.2 hF hA).scl (-1)
    have p1 := pow_pred (b := 6) h.1
    have p2 := pow_pred (b := 2) h.1
    have p3 := Nat.pow_pos (a := 2) (n := d - 1) (by decide)
    have e : ((d - 1 : Nat) : Int) = (d : Int) - 1 := by have := h.1; omega
    exact (z1.add z2).mono (by rw [e]; omega) (by show _ + (1 + 1) * _ ≤ _; omega) (by omega) (by omega)
  | .many k a, d, F, A, h, hF, hA => by
    have z2 := (Rp.bd a (d - 1) F A h.2.2 hF hA).scl k
    have p1 := pow_pred (b := 6) h.1
    have p2 := pow_pred (b := 2) h.1
    have p3 := Nat.pow_pos (a := 2) (n := d - 1) (by decide)
    have e : ((d - 1 : Nat) : Int) = (d : Int) - 1 := by have := h.1; omega
    have hk : k.natAbs + 1 ≤ 6 := by have := h.2.1; omega
    exact z2.mono (by rw [e]; omega) (by rw [p1, Nat.mul_comm]; exact Nat.mul_le_mul_left _ hk) (by omega) (by omega)
  | .mvd f a, d, F, A, h, hF, hA => by
    have z2 := (Rp.bd a (d - 1) (F.mul f) (A + (10000000000 : Int)) h.2.2 (hF.mul h.2.1.1) (In_mul hA h.2.1.2)).scl f.sg
    rw [sg_abs h.2.1.1] at z2
    have p1 := pow_pred (b := 6) h.1
    have p2 := pow_pred (b := 2) h.1
    have p3 := Nat.pow_pos (a := 2) (n := d - 1) (by decide)
    have e : ((d - 1 : Nat) : Int) = (d : Int) - 1 := by have := h.1; omega
    exact z2.mono (by rw [e]; omega) (by omega) (by omega) (by omega)
  | .outl r, d, F, A, h, hF, hA => by
    have z := Rr.bd r (d - 1) F A h.2 hF hA
    have p1 := pow_pred (b := 6) h.1
    have p2 := pow_pred (b := 2) h.1
    have p3 := Nat.pow_pos (a := 2) (n := d - 1) (by decide)
    have p4 := Nat.pow_pos (a := 6) (n := d - 1) (by decide)
    have e : ((d - 1 : Nat) : Int) = (d : Int) - 1 := by have := h.1; omega
    have hd := h.1
    show Fm.Bd (if (r.nd F).isNon = true then ([], []) else ([], [(r.nd F, 1)])) _ _ _ _
    split
    · exact nil_bd
    · exact (out_bd z (by omega)).mono (by rw [e]; omega) (by omega) (by omega) (by omega)
  | .back a, d, F, A, h, hF, hA => by
    have z2 := (Rp.bd a (d - 1) F A h.2 hF hA).scl (-1)
    have p1 := pow_pred (b := 6) h.1
    have p2 := pow_pred (b := 2) h.1
    have p3 := Nat.pow_pos (a := 2) (n := d - 1) (by decide)
    have e : ((d - 1 : Nat) : Int) = (d : Int) - 1 := by have := h.1; omega
    exact z2.mono (by rw [e]; omega) (by show (1 + 1) * _ ≤ _; omega) (by omega) (by omega)
theorem Rr.bd : ∀ (r : Rr) (d : Nat) (F : Mv) (A : Int), r.W d → F.Ok → F.In A → (r.nd F).BS (A + (10000000000 : Int) * d) (6 ^ d) (3 * 2 ^ d - 1) (2 * d + 1)
  | .non, d, F, A, h, hF, hA => non_bs (by have := Nat.pow_pos (a := 2) (n := d) (by decide); omega)
  | .ask o p, d, F, A, h, hF, hA => by
    have z := (Rp.bd p (d - 1) F A h hF hA).quest (o := o) (p.fmT F (Rp.W.ok p _ h) hF).2
    have p2 : 2 ^ (d - 1) ≤ 2 ^ d := Nat.pow_le_pow_right (by decide) (by omega)
    have p1 : 6 ^ (d - 1) ≤ 6 ^ d := Nat.pow_le_pow_right (by decide) (by omega)
    have p3 := Nat.pow_pos (a := 2) (n := d - 1) (by decide)
    exact z.mono (by omega) p1 (by omega) (by omega)
  | .mvd f r, d, F, A, h, hF, hA => by
    have z := Rr.bd r (d - 1) (F.mul f) (A + (10000000000 : Int)) h.2.2 (hF.mul h.2.1.1) (In_mul hA h.2.1.2)
    have p1 : 6 ^ (d - 1) ≤ 6 ^ d := Nat.pow_le_pow_right (by decide) (by omega)
    have p2 : 2 ^ (d - 1) ≤ 2 ^ d := Nat.pow_le_pow_right (by decide) (by omega)
    have e : ((d - 1 : Nat) : Int) = (d : Int) - 1 := by have := h.1; omega
    exact z.mono (by rw [e]; omega) p1 (by omega) (by omega)
  | .jn s a b, d, F, A, h, hF, hA => by
    have z1 := Rr.bd a (d - 1) F A h.2.1 hF hA
    have z2 := Rr.bd b (d - 1) F A h.2.2 hF hA
    have p1 : 6 ^ (d - 1) ≤ 6 ^ d := Nat.pow_le_pow_right (by decide) (by omega)
    have p2 := pow_pred (b := 2) h.1
    have p3 := Nat.pow_pos (a := 2) (n := d - 1) (by decide)
    have e : ((d - 1 : Nat) : Int) = (d : Int) - 1 := by have := h.1; omega
    exact (z1.join (s := s) z2 (by omega)).mono (by rw [e]; omega) p1 (by omega) (by omega)
end
end DL
namespace DL
open PySem PySem.Spec PyProof.Rows L2
def PGo (x : Fm) : Prop := x.Bd 1000000000000 1000000000000 62 20
def RGo (n : Nd) : Prop := n.BS 1000000000000 1000000000000 62 20
def Fm.sz (x : Fm) : Nat := x.1.length + sizeL x.2
def outF (n : Nd) : Fm := if n.isNon = true then ([], []) else ([], [(n, 1)])
mutual
def Rp.Fit : Rp → Prop
  | .cur n => NmOk n
  | .nul => True
  | .sum a b => (a.Fit ∧ b.Fit ∧ (a.fm Mv.one).sz + (b.fm Mv.one).sz ≤ 63) ∧ PGo (addF (a.fm Mv.one) (b.fm Mv.one))
  | .less a b => (a.Fit ∧ b.Fit ∧ (a.fm Mv.one).sz + (b.fm Mv.one).sz ≤ 63) ∧ PGo (addF (a.fm Mv.one) (scl (-1) (b.fm Mv.one)))
  | .many k a => (a.Fit ∧ (-18446744073709551616 < k ∧ k < 18446744073709551616)) ∧ PGo (scl k (a.fm Mv.one))
  | .mvd f a => (a.Fit ∧ (f.Ok ∧ f.In 1000000000000)) ∧ PGo (scl f.sg (a.fm f))
  | .outl r => r.Fit ∧ PGo (outF (r.nd Mv.one))
  | .back a => a.Fit ∧ PGo (scl (-1) (a.fm Mv.one))
def Rr.Fit : Rr → Prop
  | .non => True
  | .ask o p => p.Fit ∧ RGo (questN o (p.fm Mv.one).1 (p.fm Mv.one).2)
  | .mvd f r => (r.Fit ∧ (f.Ok ∧ f.In 1000000000000)) ∧ RGo (r.nd f)
  | .jn s a b => (a.Fit ∧ b.Fit) ∧ RGo (joinN s (a.nd Mv.one) (b.nd Mv.one))
end
mutual
theorem Rp.Fit.ok : ∀ r : Rp, r.Fit → r.Ok
  | .cur n, h => h
  | .nul, h => trivial
  | .sum a b, h => ⟨Rp.Fit.ok a h.1.1, Rp.Fit.ok b h.1.2.1⟩
  | .less a b, h => ⟨Rp.Fit.ok a h.1.1, Rp.Fit.ok b h.1.2.1⟩
  | .many k a, h => Rp.Fit.ok a h.1.1
  | .mvd f a, h => ⟨h.1.2.1, Rp.Fit.ok a h.1.1⟩
  | .outl r, h => Rr.Fit.ok r h.1
  | .back a, h => Rp.Fit.ok a h.1
theorem Rr.Fit.ok : ∀ r : Rr, r.Fit → r.Ok
  | .non, h => trivial
  | .ask o p, h => Rp.Fit.ok p h.1
  | .mvd f r, h => ⟨h.1.2.1, Rr.Fit.ok r h.1.1⟩
  | .jn s a b, h => ⟨Rr.Fit.ok a h.1.1, Rr.Fit.ok b h.1.2⟩
end
theorem one_in {A : Int} (h : 0 ≤ A) : Mv.one.In A := ⟨⟨by show -A ≤ 0; omega, h⟩, by show -A ≤ 0; omega, h⟩
theorem Rp.Fit.go : ∀ {r : Rp}, r.Fit → PGo (r.fm Mv.one)
  | .cur n, h => one_bd h Mv.one_ok (one_in (by decide)) (by decide) (by decide)
  | .nul, h => nil_bd
  | .sum a b, h => h.2
  | .less a b, h => h.2
  | .many k a, h => h.2
  | .mvd f a, h => by
    rw [Rp.fm_mvd a h.1.2.1]
    exact h.2
  | .outl r, h => h.2
  | .back a, h => h.2
theorem Rr.Fit.go : ∀ {r : Rr}, r.Fit → RGo (r.nd Mv.one)
  | .non, h => non_bs (by decide)
  | .ask o p, h => h.2
  | .mvd f r, h => by
    rw [Rr.nd_mvd r h.1.2.1]
    exact h.2
  | .jn s a b, h => h.2
theorem two_pow_le {d : Nat} (h : d ≤ 4) : 2 ^ d ≤ 16 := Nat.le_trans (Nat.pow_le_pow_right (by decide) h) (by decide)
theorem six_pow_le {d : Nat} (h : d ≤ 4) : 6 ^ d ≤ 1296 := Nat.le_trans (Nat.pow_le_pow_right (by decide) h) (by decide)
theorem Rp.W.go {r : Rp} {d : Nat} (h : r.W d) (hd : d ≤ 4) {F : Mv} (hF : F.Ok) (hA : F.In 100000000000) : PGo (r.fm F) := by
  have z := Rp.bd r d F _ h hF hA
  have p1 := two_pow_le hd
  have p2 := six_pow_le hd
  exact z.mono (by omega) (by omega) (by omega) (by omega)
theorem Rr.W.go {r : Rr} {d : Nat} (h : r.W d) (hd : d ≤ 4) {F : Mv} (hF : F.Ok) (hA : F.In 100000000000) : RGo (r.nd F) := by
  have z := Rr.bd r d F _ h hF hA
  have p1 := two_pow_le hd
  have p2 := six_pow_le hd
  exact z.mono (by omega) (by omega) (by omega) (by omega)
theorem half_le (d : Nat) : 3 * 2 ^ d / 2 ≤ 3 * 2 ^ d - 2 := by
  have := Nat.pow_pos (a := 2) (n := d) (by decide)
  omega
theorem Rp.W.sz {r : Rp} {d : Nat} (h : r.W d) (hd : d ≤ 4) : (r.fm Mv.one).sz ≤ 3 * 2 ^ d - 2 := Nat.le_trans (Rp.bd r d Mv.one 0 h Mv.one_ok (one_in (Int.le_refl _))).s (half_le d)
theorem sz_two {d a b : Nat} (hd : 1 ≤ d) (h4 : d ≤ 4) (h1 : a ≤ 3 * 2 ^ (d - 1) - 2) (h2 : b ≤ 3 * 2 ^ (d - 1) - 2) : a + b ≤ 63 := by
  have p := pow_pred (b := 2) hd
  have p1 := two_pow_le h4
  omega
mutual
theorem Rp.W.fit : ∀ (r : Rp) (d : Nat), d ≤ 4 → r.W d → r.Fit
  | .cur n, d, hd, h => h
  | .nul, d, hd, h => trivial
  | .sum a b, d, hd, h => ⟨⟨Rp.W.fit a (d - 1) (by omega) h.2.1, Rp.W.fit b (d - 1) (by omega) h.2.2, sz_two h.1 hd (Rp.W.sz h.2.1 (by omega)) (Rp.W.sz h.2.2 (by omega))⟩, Rp.W.go (r := .sum a b) h hd Mv.one_ok (one_in (by decide))⟩
  | .less a b, d, hd, h => ⟨⟨Rp.W.fit a (d - 1) (by omega) h.2.1, Rp.W.fit b (d - 1) (by omega) h.2.2, sz_two h.1 hd (Rp.W.sz h.2.1 (by omega)) (Rp.W.sz h.2.2 (by omega))⟩, Rp.W.go (r := .less a b) h hd Mv.one_ok (one_in (by decide))⟩
  | .many k a, d, hd, h => ⟨⟨Rp.W.fit a (d - 1) (by omega) h.2.2, by have := h.2.1; omega⟩, Rp.W.go (r := .many k a) h hd Mv.one_ok (one_in (by decide))⟩
  | .mvd f a, d, hd, h => ⟨⟨Rp.W.fit a (d - 1) (by omega) h.2.2, h.2.1.1, In.mono h.2.1.2 (by decide)⟩, by
      have z := Rp.W.go (r := .mvd f a) h hd Mv.one_ok (one_in (by decide))
      rw [Rp.fm_mvd a h.2.1.1] at z
      exact z⟩
  | .outl r, d, hd, h => ⟨Rr.W.fit r (d - 1) (by omega) h.2, Rp.W.go (r := .outl r) h hd Mv.one_ok (one_in (by decide))⟩
  | .back a, d, hd, h => ⟨Rp.W.fit a (d - 1) (by omega) h.2, Rp.W.go (r := .back a) h hd Mv.one_ok (one_in (by decide))⟩
theorem Rr.W.fit : ∀ (r : Rr) (d : Nat), d ≤ 4 → r.W d → r.Fit
  | .non, d, hd, h => trivial
  | .ask o p, d, hd, h => ⟨Rp.W.fit p (d - 1) (by omega) h, Rr.W.go (r := .ask o p) h hd Mv.one_ok (one_in (by decide))⟩
  | .mvd f r, d, hd, h => ⟨⟨Rr.W.fit r (d - 1) (by omega) h.2.2, h.2.1.1, In.mono h.2.1.2 (by decide)⟩, by
      have z := Rr.W.go (r := .mvd f r) h hd Mv.one_ok (one_in (by decide))
      rw [Rr.nd_mvd r h.2.1.1] at z
      exact z⟩
  | .jn s a b, d, hd, h => ⟨⟨Rr.W.fit a (d - 1) (by omega) h.2.1, Rr.W.fit b (d - 1) (by omega) h.2.2⟩, Rr.W.go (r := .jn s a b) h hd Mv.one_ok (one_in (by decide))⟩
end
mutual
def Rp.ht : Rp → Nat
  | .cur _ => 0
  | .nul => 0
  | .sum a b => max a.ht b.ht + 1
  | .less a b => max a.ht b.ht + 1
  | .many _ a => a.ht + 1
  | .mvd _ a => a.ht + 1
  | .outl r => r.ht + 1
  | .back a => a.ht + 1
def Rr.ht : Rr → Nat
  | .non => 0
  | .ask _ p => p.ht + 1
  | .mvd _ r => r.ht + 1
  | .jn _ a b => max a.ht b.ht + 1
end
mutual
theorem Rp.W.ht : ∀ (r : Rp) (d : Nat), r.W d → r.ht ≤ 2 * d
  | .cur n, d, h => Nat.zero_le _
  | .nul, d, h => Nat.zero_le _
  | .sum a b, d, h => by
    have h1 := Rp.W.ht a _ h.2.1
    have h2 := Rp.W.ht b _ h.2.2
    have := h.1
    show max a.ht b.ht + 1 ≤ _
    omega
  | .less a b, d, h => by
    have h1 := Rp.W.ht a _ h.2.1
    have h2 := Rp.W.ht b _ h.2.2
    have := h.1
    show max a.ht b.ht + 1 ≤ _
    omega
  | .many k a, d, h => by
    have h1 := Rp.W.ht a _ h.2.2
    have := h.1
    show a.ht + 1 ≤ _
    omega
  | .mvd f a, d, h => by
    have h1 := Rp.W.ht a _ h.2.2
    have := h.1
    show a.ht + 1 ≤ _
    omega
  | .outl r, d, h => by
    have h1 := Rr.W.ht r _ h.2
    have := h.1
    show r.ht + 1 ≤ _
    omega
  | .back a, d, h => by
    have h1 := Rp.W.ht a _ h.2
    have := h.1
    show a.ht + 1 ≤ _
    omega
theorem Rr.W.ht : ∀ (r : Rr) (d : Nat), r.W d → r.ht ≤ 2 * d + 1
  | .non, d, h => Nat.zero_le _
  | .ask o p, d, h => by
    have h1 := Rp.W.ht p _ h
    show p.ht + 1 ≤ _
    omega
  | .mvd f r, d, h => by
    have h1 := Rr.W.ht r _ h.2.2
    have := h.1
    show r.ht + 1 ≤ _
    omega
  | .jn s a b, d, h => by
    have h1 := Rr.W.ht a _ h.2.1
    have h2 := Rr.W.ht b _ h.2.2
    have := h.1
    show max a.ht b.ht + 1 ≤ _
    omega
end
end DL
namespace DL
open PySem PySem.Spec PyProof.Rows L2
mutual
def Rp.Lf (F : Mv) : Rp → Prop
  | .cur n => NmOk n
  | .nul => True
  | .sum a b => (a.Lf F ∧ b.Lf F ∧ (a.fm F).sz + (b.fm F).sz ≤ 63) ∧ PGo (addF (a.fm F) (b.fm F))
  | .less a b => (a.Lf F ∧ b.Lf F ∧ (a.fm F).sz + (b.fm F).sz ≤ 63) ∧ PGo (addF (a.fm F) (scl (-1) (b.fm F)))
  | .many k a => (a.Lf F ∧ (-18446744073709551616 < k ∧ k < 18446744073709551616)) ∧ PGo (scl k (a.fm F))
  | .mvd f a => (a.Lf (F.mul f) ∧ f.Ok ∧ (F.mul f).In 1000000000000) ∧ PGo (scl f.sg (a.fm (F.mul f)))
  | .outl r => r.Lf F ∧ PGo (outF (r.nd F))
  | .back a => a.Lf F ∧ PGo (scl (-1) (a.fm F))
def Rr.Lf (F : Mv) : Rr → Prop
  | .non => True
  | .ask o p => p.Lf F ∧ RGo (questN o (p.fm F).1 (p.fm F).2)
  | .mvd f r => r.Lf (F.mul f) ∧ f.Ok ∧ (F.mul f).In 1000000000000
  | .jn s a b => (a.Lf F ∧ b.Lf F) ∧ RGo (joinN s (a.nd F) (b.nd F))
end
mutual
theorem Rp.Lf.ok : ∀ (r : Rp) (F : Mv), r.Lf F → r.Ok
  | .cur n, F, h => h
  | .nul, F, h => trivial
  | .sum a b, F, h => ⟨Rp.Lf.ok a F h.1.1, Rp.Lf.ok b F h.1.2.1⟩
  | .less a b, F, h => ⟨Rp.Lf.ok a F h.1.1, Rp.Lf.ok b F h.1.2.1⟩
  | .many k a, F, h => Rp.Lf.ok a F h.1.1
  | .mvd f a, F, h => ⟨h.1.2.1, Rp.Lf.ok a _ h.1.1⟩
  | .outl r, F, h => Rr.Lf.ok r F h.1
  | .back a, F, h => Rp.Lf.ok a F h.1
theorem Rr.Lf.ok : ∀ (r : Rr) (F : Mv), r.Lf F → r.Ok
  | .non, F, h => trivial
  | .ask o p, F, h => Rp.Lf.ok p F h.1
  | .mvd f r, F, h => ⟨h.2.1, Rr.Lf.ok r _ h.1⟩
  | .jn s a b, F, h => ⟨Rr.Lf.ok a F h.1.1, Rr.Lf.ok b F h.1.2⟩
end
theorem Rp.Lf.go {F : Mv} (hF : F.Ok) (hA : F.In 1000000000000) : ∀ {r : Rp}, r.Lf F → PGo (r.fm F)
  | .cur n, h => one_bd h hF hA (by decide) (by decide)
  | .nul, h => nil_bd
  | .sum a b, h => h.2
  | .less a b, h => h.2
  | .many k a, h => h.2
  | .mvd f a, h => h.2
  | .outl r, h => h.2
  | .back a, h => h.2
theorem Rr.Lf.go : ∀ {r : Rr} {F : Mv}, r.Lf F → RGo (r.nd F)
  | .non, F, h => non_bs (by decide)
  | .ask o p, F, h => h.2
  | .mvd f r, F, h => Rr.Lf.go (r := r) h.1
  | .jn s a b, F, h => h.2
end DL
namespace DL
open PySem PySem.Spec PyProof.Rows L2
theorem Fm.Bd.go {x : Fm} {B : Int} {N S Dp : Nat} (h : x.Bd B N S Dp) (hB : B ≤ 1000000000000) (hN : N ≤ 1000000000000) (hS : S ≤ 62) (hD : Dp ≤ 20) : PGo x := h.mono hB hN hS hD
end DL
namespace DL
open PySem PySem.Spec PyProof.Rows L2
theorem RGo.jn {s : Sg} {a b : Nd} (h : RGo (.jn s a b)) : RGo a ∧ RGo b := by
  have hs : 1 + a.size + b.size ≤ 62 := h.s
  have hd : 1 + max a.dep b.dep ≤ 20 := h.d
  exact ⟨⟨h.b.1, by omega, by omega⟩, h.b.2, by omega, by omega⟩
theorem PGo.nd {x : Fm} (h : PGo x) {p : Nd × Int} (hp : p ∈ x.2) : RGo p.1 := by
  have h1 := sizeL_memb hp
  have h2 := depL_iff.mp h.d p hp
  have h3 := h.s
  exact ⟨BdL_iff.mp h.o p hp, by omega, by omega⟩
theorem RGo.ok {n : Nd} (h : RGo n) : n.Ok := Nd.Bd.okN (by decide) (by decide) n h.b (by have := h.s; omega)
theorem RGo.ht {n : Nd} (h : RGo n) : n.ht < 25 := by
  have := ht_dep n
  have := h.d
  omega
theorem RGo.unk {n : Nd} (h : RGo n) : n.unk.length ≤ 62 := Nat.le_trans (unk_len n) h.s
theorem PGo.ok {x : Fm} (h : PGo x) : PathOk x.1 x.2 := h.pathOk (by decide) (by decide) (by decide) (by decide)
theorem PGo.ht {x : Fm} (h : PGo x) : htL x.2 < 25 := by
  have := htL_dep x.2
  have := h.d
  omega
theorem htL_map {f : Nd × Int → Nd × Int} (h : ∀ p, (f p).1 = p.1) : ∀ os : Os, htL (os.map f) = htL os
  | [] => rfl
  | (n, k) :: r => by
    have e : (f (n, k)).1 = n := h (n, k)
    have ih := htL_map h r
    rw [List.map_cons]
    cases q : f (n, k) with
    | mk a b =>
      rw [q] at e
      cases e
      show max a.ht (htL (r.map f)) = max a.ht (htL r)
      rw [ih]
theorem OsIn.map {f : Nd × Int → Nd × Int} (h : ∀ p, (f p).1 = p.1) {os : Os} (o : OsIn os) : OsIn (os.map f) := ⟨by rw [List.length_map]; exact o.1, by rw [htL_map h]; exact o.2.1, fun p hp => by
  obtain ⟨q, hq, rfl⟩ := List.mem_map.mp hp
  rw [h]
  exact o.2.2 q hq⟩
theorem OsIn.times {os : Os} (o : OsIn os) (k : Int) : OsIn (timesOs k os) := o.map (f := fun p => (p.1, k * p.2)) fun _ => rfl
theorem OsIn.odd {os : Os} (o : OsIn os) : OsIn (oddOs os) := o.map (f := fun p => (p.1, p.2 % 2)) fun _ => rfl
mutual
def Rp.cnt : Rp → Nat
  | .cur _ => 1
  | .nul => 0
  | .sum a b => a.cnt + b.cnt
  | .less a b => a.cnt + b.cnt
  | .many _ a => a.cnt
  | .mvd _ a => a.cnt
  | .outl r => r.cnt
  | .back a => a.cnt
def Rr.cnt : Rr → Nat
  | .non => 0
  | .ask _ p => p.cnt
  | .mvd _ r => r.cnt
  | .jn _ a b => a.cnt + b.cnt
end
mutual
theorem Rp.W.cnt : ∀ (r : Rp) (d : Nat), r.W d → r.cnt ≤ 2 ^ d
  | .cur n, d, h => Nat.pow_pos (by decide)
  | .nul, d, h => Nat.zero_le _
  | .sum a b, d, h => by
    have h1 := Rp.W.cnt a _ h.2.1
    have h2 := Rp.W.cnt b _ h.2.2
    rw [pow_pred h.1]
    show a.cnt + b.cnt ≤ _
    omega
  | .less a b, d, h => by
    have h1 := Rp.W.cnt a _ h.2.1
    have h2 := Rp.W.cnt b _ h.2.2
    rw [pow_pred h.1]
    show a.cnt + b.cnt ≤ _
    omega
  | .many k a, d, h => Nat.le_trans (Rp.W.cnt a _ h.2.2) (Nat.pow_le_pow_right (by decide) (Nat.sub_le _ _))
  | .mvd f a, d, h => Nat.le_trans (Rp.W.cnt a _ h.2.2) (Nat.pow_le_pow_right (by decide) (Nat.sub_le _ _))
  | .outl r, d, h => Nat.le_trans (Rr.W.cnt r _ h.2) (Nat.pow_le_pow_right (by decide) (Nat.sub_le _ _))
  | .back a, d, h => Nat.le_trans (Rp.W.cnt a _ h.2) (Nat.pow_le_pow_right (by decide) (Nat.sub_le _ _))
theorem Rr.W.cnt : ∀ (r : Rr) (d : Nat), r.W d → r.cnt ≤ 2 ^ d
  | .non, d, h => Nat.zero_le _
  | .ask o p, d, h => Nat.le_trans (Rp.W.cnt p _ h) (Nat.pow_le_pow_right (by decide) (Nat.sub_le _ _))
  | .mvd f r, d, h => Nat.le_trans (Rr.W.cnt r _ h.2.2) (Nat.pow_le_pow_right (by decide) (Nat.sub_le _ _))
  | .jn s a b, d, h => by
    have h1 := Rr.W.cnt a _ h.2.1
    have h2 := Rr.W.cnt b _ h.2.2
    rw [pow_pred h.1]
    show a.cnt + b.cnt ≤ _
    omega
end
def KR (m c : Nat) (d : D) : Prop := (∃ r : Rp, d = r.d ∧ r.ht < m ∧ r.Ok ∧ r.cnt ≤ c) ∨ (∃ r : Rr, d = r.d ∧ r.ht < m ∧ r.Ok ∧ r.cnt ≤ c)
def Inn (m : Nat) : List D → Nat → Prop
  | [], _ => True
  | d :: r, c => ∃ c1 c2, c1 + c2 ≤ c ∧ KR m c1 d ∧ Inn m r c2
/-- a recipe of the plain makes: its parts stand behind the word -/
def Dfl (wd : Str) : Prop := (Str.ofString "none" == wd) = false ∧ (Str.ofString "nothing" == wd) = false ∧ (wd == Str.ofString "curve") = false ∧ (wd == Str.ofString "moved") = false ∧ (Str.ofString "many" == wd) = false
instance (wd : Str) : Decidable (Dfl wd) := by unfold Dfl; infer_instance
/-- the ways a recipe goes here -/
theorem KR.go {m c : Nat} {d : D} (h : KR (m + 1) c d) : (d = .tup [.str "none"] ∨ d = .tup [.str "nothing"]) ∨ (∃ s, d = .tup [.str "curve", .str s] ∧ 1 ≤ c) ∨ (∃ f e, d = .tup [.str "moved", .tup f.l, e] ∧ Mv.Ok f ∧ KR m c e) ∨ (∃ k e, d = .tup [.str "many", .int k, e] ∧ KR m c e) ∨ ∃ wd es, d = .tup (.str wd :: es) ∧ Dfl wd ∧ es.length ≤ 2 ∧ 1 ≤ es.length ∧ Inn m es c := by
  rcases h with ⟨r, rfl, ht, ok, hc⟩ | ⟨r, rfl, ht, ok, hc⟩
  · cases r with
    | cur s => exact .inr (.inl ⟨s, rfl, hc⟩)
    | nul => exact .inl (.inr rfl)
    | sum a b => simp only [Rp.ht] at ht; simp only [Rp.cnt] at hc; exact .inr (.inr (.inr (.inr ⟨"sum", [a.d, b.d], rfl, by decide, by simp, by simp, a.cnt, b.cnt, hc, .inl ⟨a, rfl, by omega, ok.1, Nat.le_refl _⟩, b.cnt, 0, by omega, .inl ⟨b, rfl, by omega, ok.2, Nat.le_refl _⟩, trivial⟩)))
    | less a b => simp only [Rp.ht] at ht; simp only [Rp.cnt] at hc; exact .inr (.inr (.inr (.inr ⟨"less", [a.d, b.d], rfl, by decide, by simp, by simp, a.cnt, b.cnt, hc, .inl ⟨a, rfl, by omega, ok.1, Nat.le_refl _⟩, b.cnt, 0, by omega, .inl ⟨b, rfl, by omega, ok.2, Nat.le_refl _⟩, trivial⟩)))
    | many k a => simp only [Rp.ht] at ht; exact .inr (.inr (.inr (.inl ⟨k, a.d, rfl, .inl ⟨a, rfl, by omega, ok, hc⟩⟩)))
    | mvd f a => simp only [Rp.ht] at ht; exact .inr (.inr (.inl ⟨f, a.d, rfl, ok.1, .inl ⟨a, rfl, by omega, ok.2, hc⟩⟩))
    | outl r => simp only [Rp.ht] at ht; exact .inr (.inr (.inr (.inr ⟨"outline", [r.d], rfl, by decide, by simp, by simp, r.cnt, 0, hc, .inr ⟨r, rfl, by omega, ok, Nat.le_refl _⟩, trivial⟩)))
    | back a => simp only [Rp.ht] at ht; exact .inr (.inr (.inr (.inr ⟨"back", [a.d], rfl, by decide, by simp, by simp, a.cnt, 0, hc, .inl ⟨a, rfl, by omega, ok, Nat.le_refl _⟩, trivial⟩)))
  · cases r with
    | non => exact .inl (.inl rfl)
    | ask o p => simp only [Rr.ht] at ht; exact .inr (.inr (.inr (.inr ⟨kindS o, [p.d], rfl, by cases o <;> decide, by simp, by simp, p.cnt, 0, hc, .inl ⟨p, rfl, by omega, ok, Nat.le_refl _⟩, trivial⟩)))
    | mvd f a => simp only [Rr.ht] at ht; exact .inr (.inr (.inl ⟨f, a.d, rfl, ok.1, .inr ⟨a, rfl, by omega, ok.2, hc⟩⟩))
    | jn s a b => simp only [Rr.ht] at ht; simp only [Rr.cnt] at hc; exact .inr (.inr (.inr (.inr ⟨s.s, [a.d, b.d], rfl, by cases s <;> decide, by simp, by simp, a.cnt, b.cnt, hc, .inr ⟨a, rfl, by omega, ok.1, Nat.le_refl _⟩, b.cnt, 0, by omega, .inr ⟨b, rfl, by omega, ok.2, Nat.le_refl _⟩, trivial⟩)))
def AllT (l : List D) : Prop := ∀ d ∈ l, d = .bl true
theorem AllT.app {a b : List D} (h : AllT a) (h' : AllT b) : AllT (a ++ b) := fun d hd => by
  rcases List.mem_append.mp hd with z | z
  · exact h d z
  · exact h' d z
theorem AllT.data (m : Nat) : ∀ {l : List D}, AllT l → allData m l = true
  | [], _ => rfl
  | d :: l, h => by
    have e := h d List.mem_cons_self
    subst e
    have ih := AllT.data m (l := l) fun e he => h e (List.mem_cons_of_mem _ he)
    simp only [allData, ih, Bool.and_true]
    cases m <;> rfl
theorem AllT.few : ∀ {l : List D}, AllT l → fewAll l = true
  | [], _ => rfl
  | d :: l, h => by
    have e := h d List.mem_cons_self
    subst e
    have ih := AllT.few (l := l) fun e he => h e (List.mem_cons_of_mem _ he)
    simp only [fewAll, D.few, ih, Bool.and_true]
/-- a row: the colour it asks for, the new one, its region -/
abbrev Rw := Option Int × Int × Nd
def oldD : Option Int → D
  | none => .non
  | some i => .int i
def Rw.d (r : Rw) : D := .tup [oldD r.1, .int r.2.1, r.2.2.d]
def Rw.tx (r : Rw) : Str := match r.1 with
  | some i => ("stain " : Str) ++ Str.ofString (toString i) ++ (" " : Str) ++ Str.ofString (toString r.2.1) ++ (" " : Str) ++ r.2.2.tx
  | none => if r.2.1 = 0 then ("wipe " : Str) ++ r.2.2.tx else ("paint " : Str) ++ Str.ofString (toString r.2.1) ++ (" " : Str) ++ r.2.2.tx
def Rw.Ok (r : Rw) : Prop := (∀ i, r.1 = some i → 0 ≤ i ∧ i < 10) ∧ (0 ≤ r.2.1 ∧ r.2.1 < 10) ∧ RGo r.2.2
/-- a drawn row -/
abbrev LRw := Option Int × Int × Rr
def LRw.d (r : LRw) : D := .tup [oldD r.1, .int r.2.1, r.2.2.d]
def LRw.W (n : Nat) (r : LRw) : Prop := (∀ i, r.1 = some i → 0 ≤ i ∧ i < 10) ∧ (0 ≤ r.2.1 ∧ r.2.1 < 10) ∧ r.2.2.W n
def LRw.rw (r : LRw) : Rw := (r.1, r.2.1, r.2.2.nd Mv.one)
theorem LRw.W.ok {n : Nat} {r : LRw} (h : r.W n) (hn : n ≤ 4) : r.rw.Ok := ⟨h.1, h.2.1, (Rr.W.fit r.2.2 n hn h.2.2).go⟩
def inF (v : D) : List (Str × D) := [("value", v), ("code", .str "InvalidNumber")]
def tlF (what : Str) (v l : Int) : List (Str × D) := [("limit", .int l), ("value", .int v), ("what", .str what), ("code", .str "TooLarge")]
def wholeD : D → Bool
  | .int _ => true
  | _ => false
def Scal (v : D) : Prop := (∃ i, v = .int i) ∨ v = .non ∨ (∃ s, v = .str s) ∨ (∃ b, v = .bl b) ∨ (∃ xs, v = .tup xs)
theorem wpw {v : D} {Q : D → Prop} {Ed : DX → Prop} (h : Scal v) (q : Q (.bl (wholeD v))) : wp_is_whole [v] Q Ed := by
  rcases h with ⟨i, rfl⟩ | rfl | ⟨s, rfl⟩ | ⟨b, rfl⟩ | ⟨xs, rfl⟩ <;> exact q
theorem whole_int {v : D} (h : wholeD v = true) : ∃ i, v = .int i := by
  cases v <;> first | exact ⟨_, rfl⟩ | cases h
def absI (x : Int) : Int := if x < 0 then -x else x
/-- the shifts of a move that is to be made -/
def madeM (CT : Addr) (x y : Int) (Q : Prop) (Ed : DX → Prop) : Prop := if 1000000000000 < absI x then Ed (CT, tlF "shift" (absI x) 1000000000000) else if 1000000000000 < absI y then Ed (CT, tlF "shift" (absI y) 1000000000000) else Q
def wp_MvX (CI CT : Addr) (ds : List D) (Q : List (Str × D) → Prop) (Ed : DX → Prop) : Prop := ∃ a b c m, ds = [a, b, c, .bl m] ∧ (Scal a ∧ Scal b ∧ Scal c) ∧
  if wholeD a = false then Ed (CI, inF a) else if wholeD b = false then Ed (CI, inF b) else if wholeD c = false then Ed (CI, inF c) else ∀ x y t : Int, a = .int x → b = .int y → c = .int t → madeM CT x y (Q (Mv.mk x y (t % 4) (bI m)).fs) Ed
theorem mvx_int {CI CT : Addr} {x y t : Int} {m : Bool} {Q : List (Str × D) → Prop} {Ed : DX → Prop} (h : madeM CT x y (Q (Mv.mk x y (t % 4) (bI m)).fs) Ed) : wp_MvX CI CT [.int x, .int y, .int t, .bl m] Q Ed :=
  ⟨_, _, _, _, rfl, ⟨.inl ⟨_, rfl⟩, .inl ⟨_, rfl⟩, .inl ⟨_, rfl⟩⟩, by
    rw [if_neg (by simp [wholeD]), if_neg (by simp [wholeD]), if_neg (by simp [wholeD])]
    intro _ _ _ e1 e2 e3
    cases e1; cases e2; cases e3
    exact h⟩
def wp_MmulX (C CT : Addr) (ds : List D) (Q : D → Prop) (Ed : DX → Prop) : Prop := ∃ f g : Mv, ds = [.ins C f.fs, .ins C g.fs] ∧ (f.Ok ∧ g.Ok) ∧ madeM CT (f.mul g).x (f.mul g).y (Q (.ins C (f.mul g).fs)) Ed
def wp_MpowX (C CI CT : Addr) (ds : List D) (Q : D → Prop) (Ed : DX → Prop) : Prop := ∃ (f : Mv) (v : D), ds = [.ins C f.fs, v] ∧ (f.Ok ∧ Scal v ∧ f.In BM) ∧ (if wholeD v = false then Ed (CI, inF v) else ∀ n : Int, v = .int n → madeM CT (f.zpow n).x (f.zpow n).y (Q (.ins C (f.zpow n).fs)) Ed)
theorem loop_of {g : DG} {tb : DS} {d : DEnds} {x : D} {r : List D} {ρ : Rho} (R : Rho → Prop) (h1 : ∀ N : Rho → Prop, (∀ ρ', R ρ' → N ρ') → g x ρ fun ρ1 => tb { nx := N, rt := d.rt, bk := d.nx, ct := N } ρ1) (h2 : ∀ ρ', R ρ' → loopD g tb d r ρ') : loopD g tb d (x :: r) ρ := h1 _ h2
def oddsL : List D := [.non, .str "1", .bl true, .bl false, .tup [.int 0], .tup []]
structure OddV (v : D) : Prop where
  no : wholeD v = false
  sc : Scal v
  da : v.isData 1 = true
  fw : v.few = true
theorem odd_of {v : D} (h : v ∈ oddsL) : OddV v := by
  simp only [oddsL, List.mem_cons, List.not_mem_nil, or_false] at h
  rcases h with rfl | rfl | rfl | rfl | rfl | rfl
  · exact ⟨rfl, .inr (.inl rfl), rfl, rfl⟩
  · exact ⟨rfl, .inr (.inr (.inl ⟨_, rfl⟩)), rfl, rfl⟩
  · exact ⟨rfl, .inr (.inr (.inr (.inl ⟨_, rfl⟩))), rfl, rfl⟩
  · exact ⟨rfl, .inr (.inr (.inr (.inl ⟨_, rfl⟩))), rfl, rfl⟩
  · exact ⟨rfl, .inr (.inr (.inr (.inr ⟨_, rfl⟩))), rfl, rfl⟩
  · exact ⟨rfl, .inr (.inr (.inr (.inr ⟨_, rfl⟩))), rfl, rfl⟩
def Smi (i : Int) : Prop := -1000003 ≤ i ∧ i ≤ 1000003
/-- a value that may stand as a part: a small number or none -/
def PartV (v : D) : Prop := (∃ i : Int, v = .int i ∧ -1000003 ≤ i ∧ i ≤ 1000003) ∨ OddV v
def dueOf : List D → D
  | [] => .non
  | v :: r => if wholeD v = true then dueOf r else .tup [.str "InvalidNumber", v]
theorem due_odd {v : D} {r : List D} (h : OddV v) : dueOf (v :: r) = .tup [.str "InvalidNumber", v] := if_neg (by rw [h.no]; simp)
theorem ed_num {CI CT : Addr} {v : D} {Q : D → Prop} (h : Q (.tup [.str "InvalidNumber", v])) : EdWhy [(CI, ["value", "code"]), (CT, ["limit", "value", "what", "code"])] Q (CI, inF v) := by
  refine ⟨List.mem_cons_self, ?_⟩
  show FieldD "InvalidNumber" (inF v) _
  unfold FieldD
  rw [if_neg (by decide), if_neg (by decide), if_neg (by decide), if_neg (by decide), if_neg (by decide), if_neg (by decide)]
  exact h
theorem fg_n {f g : Str} {d : D} {r : List (Str × D)} (h : f ≠ g) : fget f ((g, d) :: r) = fget f r := if_neg h
theorem fg_y {f : Str} {d : D} {r : List (Str × D)} : fget f ((f, d) :: r) = some d := if_pos rfl
theorem ed_large {CI CT : Addr} {x : Str} {a b : Int} {Q : D → Prop} (h : Q (.tup [.str "TooLarge", .tup [.str x, .int a, .int b]])) : EdWhy [(CI, ["value", "code"]), (CT, ["limit", "value", "what", "code"])] Q (CT, tlF x a b) := by
  refine ⟨List.mem_cons_of_mem _ List.mem_cons_self, ?_⟩
  have e : fget "code" (tlF x a b) = some (.str "TooLarge") := by
    unfold tlF
    rw [fg_n (by decide), fg_n (by decide), fg_n (by decide), fg_y]
  show onS (fget "code" (tlF x a b)) _
  rw [e, onS_some]
  dsimp only
  unfold FieldD tlF
  rw [if_pos rfl, fg_n (by decide), fg_n (by decide), fg_y, onS_some, fg_n (by decide), fg_y, onS_some, fg_y, onS_some]
  exact h
theorem due_or : ∀ l : List D, dueOf l = .non ∨ ∃ w, dueOf l = .tup [.str "InvalidNumber", w]
  | [] => .inl rfl
  | v :: r => by
    by_cases h : wholeD v = true
    · rw [show dueOf (v :: r) = dueOf r from if_pos h]
      exact due_or r
    · exact .inr ⟨v, if_neg h⟩
theorem due_app_int {i : Int} : ∀ l : List D, dueOf (l ++ [.int i]) = dueOf l
  | [] => rfl
  | v :: r => by
    by_cases h : wholeD v = true
    · rw [List.cons_append, show dueOf (v :: (r ++ [.int i])) = dueOf (r ++ [.int i]) from if_pos h, show dueOf (v :: r) = dueOf r from if_pos h]
      exact due_app_int r
    · rw [List.cons_append, show dueOf (v :: (r ++ [.int i])) = _ from if_neg h, show dueOf (v :: r) = _ from if_neg h]
theorem due_app_odd {v : D} (hv : OddV v) : ∀ l : List D, dueOf l = .non → dueOf (l ++ [v]) = .tup [.str "InvalidNumber", v]
  | [], _ => due_odd hv
  | u :: r, h => by
    by_cases hu : wholeD u = true
    · rw [show dueOf (u :: r) = dueOf r from if_pos hu] at h
      rw [List.cons_append, show dueOf (u :: (r ++ [v])) = dueOf (r ++ [v]) from if_pos hu]
      exact due_app_odd hv r h
    · rw [show dueOf (u :: r) = _ from if_neg hu] at h
      cases h
theorem due_app_tup {v w : D} : ∀ l : List D, dueOf l = .tup [.str "InvalidNumber", w] → dueOf (l ++ [v]) = .tup [.str "InvalidNumber", w]
  | [], h => by cases h
  | u :: r, h => by
    by_cases hu : wholeD u = true
    · rw [show dueOf (u :: r) = dueOf r from if_pos hu] at h
      rw [List.cons_append, show dueOf (u :: (r ++ [v])) = dueOf (r ++ [v]) from if_pos hu]
      exact due_app_tup r h
    · rw [show dueOf (u :: r) = _ from if_neg hu] at h
      rw [List.cons_append, show dueOf (u :: (r ++ [v])) = _ from if_neg hu]
      exact h
theorem due_non {l : List D} (hl : ∀ v ∈ l, PartV v) (h : dueOf l = .non) : ∀ v ∈ l, ∃ i : Int, v = .int i ∧ -1000003 ≤ i ∧ i ≤ 1000003 := by
  induction l with
  | nil => exact fun v hv => nomatch hv
  | cons u r ih =>
    have hu := hl u List.mem_cons_self
    rcases hu with hu | hu
    · obtain ⟨i, rfl, hi⟩ := hu
      intro v hv
      rcases List.mem_cons.mp hv with rfl | hv
      · exact ⟨i, rfl, hi⟩
      · exact ih (fun v hv => hl v (List.mem_cons_of_mem _ hv)) h v hv
    · rw [due_odd hu] at h
      cases h
theorem due_is {w : D} {l : List D} (hl : ∀ v ∈ l, PartV v) (h : dueOf l = .tup [.str "InvalidNumber", w]) : OddV w := by
  induction l with
  | nil => cases h
  | cons u r ih =>
    rcases hl u List.mem_cons_self with ⟨i, rfl, _⟩ | hu
    · exact ih (fun v hv => hl v (List.mem_cons_of_mem _ hv)) h
    · rw [due_odd hu] at h
      cases h
      exact hu
theorem part_scal {v : D} (h : PartV v) : Scal v := by
  rcases h with ⟨i, rfl, _⟩ | h
  · exact .inl ⟨i, rfl⟩
  · exact h.sc
theorem flat_ok {a b : Int} : (Mv.mk a b 0 0).Ok := ⟨Int.le_refl 0, (by show (0 : Int) < 4; decide), Int.le_refl 0, (by show (0 : Int) < 2; decide)⟩
theorem flat_pow {b : Int} : ∀ n : Nat, (Mv.mk 0 b 0 0).pow n = Mv.mk 0 (b * n) 0 0
  | 0 => by
    refine Mv.ext rfl ?_ rfl rfl
    simp [Mv.pow, Mv.one]
  | n + 1 => by
    show (Mv.mk 0 b 0 0).mul ((Mv.mk 0 b 0 0).pow n) = _
    rw [flat_pow n]
    refine Mv.ext rfl ?_ rfl rfl
    simp [Mv.mul, turnP, Int.mul_add]
theorem due_data {w : D} {s : Str} (h : OddV w) : (D.tup [.str s, w]).isData 3 = true := by
  have h2 := isData_le h.da (show 1 ≤ 2 by decide)
  simp [D.isData, allData, h2]
theorem due_few {w : D} {s : Str} (h : OddV w) : (D.tup [.str s, w]).few = true := by
  simp [D.few, fewAll, h.fw]
theorem mvx_due {CI CT : Addr} {a b c w : D} {m : Bool} {Q : List (Str × D) → Prop} {Ed : DX → Prop} (pa : PartV a) (pb : PartV b) (pc : PartV c) (h : dueOf [a, b, c] = .tup [.str "InvalidNumber", w]) (q : Ed (CI, inF w)) : wp_MvX CI CT [a, b, c, .bl m] Q Ed := by
  refine ⟨_, _, _, _, rfl, ⟨part_scal pa, part_scal pb, part_scal pc⟩, ?_⟩
  rcases pa with ⟨i, rfl, _⟩ | oa
  · rw [if_neg (by simp [wholeD])]
    rcases pb with ⟨j, rfl, _⟩ | ob
    · rw [if_neg (by simp [wholeD])]
      rcases pc with ⟨k, rfl, _⟩ | oc
      · cases h
      · rw [if_pos oc.no]
        have h : dueOf [c] = _ := h
        rw [due_odd oc] at h
        cases h
        exact q
    · rw [if_pos ob.no]
      have h : dueOf [b, c] = _ := h
      rw [due_odd ob] at h
      cases h
      exact q
  · rw [if_pos oa.no]
    rw [due_odd oa] at h
    cases h
    exact q
theorem made_ok {CT : Addr} {x y : Int} {Q : Prop} {Ed : DX → Prop} (hx : absI x ≤ 1000000000000) (hy : absI y ≤ 1000000000000) (q : Q) : madeM CT x y Q Ed := by
  unfold madeM
  rw [if_neg (by omega), if_neg (by omega)]
  exact q
theorem made_x {CT : Addr} {x y : Int} {Q : Prop} {Ed : DX → Prop} (hx : 1000000000000 < absI x) (q : Ed (CT, tlF "shift" (absI x) 1000000000000)) : madeM CT x y Q Ed := by
  unfold madeM
  rw [if_pos hx]
  exact q
theorem made_y {CT : Addr} {x y : Int} {Q : Prop} {Ed : DX → Prop} (hx : absI x ≤ 1000000000000) (hy : 1000000000000 < absI y) (q : Ed (CT, tlF "shift" (absI y) 1000000000000)) : madeM CT x y Q Ed := by
  unfold madeM
  rw [if_neg (by omega), if_pos hy]
  exact q
theorem abs_sg {s x : Int} (hs : s = 1 ∨ s = -1) (h : 0 ≤ x) : absI (s * x) = x := by
  unfold absI
  rcases hs with rfl | rfl <;> split <;> omega
end DL
namespace DL
open PySem PySem.Spec PyProof.Rows L2
def topS (i : Nat) : Stmt := PySem.Challenge.pw_unseencurves_k06_moves_refused.main.body.getD i (.Pass ⟨0, 0, 0, 0⟩)
local macro_rules | `(tactic| walk_at "dl") => `(tactic| ((try simp -implicitDefEqProofs only [startD]); simp -implicitDefEqProofs only [dWhy, maskD, maskS, dRaise, mk1, mk3, ok3, dCInt, dAppP, dLenP, dFldP, dPutP, dNest, dFrzP, dDo, dMethM, dMethMK, dNewP, dVarP, mOut, pOut, rOut, pgD, pgV, dBoolOwn, dBoolO, dBoolB, dOwnNe, dOwnA, dIsiX, dOwnCat, dMulL, dMaxL, dDictT, dSortL, dDictL, dStrN, dJoin, dJoinS, dRstrip, dInO, dNotInO, dSlT, dOwnU, dOwnT, dOwnR, dStrOwn, dStrO, dMakeV, dCm, dSt, dMaxDef, dFstr, dJs, dFmt, dMax2, dCatT, dCatL, bx_w, eq_self, dNewT, dNewK, dPutT, dPutK, dIxTO, dIxKO, dGetTO, dGetKO, dIxT, dIxK, dGetT, dGetK, dSortTO, dSortKO, dSortT, dSortK, dSortS, dInN, dNotInN, anyEq, List.any_cons, List.any_nil, dSlS, dVar, dC, lk, dOp, dUn, dI2, dI0, dI1, dAdd, dEqN, dNeN, dB, dAnd, dOr, dNot, dAndV, dOrV, dNotV, dIf, dNil, dCons, dTup, dLst, dIx, onS, dNext, dSeq, dBrk, dCnt, dDrop, dRet, dRetN, dIfS, dName, dgNil, dgCons, dgTup, dAsg, dPar, dSeqI, dLstI, dTupI, dStrI, dRng1, dRng2, dFor, dCall, dCallD, dCB, dFld, dFldO, dPutO, dMeth, dMake, fget, fput, dIsi, dIsiT, dIsiC, dProp, dOwn, dBM, tyD, kitAnyB, dAbs, dIntC, dLen, dList, dTuple, dAllB, dAnyB, dSum, dComp, wipeD, dTs1, dZip, dEnum, dNewL, dOwnL, dSetL, dIxO, dApp, dLenO, dFrz, dIsN, dNotN, isNonD, dChain, dSl, dSlL, dPart, dNoPart, List.set_cons_zero, List.set_cons_succ, List.cons_append, List.nil_append, List.append_nil, List.length_cons, List.length_nil, deq, deqs, D.isData, allData, true_and, and_true, beq_iff_eq, bne_iff_ne, decide_eq_true_eq, Bool.not_true, Bool.not_false, Bool.false_eq_true, Bool.true_eq_false, if_true, if_false, Bool.and_true, Bool.true_and, Bool.and_false, Bool.false_and, Bool.or_true, Bool.true_or, Bool.or_false, Bool.false_or, Nat.reduceAdd, Nat.reduceSub, Nat.reduceLeDiff, Nat.reduceLT, kb_NoneType_int, kb_NoneType_bool, kb_NoneType_str, kb_NoneType_list, kb_NoneType_tuple, kb_bool_int, kb_bool_bool, kb_bool_str, kb_bool_list, kb_bool_tuple, kb_int_int, kb_int_bool, kb_int_str, kb_int_list, kb_int_tuple, kb_str_int, kb_str_bool, kb_str_str, kb_str_list, kb_str_tuple, kb_tuple_int, kb_tuple_bool, kb_tuple_str, kb_tuple_list, kb_tuple_tuple, kb_list_int, kb_list_bool, kb_list_str, kb_list_list, kb_list_tuple, atI_0, atI_1, atI_2, atI_3, atI_4, atI_5, atI_6, atI_7, ixN_1_0, ixN_2_0, ixN_2_1, ixN_3_0, ixN_3_1, ixN_3_2, ixN_4_0, ixN_4_1, ixN_4_2, ixN_4_3, ixN_5_0, ixN_5_1, ixN_5_2, ixN_5_3, ixN_5_4, ixN_6_0, ixN_6_1, ixN_6_2, ixN_6_3, ixN_6_4, ixN_6_5, List.length_set, List.length_map, List.length_append]))
local macro_rules | `(tactic| walk_at "dls") => `(tactic| simp -implicitDefEqProofs only [dWhy, maskD, maskS, dRaise, mk1, mk3, ok3, dCInt, dAppP, dLenP, dFldP, dPutP, dNest, dFrzP, dDo, dMethM, dMethMK, dNewP, dVarP, mOut, pOut, rOut, pgD, pgV, dBoolOwn, dBoolO, dBoolB, dOwnNe, dOwnA, dIsiX, dOwnCat, dMulL, dMaxL, dDictT, dSortL, dDictL, dStrN, dJoin, dJoinS, dRstrip, dInO, dNotInO, dSlT, dOwnU, dOwnT, dOwnR, dStrOwn, dStrO, dMakeV, dCm, dSt, dMaxDef, dFstr, dJs, dFmt, dMax2, dCatT, dCatL, bx_w, eq_self, dNewT, dNewK, dPutT, dPutK, dIxTO, dIxKO, dGetTO, dGetKO, dIxT, dIxK, dGetT, dGetK, dSortTO, dSortKO, dSortT, dSortK, dSortS, dInN, dNotInN, anyEq, List.any_cons, List.any_nil, dSlS, dVar, dC, lk, dOp, dUn, dI2, dI0, dI1, dAdd, dEqN, dNeN, dB, dAnd, dOr, dNot, dAndV, dOrV, dNotV, dIf, dNil, dCons, dTup, dLst, dIx, onS, dNext, dSeq, dBrk, dCnt, dDrop, dRet, dRetN, dIfS, dName, dgNil, dgCons, dgTup, dAsg, dPar, dSeqI, dLstI, dTupI, dStrI, dRng1, dRng2, dFor, dCall, dCallD, dCB, dFld, dFldO, dPutO, dMeth, dMake, fget, fput, dIsi, dIsiT, dIsiC, dProp, dOwn, dBM, tyD, kitAnyB, dAbs, dIntC, dLen, dList, dTuple, dAllB, dAnyB, dSum, dComp, wipeD, dTs1, dZip, dEnum, dNewL, dOwnL, dSetL, dIxO, dApp, dLenO, dFrz, dIsN, dNotN, isNonD, dChain, dSl, dSlL, dPart, dNoPart, List.set_cons_zero, List.set_cons_succ, List.cons_append, List.nil_append, List.append_nil, List.length_cons, List.length_nil, deq, deqs, D.isData, allData, true_and, and_true, beq_iff_eq, bne_iff_ne, decide_eq_true_eq, Bool.not_true, Bool.not_false, Bool.false_eq_true, Bool.true_eq_false, if_true, if_false, Bool.and_true, Bool.true_and, Bool.and_false, Bool.false_and, Bool.or_true, Bool.true_or, Bool.or_false, Bool.false_or, Nat.reduceAdd, Nat.reduceSub, Nat.reduceLeDiff, Nat.reduceLT, kb_NoneType_int, kb_NoneType_bool, kb_NoneType_str, kb_NoneType_list, kb_NoneType_tuple, kb_bool_int, kb_bool_bool, kb_bool_str, kb_bool_list, kb_bool_tuple, kb_int_int, kb_int_bool, kb_int_str, kb_int_list, kb_int_tuple, kb_str_int, kb_str_bool, kb_str_str, kb_str_list, kb_str_tuple, kb_tuple_int, kb_tuple_bool, kb_tuple_str, kb_tuple_list, kb_tuple_tuple, kb_list_int, kb_list_bool, kb_list_str, kb_list_list, kb_list_tuple, atI_0, atI_1, atI_2, atI_3, atI_4, atI_5, atI_6, atI_7, ixN_1_0, ixN_2_0, ixN_2_1, ixN_3_0, ixN_3_1, ixN_3_2, ixN_4_0, ixN_4_1, ixN_4_2, ixN_4_3, ixN_5_0, ixN_5_1, ixN_5_2, ixN_5_3, ixN_5_4, ixN_6_0, ixN_6_1, ixN_6_2, ixN_6_3, ixN_6_4, ixN_6_5, List.length_set, List.length_map, List.length_append])
local macro_rules | `(tactic| simp? only [$as,*]) => `(tactic| simp -implicitDefEqProofs only [$as,*, dWhy, maskD, maskS, dRaise, mk1, mk3, ok3, dCInt, dAppP, dLenP, dFldP, dPutP, dNest, dFrzP, dDo, dMethM, dMethMK, dNewP, dVarP, mOut, pOut, rOut, pgD, pgV, dBoolOwn, dBoolO, dBoolB, dOwnNe, dOwnA, dIsiX, dOwnCat, dMulL, dMaxL, dDictT, dSortL, dDictL, dStrN, dJoin, dJoinS, dRstrip, dInO, dNotInO, dSlT, dOwnU, dOwnT, dOwnR, dStrOwn, dStrO, dMakeV, dCm, dSt, dMaxDef, dFstr, dJs, dFmt, dMax2, dCatT, dCatL, bx_w, eq_self, dNewT, dNewK, dPutT, dPutK, dIxTO, dIxKO, dGetTO, dGetKO, dIxT, dIxK, dGetT, dGetK, dSortTO, dSortKO, dSortT, dSortK, dSortS, dInN, dNotInN, anyEq, List.any_cons, List.any_nil, dSlS, dVar, dC, lk, dOp, dUn, dI2, dI0, dI1, dAdd, dEqN, dNeN, dB, dAnd, dOr, dNot, dAndV, dOrV, dNotV, dIf, dNil, dCons, dTup, dLst, dIx, onS, dNext, dSeq, dBrk, dCnt, dDrop, dRet, dRetN, dIfS, dName, dgNil, dgCons, dgTup, dAsg, dPar, dSeqI, dLstI, dTupI, dStrI, dRng1, dRng2, dFor, dCall, dCallD, dCB, dFld, dFldO, dPutO, dMeth, dMake, fget, fput, dIsi, dIsiT, dIsiC, dProp, dOwn, dBM, tyD, kitAnyB, dAbs, dIntC, dLen, dList, dTuple, dAllB, dAnyB, dSum, dComp, wipeD, dTs1, dZip, dEnum, dNewL, dOwnL, dSetL, dIxO, dApp, dLenO, dFrz, dIsN, dNotN, isNonD, dChain, dSl, dSlL, dPart, dNoPart, List.set_cons_zero, List.set_cons_succ, List.cons_append, List.nil_append, List.append_nil, List.length_cons, List.length_nil, deq, deqs, D.isData, allData, true_and, and_true, beq_iff_eq, bne_iff_ne, decide_eq_true_eq, Bool.not_true, Bool.not_false, Bool.false_eq_true, Bool.true_eq_false, if_true, if_false, Bool.and_true, Bool.true_and, Bool.and_false, Bool.false_and, Bool.or_true, Bool.true_or, Bool.or_false, Bool.false_or, Nat.reduceAdd, Nat.reduceSub, Nat.reduceLeDiff, Nat.reduceLT, kb_NoneType_int, kb_NoneType_bool, kb_NoneType_str, kb_NoneType_list, kb_NoneType_tuple, kb_bool_int, kb_bool_bool, kb_bool_str, kb_bool_list, kb_bool_tuple, kb_int_int, kb_int_bool, kb_int_str, kb_int_list, kb_int_tuple, kb_str_int, kb_str_bool, kb_str_str, kb_str_list, kb_str_tuple, kb_tuple_int, kb_tuple_bool, kb_tuple_str, kb_tuple_list, kb_tuple_tuple, kb_list_int, kb_list_bool, kb_list_str, kb_list_list, kb_list_tuple, atI_0, atI_1, atI_2, atI_3, atI_4, atI_5, atI_6, atI_7, ixN_1_0, ixN_2_0, ixN_2_1, ixN_3_0, ixN_3_1, ixN_3_2, ixN_4_0, ixN_4_1, ixN_4_2, ixN_4_3, ixN_5_0, ixN_5_1, ixN_5_2, ixN_5_3, ixN_5_4, ixN_6_0, ixN_6_1, ixN_6_2, ixN_6_3, ixN_6_4, ixN_6_5, List.length_set, List.length_map, List.length_append])
local macro_rules | `(tactic| walk_at "blk") => `(tactic| first | rfl | (dsimp only [Cx.blk]; done) | (dsimp only [Cx.blk]; rfl))
local macro_rules | `(tactic| walk_at "dlh") => `(tactic| ((try simp -implicitDefEqProofs only [startD] at *); simp -implicitDefEqProofs only [dWhy, maskD, maskS, dRaise, mk1, mk3, ok3, dCInt, dAppP, dLenP, dFldP, dPutP, dNest, dFrzP, dDo, dMethM, dMethMK, dNewP, dVarP, mOut, pOut, rOut, pgD, pgV, dBoolOwn, dBoolO, dBoolB, dOwnNe, dOwnA, dIsiX, dOwnCat, dMulL, dMaxL, dDictT, dSortL, dDictL, dStrN, dJoin, dJoinS, dRstrip, dInO, dNotInO, dSlT, dOwnU, dOwnT, dOwnR, dStrOwn, dStrO, dMakeV, dCm, dSt, dMaxDef, dFstr, dJs, dFmt, dMax2, dCatT, dCatL, bx_w, eq_self, dNewT, dNewK, dPutT, dPutK, dIxTO, dIxKO, dGetTO, dGetKO, dIxT, dIxK, dGetT, dGetK, dSortTO, dSortKO, dSortT, dSortK, dSortS, dInN, dNotInN, anyEq, List.any_cons, List.any_nil, dSlS, dVar, dC, lk, dOp, dUn, dI2, dI0, dI1, dAdd, dEqN, dNeN, dB, dAnd, dOr, dNot, dAndV, dOrV, dNotV, dIf, dNil, dCons, dTup, dLst, dIx, onS, dNext, dSeq, dBrk, dCnt, dDrop, dRet, dRetN, dIfS, dName, dgNil, dgCons, dgTup, dAsg, dPar, dSeqI, dLstI, dTupI, dStrI, dRng1, dRng2, dFor, dCall, dCallD, dCB, dFld, dFldO, dPutO, dMeth, dMake, fget, fput, dIsi, dIsiT, dIsiC, dProp, dOwn, dBM, tyD, kitAnyB, dAbs, dIntC, dLen, dList, dTuple, dAllB, dAnyB, dSum, dComp, wipeD, dTs1, dZip, dEnum, dNewL, dOwnL, dSetL, dIxO, dApp, dLenO, dFrz, dIsN, dNotN, isNonD, dChain, dSl, dSlL, dPart, dNoPart, List.set_cons_zero, List.set_cons_succ, List.cons_append, List.nil_append, List.append_nil, List.length_cons, List.length_nil, deq, deqs, D.isData, allData, true_and, and_true, beq_iff_eq, bne_iff_ne, decide_eq_true_eq, Bool.not_true, Bool.not_false, Bool.false_eq_true, Bool.true_eq_false, if_true, if_false, Bool.and_true, Bool.true_and, Bool.and_false, Bool.false_and, Bool.or_true, Bool.true_or, Bool.or_false, Bool.false_or, Nat.reduceAdd, Nat.reduceSub, Nat.reduceLeDiff, Nat.reduceLT, kb_NoneType_int, kb_NoneType_bool, kb_NoneType_str, kb_NoneType_list, kb_NoneType_tuple, kb_bool_int, kb_bool_bool, kb_bool_str, kb_bool_list, kb_bool_tuple, kb_int_int, kb_int_bool, kb_int_str, kb_int_list, kb_int_tuple, kb_str_int, kb_str_bool, kb_str_str, kb_str_list, kb_str_tuple, kb_tuple_int, kb_tuple_bool, kb_tuple_str, kb_tuple_list, kb_tuple_tuple, kb_list_int, kb_list_bool, kb_list_str, kb_list_list, kb_list_tuple, atI_0, atI_1, atI_2, atI_3, atI_4, atI_5, atI_6, atI_7, ixN_1_0, ixN_2_0, ixN_2_1, ixN_3_0, ixN_3_1, ixN_3_2, ixN_4_0, ixN_4_1, ixN_4_2, ixN_4_3, ixN_5_0, ixN_5_1, ixN_5_2, ixN_5_3, ixN_5_4, ixN_6_0, ixN_6_1, ixN_6_2, ixN_6_3, ixN_6_4, ixN_6_5, List.length_set, List.length_map, List.length_append] at *))
section
variable [TbC] {P : Program} {w : World} {K : PySem.W.Frag} {mg : Str → Option Value} {base : Heap} {C_Absent : Addr} {C_CurveError : Addr} {C_InvalidNumber : Addr} {C_Move : Addr} {C_TooLarge : Addr}
structure Txt (K : PySem.W.Frag) (mg : Str → Option Value) (C_Absent : Addr) (C_CurveError : Addr) (C_InvalidNumber : Addr) (C_Move : Addr) (C_TooLarge : Addr) : Prop where
  a_Move_parts : NoAttr K C_Move "parts"
  c_Move : Cls K C_Move
  k_MOST_SHIFT : ∃ t, mg "MOST_SHIFT" = some (.int 1000000000000 t)
  m_Move : mg "Move" = some (.ref C_Move)
  n_abs : mg "abs" = none
  n_all : mg "all" = none
  n_bool : mg "bool" = none
  n_int : mg "int" = none
  n_isinstance : mg "isinstance" = none
  n_len : mg "len" = none
  n_list : mg "list" = none
  n_range : mg "range" = none
  n_str : mg "str" = none
  n_tuple : mg "tuple" = none
  n_zip : mg "zip" = none
  t_Move : InsT K C_Move
abbrev s_InvalidNumber___init__ : Stmt := inClass (topS 3) 0
theorem es_InvalidNumber : ErrS ["self", "value"] (defScope s_InvalidNumber___init__) := ⟨rfl, rfl, rfl, rfl, rfl, by decide +kernel, by decide +kernel⟩
abbrev s_TooLarge___init__ : Stmt := inClass (topS 4) 0
theorem es_TooLarge : ErrS ["self", "what", "value", "limit"] (defScope s_TooLarge___init__) := ⟨rfl, rfl, rfl, rfl, rfl, by decide +kernel, by decide +kernel⟩
abbrev s_turned_point : Stmt := topS 8
abbrev N_turned_point : List Str := ["turns", "mirrored", "point", "x", "y"]
theorem sc_turned_point : FnScope N_turned_point ["turns", "mirrored", "point"] (defScope s_turned_point) := ⟨rfl, rfl, rfl, by decide +kernel, rfl, by decide +kernel, by decide +kernel⟩
theorem ok_turned_point {f : Addr} {fd : FuncData} (T : Txt K mg C_Absent C_CurveError C_InvalidNumber C_Move C_TooLarge) (F : FunX K "turned_point" "turned_point" s_turned_point f fd)  : FnOk P w K mg base (L2.CX P w) 1 f fd ["turns", "mirrored", "point"] (SpW K wp_turned_point) := by
  refine fn_ok (k := 0) (N := N_turned_point) 5 rfl F sc_turned_point (fun ds Q Ed h => ?_) (fun cdv A outer s H E hr ds Qd Ed hw => ⟨_, _,
    (b_cons (st_asg (e_var 2) (g_tup rfl (gs_cons (g_name 3 sc_turned_point.nd) (gs_cons (g_name 4 sc_turned_point.nd) gs_nil)) (len_names [3, 4])))
    (b_cons (st_if (t_eq hr (e_var 1) e_int)
    (b_one (st_set 3 sc_turned_point.nd (e_neg (e_var 3))))
    b_nil)
    (b_cons (st_if (t_eq hr (e_var 0) e_int)
    (b_one (st_ret (e_tup (a_cons (e_neg (e_var 4)) (a_cons (e_var 3) a_nil)))))
    b_nil)
    (b_cons (st_if (t_eq hr (e_var 0) e_int)
    (b_one (st_ret (e_tup (a_cons (e_neg (e_var 3)) (a_cons (e_neg (e_var 4)) a_nil)))))
    b_nil)
    (b_cons (st_if (t_eq hr (e_var 0) e_int)
    (b_one (st_ret (e_tup (a_cons (e_var 4) (a_cons (e_neg (e_var 3)) a_nil)))))
    b_nil)
    (b_one (st_ret (e_tup (a_cons (e_var 3) (a_cons (e_var 4) a_nil)))))))))), ?_⟩)
  · unfold wp_turned_point at h
    split at h
    · rfl
    · exact h.elim
  · unfold wp_turned_point at hw
    split at hw
    · rename_i t m x y
      walk_at "dl"
      unfold turnP at hw
      by_cases h1 : m = 1 <;> by_cases h2 : t = 1 <;> by_cases h3 : t = 2 <;> by_cases h4 : t = 3 <;> simp_all
    · exact hw.elim
abbrev s_is_whole : Stmt := topS 12
abbrev N_is_whole : List Str := ["value"]
theorem sc_is_whole : FnScope N_is_whole ["value"] (defScope s_is_whole) := ⟨rfl, rfl, rfl, by decide +kernel, rfl, by decide +kernel, by decide +kernel⟩
theorem ok_is_whole {f : Addr} {fd : FuncData} (T : Txt K mg C_Absent C_CurveError C_InvalidNumber C_Move C_TooLarge) (F : FunX K "is_whole" "is_whole" s_is_whole f fd)  : FnOk P w K mg base (L2.CX P w) 1 f fd ["value"] (SpW K wp_is_whole) := by
  refine fn_ok (k := 0) (N := N_is_whole) 1 rfl F sc_is_whole (fun ds Q Ed h => ?_) (fun cdv A outer s H E hr ds Qd Ed hw => ⟨_, _,
    (b_one (st_ret (e_and (e_isi T.n_isinstance (a_cons (e_var 0) (a_cons (b_ty "int" T.n_int) a_nil))) (e_one (e_not (e_isi T.n_isinstance (a_cons (e_var 0) (a_cons (b_ty "bool" T.n_bool) a_nil)))))))), ?_⟩)
  · unfold wp_is_whole at h
    split at h <;> first | rfl | exact h.elim
  · unfold wp_is_whole at hw
    split at hw <;> first | exact hw.elim | (walk_at "dl"; exact hw)
abbrev s_combined : Stmt := topS 9
abbrev N_combined : List Str := ["first", "second", "dx", "dy", "turns", "mirrored", "x", "y", "own_turns"]
theorem sc_combined : FnScope N_combined ["first", "second"] (defScope s_combined) := ⟨rfl, rfl, rfl, by decide +kernel, rfl, by decide +kernel, by decide +kernel⟩
theorem ok_combined {f : Addr} {fd : FuncData} (T : Txt K mg C_Absent C_CurveError C_InvalidNumber C_Move C_TooLarge) (F : FunX K "combined" "combined" s_combined f fd) (c_turned_point : Callee P w K mg base "turned_point" 1 wp_turned_point [] []) : FnOk P w K mg base (L2.CX P w) 2 f fd ["first", "second"] (SpW K wp_cmb) := by
  refine fn_ok (k := 1) (N := N_combined) 9 rfl F sc_combined (fun ds Q Ed h => ?_) (fun cdv A outer s H E hr ds Qd Ed hw => ⟨_, _,
    (b_cons (st_asg (e_var 0) (g_tup rfl (gs_cons (g_name 2 sc_combined.nd) (gs_cons (g_name 3 sc_combined.nd) (gs_cons (g_name 4 sc_combined.nd) (gs_cons (g_name 5 sc_combined.nd) gs_nil)))) (len_names [2, 3, 4, 5])))
    (b_cons (st_asg (e_call c_turned_point (hr.mono (by first | decide | omega)) passE (a_cons (e_var 4) (a_cons (e_var 5) (a_cons (e_tup (a_cons (e_ix (e_var 1) e_int) (a_cons (e_ix (e_var 1) e_int) a_nil))) a_nil)))) (g_tup rfl (gs_cons (g_name 6 sc_combined.nd) (gs_cons (g_name 7 sc_combined.nd) gs_nil)) (len_names [6, 7])))
    (b_cons (st_set 8 sc_combined.nd (e_if (t_eq hr (e_var 5) e_int) (e_ix (e_var 1) e_int) (e_neg (e_ix (e_var 1) e_int))))
    (b_one (st_ret (e_tup (a_cons (e_add (e_var 6) (e_var 2)) (a_cons (e_add (e_var 7) (e_var 3)) (a_cons (e_mod (e_add (e_var 4) (e_var 8)) e_int) (a_cons (e_mod (e_add (e_var 5) (e_ix (e_var 1) e_int)) e_int) a_nil)))))))))), ?_⟩)
  · obtain ⟨_, _, rfl, _⟩ := h
    rfl
  · obtain ⟨f, g, rfl, hw⟩ := hw
    try simp -implicitDefEqProofs only [startD]
    simp only [Mv.l]
    simp? only [wp_turned_point]
    unfold Mv.mul Mv.l at hw
    by_cases h0 : f.m = 0 <;> simp_all
abbrev s_inverted : Stmt := topS 10
abbrev N_inverted : List Str := ["parts", "dx", "dy", "turns", "mirrored", "back", "x", "y"]
theorem sc_inverted : FnScope N_inverted ["parts"] (defScope s_inverted) := ⟨rfl, rfl, rfl, by decide +kernel, rfl, by decide +kernel, by decide +kernel⟩
theorem ok_inverted {f : Addr} {fd : FuncData} (T : Txt K mg C_Absent C_CurveError C_InvalidNumber C_Move C_TooLarge) (F : FunX K "inverted" "inverted" s_inverted f fd) (c_turned_point : Callee P w K mg base "turned_point" 1 wp_turned_point [] []) : FnOk P w K mg base (L2.CX P w) 2 f fd ["parts"] (SpW K wp_inv) := by
  refine fn_ok (k := 1) (N := N_inverted) 8 rfl F sc_inverted (fun ds Q Ed h => ?_) (fun cdv A outer s H E hr ds Qd Ed hw => ⟨_, _,
    (b_cons (st_asg (e_var 0) (g_tup rfl (gs_cons (g_name 1 sc_inverted.nd) (gs_cons (g_name 2 sc_inverted.nd) (gs_cons (g_name 3 sc_inverted.nd) (gs_cons (g_name 4 sc_inverted.nd) gs_nil)))) (len_names [1, 2, 3, 4])))
    (b_cons (st_set 5 sc_inverted.nd (e_if (t_eq hr (e_var 4) e_int) (e_var 3) (e_mod (e_neg (e_var 3)) e_int)))
    (b_cons (st_asg (e_call c_turned_point (hr.mono (by first | decide | omega)) passE (a_cons (e_var 5) (a_cons (e_var 4) (a_cons (e_tup (a_cons (e_var 1) (a_cons (e_var 2) a_nil))) a_nil)))) (g_tup rfl (gs_cons (g_name 6 sc_inverted.nd) (gs_cons (g_name 7 sc_inverted.nd) gs_nil)) (len_names [6, 7])))
    (b_one (st_ret (e_tup (a_cons (e_neg (e_var 6)) (a_cons (e_neg (e_var 7)) (a_cons (e_var 5) (a_cons (e_var 4) a_nil)))))))))), ?_⟩)
  · obtain ⟨_, rfl, _⟩ := h
    rfl
  · obtain ⟨f, rfl, hw⟩ := hw
    try simp -implicitDefEqProofs only [startD]
    simp only [Mv.l]
    simp? only [wp_turned_point]
    unfold Mv.inv bkP Mv.l at hw
    by_cases h0 : f.m = 1 <;> simp_all
abbrev s_repeated : Stmt := topS 11
abbrev N_repeated : List Str := ["parts", "times", "one", "turn", "four", "rounds"]
theorem sc_repeated : FnScope N_repeated ["parts", "times"] (defScope s_repeated) := ⟨rfl, rfl, rfl, by decide +kernel, rfl, by decide +kernel, by decide +kernel⟩
theorem ok_repeated {f : Addr} {fd : FuncData} (T : Txt K mg C_Absent C_CurveError C_InvalidNumber C_Move C_TooLarge) (F : FunX K "repeated" "repeated" s_repeated f fd) (c_combined : Callee P w K mg base "combined" 2 wp_cmb [] []) : FnOk P w K mg base (L2.CX P w) 3 f fd ["parts", "times"] (SpW K wp_rep) := by
  refine fn_ok (k := 2) (N := N_repeated) 6 rfl F sc_repeated (fun ds Q Ed h => ?_) (fun cdv A outer s H E hr ds Qd Ed hw => ⟨_, _,
    (b_cons (st_set 2 sc_repeated.nd (e_tup (a_cons e_int (a_cons e_int (a_cons e_int (a_cons e_int a_nil))))))
    (b_cons (st_for (passes_of rfl) rfl (i_rng1 T.n_range (a_cons (e_mod (e_var 1) e_int) a_nil)) (g_name 3 sc_repeated.nd)
    (b_one (st_set 2 sc_repeated.nd (e_call c_combined (hr.mono (by first | decide | omega)) passE (a_cons (e_var 0) (a_cons (e_var 2) a_nil))))))
    (b_cons (st_if (t_lt (e_var 1) e_int)
    (b_one (st_ret (e_var 2)))
    b_nil)
    (b_cons (st_set 4 sc_repeated.nd (e_call c_combined (hr.mono (by first | decide | omega)) passE (a_cons (e_call c_combined (hr.mono (by first | decide | omega)) passE (a_cons (e_var 0) (a_cons (e_var 0) a_nil))) (a_cons (e_call c_combined (hr.mono (by first | decide | omega)) passE (a_cons (e_var 0) (a_cons (e_var 0) a_nil))) a_nil))))
    (b_cons (st_set 5 sc_repeated.nd (e_div (e_var 1) e_int))
    (b_one (st_ret (e_call c_combined (hr.mono (by first | decide | omega)) passE (a_cons (e_tup (a_cons (e_mul (e_ix (e_var 4) e_int) (e_var 5)) (a_cons (e_mul (e_ix (e_var 4) e_int) (e_var 5)) (a_cons e_int (a_cons e_int a_nil))))) (a_cons (e_var 2) a_nil)))))))))), ?_⟩)
  · obtain ⟨_, _, rfl, _⟩ := h
    rfl
  · obtain ⟨f, n, rfl, ⟨ok, b1, b2⟩, hw⟩ := hw
    try simp -implicitDefEqProofs only [startD]
    refine seq_eq [some (.d (.tup f.l)), some (.d (.int n)), some (.d (.tup Mv.one.l)), none, none, none] (fun N hN => by walk_at "dl"; exact hN) ?_
    refine seq_of (fun ρ => ∃ u, ρ = [some (.d (.tup f.l)), some (.d (.int n)), some (.d (.tup (f.pow (n % 4)).l)), u, none, none]) (fun N hN => for_of (intsD 0 (n % 4)) (fun N h => ?_) ?_) ?_
    · walk_at "dls"
      refine ⟨by decide, by omega, ?_⟩
      rw [show ((n : Int) % 4).toNat = n % 4 by omega]
      exact h
    · refine loopD_inv (fun xs ρ => ∃ u, xs.length ≤ n % 4 ∧ ρ = [some (.d (.tup f.l)), some (.d (.int n)), some (.d (.tup (f.pow (n % 4 - xs.length)).l)), u, none, none]) _ _ ⟨none, by simp [intsD], by simp [intsD, Mv.pow]⟩ (fun x r ρ hρ N2 hN2 => ?_) (fun ρ hρ => ?_)
      · obtain ⟨u, hl, rfl⟩ := hρ
        simp? only [wp_cmb]
        simp only [List.length_cons] at hl
        refine ⟨f, f.pow (n % 4 - (r.length + 1)), rfl, hN2 _ ⟨some (.d x), by omega, ?_⟩⟩
        rw [show n % 4 - r.length = (n % 4 - (r.length + 1)) + 1 by omega]
        rfl
      · obtain ⟨u, _, rfl⟩ := hρ
        exact hN _ ⟨u, rfl⟩
    rintro ρ ⟨u, rfl⟩
    simp? only [wp_cmb]
    refine if_c (fun h => ?_) fun h => ?_
    · rw [show n % 4 = n by omega]
      exact hw
    · refine ⟨f, f, rfl, f, f, rfl, f.mul f, f.mul f, rfl, cdiv_ok (by decide) (by decide), ?_⟩
      rw [Mv.mul4 ok]
      obtain ⟨p1, p2⟩ := Mv.pow_b b1 b2 4
      rw [Mv.pow_four ok n] at hw
      simp only [Mv.l]
      walk_at "dls"
      refine ⟨.inl ⟨by omega, by omega⟩, .inl ⟨by omega, by omega⟩, ⟨(f.pow 4).x * (n / 4 : Nat), (f.pow 4).y * (n / 4 : Nat), 0, 0⟩, f.pow (n % 4), ?_, hw⟩
      rfl
abbrev s_Move___init__ : Stmt := inClass (topS 13) 0
abbrev N_Move___init__ : List Str := ["self", "dx", "dy", "turns", "mirrored", "number"]
theorem sc_Move___init__ : FnScope N_Move___init__ ["self", "dx", "dy", "turns", "mirrored"] (defScope s_Move___init__) := ⟨rfl, rfl, rfl, by decide +kernel, rfl, by decide +kernel, by decide +kernel⟩
theorem ok_Move___init__ {f : Addr} {fd : FuncData} (T : Txt K mg C_Absent C_CurveError C_InvalidNumber C_Move C_TooLarge) (F : FunX K "__init__" "Move.__init__" s_Move___init__ f fd) (c_is_whole : Callee P w K mg base "is_whole" 1 wp_is_whole [] []) (x_InvalidNumber : MakerX P w K mg "InvalidNumber" C_InvalidNumber 1 (fun _ => True) (mk1 "value" "InvalidNumber")) (x_TooLarge : MakerX P w K mg "TooLarge" C_TooLarge 3 ok3 (mk3 "what" "value" "limit" "TooLarge")) : FnOk P w K mg base (L2.CX P w) 2 f fd ["self", "dx", "dy", "turns", "mirrored"] (SpI K C_Move (wp_MvX C_InvalidNumber C_TooLarge)) := by
  refine init_ok (k := 1) (N := N_Move___init__) 5 rfl F sc_Move___init__ (fun ds Q Ed h => ?_) (fun cdv A outer s H E hr x ds Qf Ed hw => ⟨_, _,
    (b_cons (st_for (passes_of rfl) rfl (i_seq (e_tup (a_cons (e_var 1) (a_cons (e_var 2) (a_cons (e_var 3) a_nil))))) (g_name 5 sc_Move___init__.nd)
    (b_one (st_if (t_not (t_val (e_call c_is_whole (hr.mono (by first | decide | omega)) passE (a_cons (e_var 5) a_nil))))
    (b_one (st_raise (k := 0) x_InvalidNumber (hr.mono (by first | decide | omega)) rfl takeE (a_cons (e_var 5) a_nil)))
    b_nil)))
    (b_cons (st_for (passes_of rfl) rfl (i_seq (e_tup (a_cons (e_var 1) (a_cons (e_var 2) a_nil)))) (g_name 5 sc_Move___init__.nd)
    (b_one (st_if (t_gt (e_abs T.n_abs (a_cons (e_var 5) a_nil)) (e_cInt T.k_MOST_SHIFT))
    (b_one (st_raise (k := 0) x_TooLarge (hr.mono (by first | decide | omega)) rfl takeE (a_cons e_str (a_cons (e_abs T.n_abs (a_cons (e_var 5) a_nil)) (a_cons (e_cInt T.k_MOST_SHIFT) a_nil)))))
    b_nil)))
    (b_one (st_putO 0 T.c_Move T.a_Move_parts (e_tup (a_cons (e_var 1) (a_cons (e_var 2) (a_cons (e_mod (e_int_ T.n_int (a_cons (e_var 3) a_nil)) e_int) (a_cons (e_if (t_val (e_var 4)) e_int e_int) a_nil))))))))), ?_⟩)
  · obtain ⟨_, _, _, _, rfl, _⟩ := h
    rfl
  · obtain ⟨a, b, c, m, rfl, ⟨sa, sb, sc⟩, hw⟩ := hw
    simp -implicitDefEqProofs only [startD, List.set_cons_zero, List.cons_append, List.nil_append]
    have bad : ∀ {v : D} {u : Option SV} {N : Rho → Prop}, Scal v → wholeD v = false → Ed (C_InvalidNumber, inF v) → True := fun _ _ _ => trivial
    by_cases ha : wholeD a = false
    · rw [if_pos ha] at hw
      refine seq_stop fun N => for_of [a, b, c] (fun N h => by walk_at "dl"; exact h) (loop_stop fun N2 => ?_)
      walk_at "dl"
      refine wpw sa ?_
      rw [ha]
      walk_at "dls"
      exact hw
    · rw [if_neg ha] at hw
      have ha' : wholeD a = true := by simpa using ha
      obtain ⟨x1, rfl⟩ := whole_int ha'
      by_cases hb : wholeD b = false
      · rw [if_pos hb] at hw
        refine seq_stop fun N => for_of [.int x1, b, c] (fun N h => by walk_at "dl"; exact h) (loop_cons [some (.ins x C_Move []), some (.d (.int x1)), some (.d b), some (.d c), some (.d (.bl m)), some (.d (.int x1))] (fun N hN => by walk_at "dl"; simp only [wp_is_whole]; walk_at "dl"; exact hN) (loop_stop fun N2 => ?_))
        walk_at "dl"
        refine wpw sb ?_
        rw [hb]
        walk_at "dls"
        exact hw
      · rw [if_neg hb] at hw
        have hb' : wholeD b = true := by simpa using hb
        obtain ⟨y1, rfl⟩ := whole_int hb'
        by_cases hc : wholeD c = false
        · rw [if_pos hc] at hw
          refine seq_stop fun N => for_of [.int x1, .int y1, c] (fun N h => by walk_at "dl"; exact h) (loop_cons [some (.ins x C_Move []), some (.d (.int x1)), some (.d (.int y1)), some (.d c), some (.d (.bl m)), some (.d (.int x1))] (fun N hN => by walk_at "dl"; simp only [wp_is_whole]; walk_at "dl"; exact hN) (loop_cons [some (.ins x C_Move []), some (.d (.int x1)), some (.d (.int y1)), some (.d c), some (.d (.bl m)), some (.d (.int y1))] (fun N hN => by walk_at "dl"; simp only [wp_is_whole]; walk_at "dl"; exact hN) (loop_stop fun N2 => ?_)))
          walk_at "dl"
          refine wpw sc ?_
          rw [hc]
          walk_at "dls"
          exact hw
        · rw [if_neg hc] at hw
          have hc' : wholeD c = true := by simpa using hc
          obtain ⟨t1, rfl⟩ := whole_int hc'
          have hm := hw x1 y1 t1 rfl rfl rfl
          unfold madeM at hm
          refine seq_eq [some (.ins x C_Move []), some (.d (.int x1)), some (.d (.int y1)), some (.d (.int t1)), some (.d (.bl m)), some (.d (.int t1))] (fun N hN => for_of [.int x1, .int y1, .int t1] (fun N h => by walk_at "dl"; exact h) (loop_cons _ (fun N hN => by walk_at "dl"; simp only [wp_is_whole]; walk_at "dl"; exact hN) (loop_cons _ (fun N hN => by walk_at "dl"; simp only [wp_is_whole]; walk_at "dl"; exact hN) (loop_cons _ (fun N hN => by walk_at "dl"; simp only [wp_is_whole]; walk_at "dl"; exact hN) (loop_nil hN))))) ?_
          by_cases h1 : 1000000000000 < absI x1
          · rw [if_pos h1] at hm
            refine seq_stop fun N => for_of [.int x1, .int y1] (fun N h => by walk_at "dl"; exact h) (loop_stop fun N2 => ?_)
            walk_at "dl"
            refine if_y h1 ⟨by decide, hm⟩
          · rw [if_neg h1] at hm
            by_cases h2 : 1000000000000 < absI y1
            · rw [if_pos h2] at hm
              refine seq_stop fun N => for_of [.int x1, .int y1] (fun N h => by walk_at "dl"; exact h) (loop_cons [some (.ins x C_Move []), some (.d (.int x1)), some (.d (.int y1)), some (.d (.int t1)), some (.d (.bl m)), some (.d (.int x1))] (fun N hN => by walk_at "dl"; exact if_n h1 hN) (loop_stop fun N2 => ?_))
              walk_at "dl"
              refine if_y h2 ⟨by decide, hm⟩
            · rw [if_neg h2] at hm
              refine seq_eq [some (.ins x C_Move []), some (.d (.int x1)), some (.d (.int y1)), some (.d (.int t1)), some (.d (.bl m)), some (.d (.int y1))] (fun N hN => for_of [.int x1, .int y1] (fun N h => by walk_at "dl"; exact h) (loop_cons _ (fun N hN => by walk_at "dl"; exact if_n h1 hN) (loop_cons _ (fun N hN => by walk_at "dl"; exact if_n h2 hN) (loop_nil hN)))) ?_
              walk_at "dl"
              refine ⟨by omega, ?_⟩
              cases m <;> simpa only [Mv.fs, Mv.l, bI, Bool.false_eq_true, if_true, if_false] using hm
abbrev s_Move___mul__ : Stmt := inClass (topS 13) 8
abbrev N_Move___mul__ : List Str := ["self", "other", "dx", "dy", "turns", "mirrored"]
theorem sc_Move___mul__ : FnScope N_Move___mul__ ["self", "other"] (defScope s_Move___mul__) := ⟨rfl, rfl, rfl, by decide +kernel, rfl, by decide +kernel, by decide +kernel⟩
theorem ok_Move___mul__ {f : Addr} {fd : FuncData} (T : Txt K mg C_Absent C_CurveError C_InvalidNumber C_Move C_TooLarge) (F : FunX K "__mul__" "Move.__mul__" s_Move___mul__ f fd) (c_combined : Callee P w K mg base "combined" 2 wp_cmb [] []) (c_Move : Maker P w K mg base "Move" C_Move 2 (wp_MvX C_InvalidNumber C_TooLarge) [] []) : FnOk P w K mg base (L2.CX P w) 4 f fd ["self", "other"] (SpW K (wp_MmulX C_Move C_TooLarge)) := by
  refine fn_ok (k := 3) (N := N_Move___mul__) 6 rfl F sc_Move___mul__ (fun ds Q Ed h => ?_) (fun cdv A outer s H E hr ds Qd Ed hw => ⟨_, _,
    (b_cons (st_if (t_not (t_val (e_isiC T.t_Move T.n_isinstance (a_cons (e_var 1) (a_cons (e_cls T.m_Move) a_nil)))))
    (b_one st_never)
    b_nil)
    (b_cons (st_asg (e_call c_combined (hr.mono (by first | decide | omega)) passE (a_cons (e_fld T.c_Move T.a_Move_parts (e_var 0)) (a_cons (e_fld T.c_Move T.a_Move_parts (e_var 1)) a_nil))) (g_tup rfl (gs_cons (g_name 2 sc_Move___mul__.nd) (gs_cons (g_name 3 sc_Move___mul__.nd) (gs_cons (g_name 4 sc_Move___mul__.nd) (gs_cons (g_name 5 sc_Move___mul__.nd) gs_nil)))) (len_names [2, 3, 4, 5])))
    (b_one (st_ret (e_make c_Move (hr.mono (by first | decide | omega)) passE (a_cons (e_var 2) (a_cons (e_var 3) (a_cons (e_var 4) (a_cons (e_eq hr (e_var 5) e_int) a_nil))))))))), ?_⟩)
  · obtain ⟨_, _, rfl, _⟩ := h
    rfl
  · obtain ⟨f, g, rfl, ⟨okf, okg⟩, hw⟩ := hw
    try simp -implicitDefEqProofs only [startD]
    simp only [Mv.fs]
    simp? only [wp_cmb, dIsiC, fget, if_true]
    refine ⟨f, g, rfl, ?_⟩
    generalize hp : f.mul g = p at hw ⊢
    have okp : p.Ok := hp ▸ okf.mul okg
    simp only [Mv.l]
    walk_at "dls"
    refine mvx_int ?_
    rw [Int.emod_eq_of_lt okp.t0 okp.t1, bI_01 okp.m0 okp.m1]
    exact hw
abbrev s_Move_power : Stmt := inClass (topS 13) 9
abbrev N_Move_power : List Str := ["self", "times", "parts", "dx", "dy", "turns", "mirrored"]
theorem sc_Move_power : FnScope N_Move_power ["self", "times"] (defScope s_Move_power) := ⟨rfl, rfl, rfl, by decide +kernel, rfl, by decide +kernel, by decide +kernel⟩
theorem ok_Move_power {f : Addr} {fd : FuncData} (T : Txt K mg C_Absent C_CurveError C_InvalidNumber C_Move C_TooLarge) (F : FunX K "power" "Move.power" s_Move_power f fd) (c_is_whole : Callee P w K mg base "is_whole" 1 wp_is_whole [] []) (c_inverted : Callee P w K mg base "inverted" 2 wp_inv [] []) (c_repeated : Callee P w K mg base "repeated" 3 wp_rep [] []) (c_Move : Maker P w K mg base "Move" C_Move 2 (wp_MvX C_InvalidNumber C_TooLarge) [] []) (x_InvalidNumber : MakerX P w K mg "InvalidNumber" C_InvalidNumber 1 (fun _ => True) (mk1 "value" "InvalidNumber")) : FnOk P w K mg base (L2.CX P w) 5 f fd ["self", "times"] (SpW K (wp_MpowX C_Move C_InvalidNumber C_TooLarge)) := by
  refine fn_ok (k := 4) (N := N_Move_power) 7 rfl F sc_Move_power (fun ds Q Ed h => ?_) (fun cdv A outer s H E hr ds Qd Ed hw => ⟨_, _,
    (b_cons (st_if (t_not (t_val (e_call c_is_whole (hr.mono (by first | decide | omega)) passE (a_cons (e_var 1) a_nil))))
    (b_one (st_raise (k := 0) x_InvalidNumber (hr.mono (by first | decide | omega)) rfl takeE (a_cons (e_var 1) a_nil)))
    b_nil)
    (b_cons (st_set 2 sc_Move_power.nd (e_if (t_ge (e_var 1) e_int) (e_fld T.c_Move T.a_Move_parts (e_var 0)) (e_call c_inverted (hr.mono (by first | decide | omega)) passE (a_cons (e_fld T.c_Move T.a_Move_parts (e_var 0)) a_nil))))
    (b_cons (st_asg (e_call c_repeated (hr.mono (by first | decide | omega)) passE (a_cons (e_var 2) (a_cons (e_abs T.n_abs (a_cons (e_var 1) a_nil)) a_nil))) (g_tup rfl (gs_cons (g_name 3 sc_Move_power.nd) (gs_cons (g_name 4 sc_Move_power.nd) (gs_cons (g_name 5 sc_Move_power.nd) (gs_cons (g_name 6 sc_Move_power.nd) gs_nil)))) (len_names [3, 4, 5, 6])))
    (b_one (st_ret (e_make c_Move (hr.mono (by first | decide | omega)) passE (a_cons (e_var 3) (a_cons (e_var 4) (a_cons (e_var 5) (a_cons (e_eq hr (e_var 6) e_int) a_nil)))))))))), ?_⟩)
  · obtain ⟨_, _, rfl, _⟩ := h
    rfl
  · obtain ⟨f, v, rfl, ⟨okf, sv, hf⟩, hw⟩ := hw
    try simp -implicitDefEqProofs only [startD]
    simp only [Mv.fs]
    simp? only [fget, if_true]
    refine wpw sv ?_
    by_cases hv : wholeD v = false
    · rw [if_pos hv] at hw
      rw [hv]
      walk_at "dls"
      exact hw
    · rw [if_neg hv] at hw
      have hv' : wholeD v = true := by simpa using hv
      obtain ⟨n, rfl⟩ := whole_int hv'
      have hw := hw n rfl
      simp only [wholeD]
      simp? only [wp_inv, wp_rep, fget, if_true]
      refine if_c (fun h => ?_) fun h => ?_
      · have e : f.zpow n = f.pow n.toNat := if_pos h
        rw [e] at hw
        refine ⟨f, n.toNat, by rw [if_neg (by omega), Int.toNat_of_nonneg h], ⟨okf, hf.le (by decide)⟩, ?_⟩
        have okp := okf.pow n.toNat
        generalize f.pow n.toNat = p at hw okp ⊢
        simp only [Mv.l]
        walk_at "dls"
        refine mvx_int ?_
        rw [Int.emod_eq_of_lt okp.t0 okp.t1, bI_01 okp.m0 okp.m1]
        exact hw
      · have e : f.zpow n = f.inv.pow (-n).toNat := if_neg h
        rw [e] at hw
        refine ⟨f, rfl, f.inv, (-n).toNat, by rw [if_pos (by omega), Int.toNat_of_nonneg (by omega)], ⟨okf.inv, hf.inv.le (by decide)⟩, ?_⟩
        have okp := okf.inv.pow (-n).toNat
        generalize f.inv.pow (-n).toNat = p at hw okp ⊢
        simp only [Mv.l]
        walk_at "dls"
        refine mvx_int ?_
        rw [Int.emod_eq_of_lt okp.t0 okp.t1, bI_01 okp.m0 okp.m1]
        exact hw
abbrev s_law_bag : Stmt := topS 15
abbrev N_law_bag : List Str := ["_law_script"]
theorem sc_law_bag : FnScope N_law_bag ["_law_script"] (defScope s_law_bag) := ⟨rfl, rfl, rfl, by decide +kernel, rfl, by decide +kernel, by decide +kernel⟩
theorem ok_law_bag {f : Addr} {fd : FuncData} (T : Txt K mg C_Absent C_CurveError C_InvalidNumber C_Move C_TooLarge) (F : FunX K "_law_bag" "_law_bag" s_law_bag f fd) : FnOk P w K mg base (L2.CX P w) 1 f fd ["_law_script"] (SpW K wpBag) := by
  refine bag_new (F.okX (k := 0) (N := N_law_bag) sc_law_bag (fun vs H Q E h => ?_) (fun cdv A outer s H vs Q E hr h => ⟨_, (show JB (bx P w K mg base N_law_bag "_law_bag" s_law_bag f cdv A outer s H E) (fun _ => False) E (defBody s_law_bag) _ _ from
    (b_one (st_ret (e_lst (a_cons (e_list T.n_list (a_cons (e_slL (e_var 0) o_none (o_some e_int)) a_nil)) (a_cons e_int (a_cons e_int (a_cons e_int (a_cons e_int a_nil))))))))).pe, ?_⟩)) rfl
  · obtain ⟨a, ns, rfl, _⟩ := h
    rfl
  · obtain ⟨a, ns, rfl, ha, hq⟩ := h
    have hc : cutV (ns.map V.int) none (some 63) = (ns.take 63).map V.int := by
      unfold cutV
      simp only [HT.sIx, List.length_map, ← List.map_drop, ← List.map_take]
      congr 1
      simp only [List.drop_zero]
      rw [if_neg (by decide), Nat.sub_zero, ← List.take_take, List.take_length]
      rfl
    exact ⟨.ref a, rfl, 63, rfl, a, _, rfl, ha, fun p1 h1 => ⟨p1, _, rfl, .inl (SqL.of upd_same), fun l hl => ⟨(show 5 ≤ sizeLine by decide), fun p hp => hq p l _ ((same_upd h1).trans ((same_upd hl).trans (same_upd hp))) ((same_upd h1).trans (same_upd hl) |>.free hp) ((same_upd h1).free hl) (by rw [upd_ne (ne_of_none upd_same hp), upd_same, hc]) (by rw [upd_same]; rfl)⟩⟩⟩
abbrev s_law_pull : Stmt := topS 16
abbrev N_law_pull : List Str := ["_law_bag_here", "_law_many", "_law_cell", "_law_small_here", "_law_digit", "_law_seed", "_law_step"]
theorem sc_law_pull : FnScope N_law_pull ["_law_bag_here", "_law_many"] (defScope s_law_pull) := ⟨rfl, rfl, rfl, by decide +kernel, rfl, by decide +kernel, by decide +kernel⟩
theorem ok_law_pull {f : Addr} {fd : FuncData} (T : Txt K mg C_Absent C_CurveError C_InvalidNumber C_Move C_TooLarge) (F : FunX K "_law_pull" "_law_pull" s_law_pull f fd) : FnOk P w K mg base (L2.CX P w) 1 f fd ["_law_bag_here", "_law_many"] (SpW K wpPull) := by
  refine bag_fn (fnO_ok (k := 0) (N := N_law_pull) 6 rfl F sc_law_pull (fun xs ds Q Ed h => ?_) (fun cdv A outer s H E hr q xs ds Qf Ed hw => ⟨_, _,
    (b_cons (st_setL 0 (e_add (e_ixO 0 e_int) e_int) e_int)
    (b_cons (st_if (t_w (w_and (t_eq hr (e_ixO 0 e_int) e_int) (w_and1 (t_lt (e_ixO 0 e_int) (e_len T.n_len (a_cons (e_ixO 0 e_int) a_nil))))))
    (b_cons (st_set 2 sc_law_pull.nd (e_ix (e_ixO 0 e_int) (e_ixO 0 e_int)))
    (b_cons (st_setL 0 (e_add (e_ixO 0 e_int) e_int) e_int)
    (b_one (st_if (t_ge (e_abs T.n_abs (a_cons (e_var 2) a_nil)) (e_pow e_int e_int))
    (b_one (st_setL 0 (e_abs T.n_abs (a_cons (e_var 2) a_nil)) e_int))
    (b_cons (st_set 3 sc_law_pull.nd (e_add (e_mul (e_mod (e_int_ T.n_int (a_cons (e_var 2) a_nil)) e_int) e_int) e_int))
    (b_one (st_setL 0 (e_mod (e_int_ T.n_int (a_cons (e_add (e_mul (e_ixO 0 e_int) e_int) (e_var 3)) a_nil)) e_int) e_int)))))))
    b_nil)
    (b_cons (st_if (t_gt (e_ixO 0 e_int) e_int)
    (b_cons (st_set 4 sc_law_pull.nd (e_mod (e_int_ T.n_int (a_cons (e_ixO 0 e_int) a_nil)) (e_var 1)))
    (b_cons (st_setL 0 (e_div (e_ixO 0 e_int) (e_var 1)) e_int)
    (b_one (st_ret (e_var 4)))))
    b_nil)
    (b_cons (st_set 5 sc_law_pull.nd (e_ixO 0 e_int))
    (b_cons (st_set 6 sc_law_pull.nd (e_add (e_add (e_mul (e_var 5) e_int) (e_mul (e_ixO 0 e_int) e_int)) e_int))
    (b_cons (st_setL 0 (e_mod (e_int_ T.n_int (a_cons (e_add (e_mul (e_mul (e_var 5) (e_var 5)) e_int) (e_var 6)) a_nil)) e_int) e_int)
    (b_one (st_ret (e_mod (e_int_ T.n_int (a_cons (e_add (e_div (e_ixO 0 e_int) e_int) (e_mul (e_mod (e_int_ T.n_int (a_cons (e_ixO 0 e_int) a_nil)) e_int) e_int)) a_nil)) (e_var 1)))))))))), ?_⟩)) rfl
  · obtain ⟨_, _, _, _, _, _, _, _, rfl, _⟩ := h
    rfl
  · obtain ⟨c, ns, i, g, sd, n, m, rfl, rfl, hl, i0, i1, g0, s0, s1, m0, m1, hq⟩ := hw
    simp -implicitDefEqProofs only [startD, List.set_cons_zero, List.cons_append, List.nil_append, bagD]
    refine seq_eq [some (.lst q (bagD c ns i g sd (n + 1))), some (.d (.int m)), none, none, none, none, none] (fun N hN => by walk_at "dl"; exact hN) ?_
    refine seq_of (fun ρ => ∃ i g s n u v, 0 ≤ i ∧ i ≤ (ns.length : Int) ∧ 0 ≤ g ∧ 0 ≤ s ∧ s < 2147483587 ∧ ρ = [some (.lst q (bagD c ns i g s n)), some (.d (.int m)), u, v, none, none, none]) (fun N hN => ?_) (fun ρ hρ => ?_)
    · simp only [bagD]
      by_cases hg : g = 0
      · by_cases hi : i < (ns.length : Int)
        · obtain ⟨v, hv⟩ := atI_map (f := D.int) i0 hi
          subst hg
          simp? only [hv, hi]
          exact ⟨⟨by decide, by decide, by decide⟩, if_c (fun h => hN _ ⟨i + 1, _, sd, n + 1, _, _, by omega, by omega, by split <;> omega, s0, s1, rfl⟩) fun h => ⟨by decide, .inr ⟨by decide, by decide⟩, .inr ⟨by decide, by decide⟩, by decide, hN _ ⟨i + 1, 0, _, n + 1, _, _, by omega, by omega, by omega, Int.emod_nonneg _ (by decide), Int.emod_lt_of_pos _ (by decide), rfl⟩⟩⟩
        · subst hg
          simp? only [hi]
          exact hN _ ⟨i, 0, sd, n + 1, _, _, i0, i1, g0, s0, s1, rfl⟩
      · simp? only [hg]
        exact hN _ ⟨i, g, sd, n + 1, _, _, i0, i1, g0, s0, s1, rfl⟩
    · obtain ⟨i, g, s, n, u, v, i0, i1, g0, s0, s1, rfl⟩ := hρ
      simp only [bagD]
      walk_at "dl"
      exact if_c (fun hg => ⟨m0, cdiv_ok m0 m1, hq i (g / m) s n _ i0 i1 (Int.ediv_nonneg g0 (by omega)) s0 s1 (Int.emod_nonneg _ (by omega)) (Int.emod_lt_of_pos _ m0)⟩) fun hg => ⟨.inr ⟨by decide, by decide⟩, .inr ⟨by decide, by decide⟩, .inl ⟨by omega, by omega⟩, .inr ⟨by decide, by decide⟩, by decide, cdiv_ok (by decide) (by decide), by decide, .inr ⟨by decide, by decide⟩, m0, hq i g _ n _ i0 i1 g0 (Int.emod_nonneg _ (by decide)) (Int.emod_lt_of_pos _ (by decide)) (Int.emod_nonneg _ (by omega)) (Int.emod_lt_of_pos _ m0)⟩
abbrev s_law_of : Stmt := topS 17
abbrev N_law_of : List Str := ["_law_bag_here", "_law_things"]
theorem sc_law_of : FnScope N_law_of ["_law_bag_here", "_law_things"] (defScope s_law_of) := ⟨rfl, rfl, rfl, by decide +kernel, rfl, by decide +kernel, by decide +kernel⟩
theorem ok_law_of {f : Addr} {fd : FuncData} (T : Txt K mg C_Absent C_CurveError C_InvalidNumber C_Move C_TooLarge) (F : FunX K "_law_of" "_law_of" s_law_of f fd) (c_law_pull : Callee P w K mg base "_law_pull" 1 wpPull [] []) : FnOk P w K mg base (L2.CX P w) 2 f fd ["_law_bag_here", "_law_things"] (SpW K wp_law_of) := by
  refine fn_ok (k := 1) (N := N_law_of) 2 rfl F sc_law_of (fun ds Q Ed h => ?_) (fun cdv A outer s H E hr ds Qd Ed hw => ⟨_, _,
    (b_one (st_ret (e_ix (e_var 1) (e_call c_law_pull (hr.mono (by first | decide | omega)) passE (a_cons (e_var 0) (a_cons (e_len T.n_len (a_cons (e_var 1) a_nil)) a_nil)))))), ?_⟩)
  · obtain ⟨_, rfl, _⟩ := h
    rfl
  · obtain ⟨xs, rfl, hn, hl, hw⟩ := hw
    simp -implicitDefEqProofs only [startD]
    simp? only [wpPull]
    refine ⟨⟨by omega, by omega⟩, fun d d0 d1 => ?_⟩
    obtain ⟨j, rfl⟩ := Int.eq_ofNat_of_zero_le d0
    have hj : j < xs.length := by omega
    rw [atI_nat (List.getElem?_eq_getElem hj)]
    exact hw _ (List.getElem_mem hj)
abbrev s_law_small : Stmt := topS 18
abbrev N_law_small : List Str := ["_law_bag_here", "_law_way"]
theorem sc_law_small : FnScope N_law_small ["_law_bag_here"] (defScope s_law_small) := ⟨rfl, rfl, rfl, by decide +kernel, rfl, by decide +kernel, by decide +kernel⟩
theorem ok_law_small {f : Addr} {fd : FuncData} (T : Txt K mg C_Absent C_CurveError C_InvalidNumber C_Move C_TooLarge) (F : FunX K "_law_small" "_law_small" s_law_small f fd) (c_law_pull : Callee P w K mg base "_law_pull" 1 wpPull [] []) : FnOk P w K mg base (L2.CX P w) 2 f fd ["_law_bag_here"] (SpW K wp_small) := by
  refine fn_ok (k := 1) (N := N_law_small) 2 rfl F sc_law_small (fun ds Q Ed h => ?_) (fun cdv A outer s H E hr ds Qd Ed hw => ⟨_, _,
    (b_cons (st_set 1 sc_law_small.nd (e_call c_law_pull (hr.mono (by first | decide | omega)) passE (a_cons (e_var 0) (a_cons e_int a_nil))))
    (b_cons (st_if (t_lt (e_var 1) e_int)
    (b_one (st_ret (e_sub (e_var 1) e_int)))
    b_nil)
    (b_one (st_ret (e_mul (e_sub e_int (e_mul e_int (e_mod (e_var 1) e_int))) (e_add e_int (e_call c_law_pull (hr.mono (by first | decide | omega)) passE (a_cons (e_var 0) (a_cons e_int a_nil))))))))), ?_⟩)
  · unfold wp_small at h
    split at h
    · rfl
    · exact h.elim
  · unfold wp_small at hw
    split at hw
    · simp -implicitDefEqProofs only [startD]
      simp? only [wpPull]
      exact ⟨⟨by decide, by decide⟩, fun d d0 d1 => if_c (fun h => hw _ (by omega) (by omega)) fun h => ⟨by decide, .inl ⟨by decide, by decide⟩, ⟨by decide, by decide⟩, fun e e0 e1 => ⟨.inl ⟨by omega, by omega⟩, by
        have z : d % 2 = 0 ∨ d % 2 = 1 := by omega
        rcases z with z | z <;> rw [z] <;> exact hw _ (by omega) (by omega)⟩⟩⟩
    · exact hw.elim
abbrev s_law_same : Stmt := topS 19
abbrev N_law_same : List Str := ["_law_found", "_law_due", "_law_a", "_law_b"]
theorem sc_law_same : FnScope N_law_same ["_law_found", "_law_due"] (defScope s_law_same) := ⟨rfl, rfl, rfl, by decide +kernel, rfl, by decide +kernel, by decide +kernel⟩
theorem step_law_same {f : Addr} {fd : FuncData} (T : Txt K mg C_Absent C_CurveError C_InvalidNumber C_Move C_TooLarge) (F : FunX K "_law_same" "_law_same" s_law_same f fd) {n k : Nat} {wpc : Wp} (c : Callee P w K mg base "_law_same" k wpc [] []) (hc : ∀ m, n = m + 1 → wpc = wpSame m) : FnOk P w K mg base (L2.CX P w) (k + 1) f fd ["_law_found", "_law_due"] (SpW K (wpSame n)) := by
  refine fn_ok (k := k) (N := N_law_same) 4 rfl F sc_law_same (fun ds Q Ed h => ?_) (fun cdv A outer s H E hr ds Qd Ed hw => ⟨_, _,
    (b_cons (st_if (t_w (w_or (t_isN (e_var 1)) (w_or1 (t_isN (e_var 0)))))
    (b_one (st_ret (e_and (e_isN (e_var 1)) (e_one (e_isN (e_var 0))))))
    b_nil)
    (b_cons (st_if (t_w (w_or (t_val (e_isi T.n_isinstance (a_cons (e_var 1) (a_cons (b_ty "bool" T.n_bool) a_nil)))) (w_or1 (t_val (e_isi T.n_isinstance (a_cons (e_var 0) (a_cons (b_ty "bool" T.n_bool) a_nil)))))))
    (b_one (st_ret (e_and (e_isi T.n_isinstance (a_cons (e_var 1) (a_cons (b_ty "bool" T.n_bool) a_nil))) (e_and (e_isi T.n_isinstance (a_cons (e_var 0) (a_cons (b_ty "bool" T.n_bool) a_nil))) (e_one (e_eq hr (e_var 0) (e_var 1)))))))
    b_nil)
    (b_cons (st_if (t_w (w_or (t_val (e_isiT T.n_isinstance (e_var 1) (a_cons (b_ty "list" T.n_list) (a_cons (b_ty "tuple" T.n_tuple) a_nil)))) (w_or1 (t_val (e_isiT T.n_isinstance (e_var 0) (a_cons (b_ty "list" T.n_list) (a_cons (b_ty "tuple" T.n_tuple) a_nil)))))))
    (b_cons (st_if (t_ne hr (e_isi T.n_isinstance (a_cons (e_var 1) (a_cons (b_ty "list" T.n_list) a_nil))) (e_isi T.n_isinstance (a_cons (e_var 0) (a_cons (b_ty "list" T.n_list) a_nil))))
    (b_one (st_ret e_bl))
    b_nil)
    (b_cons (st_if (t_w (w_or (t_ne hr (e_isi T.n_isinstance (a_cons (e_var 1) (a_cons (b_ty "tuple" T.n_tuple) a_nil))) (e_isi T.n_isinstance (a_cons (e_var 0) (a_cons (b_ty "tuple" T.n_tuple) a_nil)))) (w_or1 (t_ne hr (e_len T.n_len (a_cons (e_var 0) a_nil)) (e_len T.n_len (a_cons (e_var 1) a_nil))))))
    (b_one (st_ret e_bl))
    b_nil)
    (b_one (st_ret (e_all rfl T.n_all (a_cons (e_comp rfl sc_law_same.nd (i_zip T.n_zip (a_cons (e_var 0) (a_cons (e_var 1) a_nil))) (blkOk_by (own := [("_law_a", 2), ("_law_b", 3)]) (N := N_law_same) (sc := defScope s_law_same) (by decide +kernel)) (own_tup (own_cons' (own_cons' own_nil))) (fun _ _ _ _ _ => (g_tup rfl (gs_cons (g_name 2 sc_law_same.nd) (gs_cons (g_name 3 sc_law_same.nd) gs_nil)) (len_names [2, 3]))) (fun _ _ _ _ _ => castTs ts_nil (by walk_at "blk")) (fun _ _ _ _ _ => castE (e_call c (hr.mono (by first | decide | omega)) passB (a_cons (e_var 2) (a_cons (e_var 3) a_nil))) (by walk_at "blk"))) a_nil))))))
    b_nil)
    (b_cons (st_if (t_ne hr (e_isi T.n_isinstance (a_cons (e_var 1) (a_cons (b_ty "int" T.n_int) a_nil))) (e_isi T.n_isinstance (a_cons (e_var 0) (a_cons (b_ty "int" T.n_int) a_nil))))
    (b_one (st_ret e_bl))
    b_nil)
    (b_one (st_ret (e_and (e_eq hr (e_isi T.n_isinstance (a_cons (e_var 1) (a_cons (b_ty "str" T.n_str) a_nil))) (e_isi T.n_isinstance (a_cons (e_var 0) (a_cons (b_ty "str" T.n_str) a_nil)))) (e_one (e_eq hr (e_var 0) (e_var 1)))))))))), ?_⟩)
  · unfold wpSame at h
    split at h
    · rfl
    · exact h.elim
  · unfold wpSame at hw
    split at hw
    · rename_i x y
      obtain ⟨hx, hy, hf, hq⟩ := hw
      have px : (x = .non ∨ (∃ b, x = .bl b) ∨ (∃ i, x = .int i) ∨ (∃ s, x = .str s)) ∨ (∃ xs, x = .tup xs) ∨ ∃ xs, x = .lst xs := by
        cases x <;> simp [D.isData] at hx ⊢
      have py : (y = .non ∨ (∃ b, y = .bl b) ∨ (∃ i, y = .int i) ∨ (∃ s, y = .str s)) ∨ (∃ xs, y = .tup xs) ∨ ∃ xs, y = .lst xs := by
        cases y <;> simp [D.isData] at hy ⊢
      rcases px with px | ⟨xs, rfl⟩ | ⟨xs, rfl⟩
      · rcases px with rfl | ⟨b, rfl⟩ | ⟨i, rfl⟩ | ⟨t, rfl⟩ <;> rcases py with (rfl | ⟨b2, rfl⟩ | ⟨i2, rfl⟩ | ⟨t2, rfl⟩) | ⟨ys, rfl⟩ | ⟨ys, rfl⟩ <;> (walk_at "dl"; first | exact hq | (simp_all [sameD]; done))
      · rcases py with py | ⟨ys, rfl⟩ | ⟨ys, rfl⟩
        · rcases py with rfl | ⟨b2, rfl⟩ | ⟨i2, rfl⟩ | ⟨t2, rfl⟩ <;> (walk_at "dl"; first | exact hq | (simp_all [sameD]; done))
        ·
          walk_at "dl"
          cases n with
          | zero => exact absurd hx (by simp [D.isData])
          | succ n =>
            obtain ⟨f1, f2⟩ := Bool.and_eq_true_iff.mp (show (decide (xs.length ≤ 90000) && fewAll xs) = true from hf)
            refine if_n (by decide) (if_n (by decide) (if_c (fun hl => ?_) fun hl => ?_))
            · rw [show sameD (.tup xs) (.tup ys) = false from sameDs_other (fun z => by rw [z] at hl; simp at hl)] at hq
              exact hq
            · exact same_comp (hc n rfl) hx hy (of_decide_eq_true f1) f2 (by simp at hl; omega) hq
        · (walk_at "dl"; first | exact hq | (simp_all [sameD]; done))
      · rcases py with py | ⟨ys, rfl⟩ | ⟨ys, rfl⟩
        · rcases py with rfl | ⟨b2, rfl⟩ | ⟨i2, rfl⟩ | ⟨t2, rfl⟩ <;> (walk_at "dl"; first | exact hq | (simp_all [sameD]; done))
        · (walk_at "dl"; first | exact hq | (simp_all [sameD]; done))
        ·
          walk_at "dl"
          cases n with
          | zero => exact absurd hx (by simp [D.isData])
          | succ n =>
            obtain ⟨f1, f2⟩ := Bool.and_eq_true_iff.mp (show (decide (xs.length ≤ 90000) && fewAll xs) = true from hf)
            refine if_n (by decide) (if_n (by decide) (if_c (fun hl => ?_) fun hl => ?_))
            · rw [show sameD (.lst xs) (.lst ys) = false from sameDs_other (fun z => by rw [z] at hl; simp at hl)] at hq
              exact hq
            · exact same_comp (hc n rfl) hx hy (of_decide_eq_true f1) f2 (by simp at hl; omega) hq
    · exact hw.elim
theorem ok_law_same {f : Addr} {fd : FuncData} (T : Txt K mg C_Absent C_CurveError C_InvalidNumber C_Move C_TooLarge) (F : FunX K "_law_same" "_law_same" s_law_same f fd) (g : mg "_law_same" = some (.ref f)) (b : Binds K fd ["_law_found", "_law_due"] []) : ∀ n : Nat, FnOk P w K mg base (L2.CX P w) (n + 1) f fd ["_law_found", "_law_due"] (SpW K (wpSame n))
  | 0 => step_law_same T F (callee_no F g b) fun m e => nomatch e
  | n + 1 => step_law_same T F (callee_mk F g (ok_law_same T F g b n) b) fun m e => by
    cases e
    rfl
abbrev s_law_other_field : Stmt := topS 21
abbrev N_law_other_field : List Str := ["_law_e"]
theorem sc_law_other_field : FnScope N_law_other_field ["_law_e"] (defScope s_law_other_field) := ⟨rfl, rfl, rfl, by decide +kernel, rfl, by decide +kernel, by decide +kernel⟩
abbrev s_law_field : Stmt := topS 20
abbrev N_law_field : List Str := ["_law_e"]
theorem sc_law_field : FnScope N_law_field ["_law_e"] (defScope s_law_field) := ⟨rfl, rfl, rfl, by decide +kernel, rfl, by decide +kernel, by decide +kernel⟩
abbrev s_law_why : Stmt := topS 22
abbrev N_law_why : List Str := ["_law_ask", "_law_e"]
theorem sc_law_why : FnScope N_law_why ["_law_ask"] (defScope s_law_why) := ⟨rfl, rfl, rfl, by decide +kernel, rfl, by decide +kernel, by decide +kernel⟩
abbrev s_law : Stmt := topS 23
abbrev N_law : List Str := ["_law_script", "_law_bag_here", "_law_most", "_law_odds", "_law_values", "_law_due", "_law_at", "_law_told", "_law_sign", "_law_far", "_law_beyond", "_law_near", "_law_start", "_law_odd_power", "_law_both", "_law_many"]
theorem sc_law : FnScope N_law ["_law_script"] (defScope s_law) := ⟨rfl, rfl, rfl, by decide +kernel, rfl, by decide +kernel, by decide +kernel⟩
theorem ok_law {f c Pt : Addr} {fd : FuncData} (T : Txt K mg C_Absent C_CurveError C_InvalidNumber C_Move C_TooLarge) (F : FunC K "law" "law" s_law f fd c) (Lm : LamP mg base "law" c Pt) (Wy : WhyF P w K mg base 6 C_CurveError C_Absent) (HK : ∀ e ∈ ([(C_InvalidNumber, ["value", "code"]), (C_TooLarge, ["limit", "value", "what", "code"])] : List (Addr × List Str)), ErrK K C_CurveError C_Absent e.1 e.2) (c_law_bag : Callee P w K mg base "_law_bag" 1 wpBag [] []) (c_law_pull : Callee P w K mg base "_law_pull" 1 wpPull [] []) (c_law_of : Callee P w K mg base "_law_of" 2 wp_law_of [] []) (c_law_small : Callee P w K mg base "_law_small" 2 wp_small [] []) (c_law_same : Callee P w K mg base "_law_same" 4 (wpSame 3) [] []) (c_Move_3 : Maker P w K mg base "Move" C_Move 2 (wp_MvX C_InvalidNumber C_TooLarge) [.bl false] [.bl false]) (c_Move_2 : Maker P w K mg base "Move" C_Move 2 (wp_MvX C_InvalidNumber C_TooLarge) [.int (0), .bl false] [.int (0), .bl false]) (o_Move___mul__ : Opr P w K mg base .Mult C_Move 4 (wp_MmulX C_Move C_TooLarge)) (m_Move_power : Metd P w K mg base C_Move "power" 5 (wp_MpowX C_Move C_InvalidNumber C_TooLarge) [] []) : FnOk P w K mg base (L2.CX P w) 9 f fd ["_law_script"] (SpW K wpLaw) := by
  refine fnC_ok (k := 8) (N := N_law) 16 rfl F sc_law (fun ds Q Ed h => ?_) (fun A outer s H E hr ds Qd Ed hw => ⟨_, _,
    (b_cons (st_set 1 sc_law.nd (e_call c_law_bag (hr.mono (by first | decide | omega)) passE (a_cons (e_var 0) a_nil)))
    (b_cons (st_set 2 sc_law.nd (e_pow e_int e_int))
    (b_cons (st_set 3 sc_law.nd (e_lst (a_cons e_non (a_cons e_str (a_cons e_bl (a_cons e_bl (a_cons (e_tup (a_cons e_int a_nil)) (a_cons (e_tup a_nil) a_nil))))))))
    (b_cons (st_newL 4 sc_law.nd (a_cons (e_call c_law_small (hr.mono (by first | decide | omega)) passE (a_cons (e_var 1) a_nil)) (a_cons (e_call c_law_small (hr.mono (by first | decide | omega)) passE (a_cons (e_var 1) a_nil)) (a_cons (e_call c_law_small (hr.mono (by first | decide | omega)) passE (a_cons (e_var 1) a_nil)) a_nil))))
    (b_cons (st_set 5 sc_law.nd e_non)
    (b_cons (st_for (passes_of rfl) rfl (i_rng1 T.n_range (a_cons e_int a_nil)) (g_name 6 sc_law.nd)
    (b_one (st_if (t_eq hr (e_call c_law_pull (hr.mono (by first | decide | omega)) passE (a_cons (e_var 1) (a_cons e_int a_nil))) e_int)
    (b_cons (st_setL 4 (e_call c_law_of (hr.mono (by first | decide | omega)) passE (a_cons (e_var 1) (a_cons (e_var 3) a_nil))) (e_var 6))
    (b_one (st_set 5 sc_law.nd (e_if (t_isN (e_var 5)) (e_tup (a_cons e_str (a_cons (e_ixO 4 (e_var 6)) a_nil))) (e_var 5)))))
    b_nil)))
    (b_frz 4 (b_cons (st_set 7 sc_law.nd (e_why (X := bx P w K mg base N_law "law" s_law f (.ref c) A outer s H E) (Ks := [(C_InvalidNumber, ["value", "code"]), (C_TooLarge, ["limit", "value", "what", "code"])]) Wy Lm.t Lm.u Lm.b rfl HK (hr.mono (by first | decide | omega)) (LamX.lamS_by (sc := defScope s_law) (by decide +kernel)) (fun A2 outer2 s2 H2 E2 fl cl Ed2 hr => by refine castE (e_fld T.c_Move T.a_Move_parts (e_make c_Move_3 (hr.mono (by first | decide | omega)) (passL (X := bx P w K mg base N_law "law" s_law f (.ref c) A outer s H E) (A := A2) (outer := outer2) (s := s2) (H := H2) (E := E2) (f := fl) (c' := cl)) (a_cons (e_ix (e_var 4) e_int) (a_cons (e_ix (e_var 4) e_int) (a_cons (e_ix (e_var 4) e_int) a_nil))))) ?_; (try dsimp only [lamK, lamW, lamR, bxK, bxW, bxR]) <;> rfl)))
    (b_cons (st_if (t_isN (e_var 5))
    (b_one (st_set 5 sc_law.nd (e_tup (a_cons e_str (a_cons (e_tup (a_cons (e_ix (e_var 4) e_int) (a_cons (e_ix (e_var 4) e_int) (a_cons (e_mod (e_ix (e_var 4) e_int) e_int) (a_cons e_int a_nil))))) a_nil)))))
    b_nil)
    (b_cons (st_if (t_not (t_val (e_call c_law_same (hr.mono (by first | decide | omega)) passE (a_cons (e_var 7) (a_cons (e_var 5) a_nil)))))
    (b_one (st_ret e_bl))
    b_nil)
    (b_cons (st_set 8 sc_law.nd (e_sub e_int (e_mul e_int (e_call c_law_pull (hr.mono (by first | decide | omega)) passE (a_cons (e_var 1) (a_cons e_int a_nil))))))
    (b_cons (st_set 9 sc_law.nd (e_add (e_sub (e_var 2) e_int) (e_call c_law_pull (hr.mono (by first | decide | omega)) passE (a_cons (e_var 1) (a_cons e_int a_nil)))))
    (b_cons (st_set 10 sc_law.nd (e_tup (a_cons e_str (a_cons (e_tup (a_cons e_str (a_cons (e_var 9) (a_cons (e_var 2) a_nil)))) a_nil))))
    (b_cons (st_if (t_not (t_val (e_call c_law_same (hr.mono (by first | decide | omega)) passE (a_cons (e_why (X := bx P w K mg base N_law "law" s_law f (.ref c) A outer s H E) (Ks := [(C_InvalidNumber, ["value", "code"]), (C_TooLarge, ["limit", "value", "what", "code"])]) Wy Lm.t Lm.u Lm.b rfl HK (hr.mono (by first | decide | omega)) (LamX.lamS_by (sc := defScope s_law) (by decide +kernel)) (fun A2 outer2 s2 H2 E2 fl cl Ed2 hr => by refine castE (e_fld T.c_Move T.a_Move_parts (e_make c_Move_2 (hr.mono (by first | decide | omega)) (passL (X := bx P w K mg base N_law "law" s_law f (.ref c) A outer s H E) (A := A2) (outer := outer2) (s := s2) (H := H2) (E := E2) (f := fl) (c' := cl)) (a_cons (e_mul (e_var 8) (e_var 9)) (a_cons e_int a_nil)))) ?_; (try dsimp only [lamK, lamW, lamR, bxK, bxW, bxR]) <;> rfl)) (a_cons (e_if (t_gt (e_var 9) (e_var 2)) (e_var 10) (e_tup (a_cons e_str (a_cons (e_tup (a_cons (e_mul (e_var 8) (e_var 9)) (a_cons e_int (a_cons e_int (a_cons e_int a_nil))))) a_nil)))) a_nil)))))
    (b_one (st_ret e_bl))
    b_nil)
    (b_cons (st_if (t_not (t_val (e_call c_law_same (hr.mono (by first | decide | omega)) passE (a_cons (e_why (X := bx P w K mg base N_law "law" s_law f (.ref c) A outer s H E) (Ks := [(C_InvalidNumber, ["value", "code"]), (C_TooLarge, ["limit", "value", "what", "code"])]) Wy Lm.t Lm.u Lm.b rfl HK (hr.mono (by first | decide | omega)) (LamX.lamS_by (sc := defScope s_law) (by decide +kernel)) (fun A2 outer2 s2 H2 E2 fl cl Ed2 hr => by refine castE (e_fld T.c_Move T.a_Move_parts (e_make c_Move_2 (hr.mono (by first | decide | omega)) (passL (X := bx P w K mg base N_law "law" s_law f (.ref c) A outer s H E) (A := A2) (outer := outer2) (s := s2) (H := H2) (E := E2) (f := fl) (c' := cl)) (a_cons e_int (a_cons (e_mul (e_var 8) (e_var 9)) a_nil)))) ?_; (try dsimp only [lamK, lamW, lamR, bxK, bxW, bxR]) <;> rfl)) (a_cons (e_if (t_gt (e_var 9) (e_var 2)) (e_var 10) (e_tup (a_cons e_str (a_cons (e_tup (a_cons e_int (a_cons (e_mul (e_var 8) (e_var 9)) (a_cons e_int (a_cons e_int a_nil))))) a_nil)))) a_nil)))))
    (b_one (st_ret e_bl))
    b_nil)
    (b_cons (st_set 11 sc_law.nd (e_add e_int (e_call c_law_pull (hr.mono (by first | decide | omega)) passE (a_cons (e_var 1) (a_cons (e_pow e_int e_int) a_nil)))))
    (b_cons (st_set 12 sc_law.nd (e_make c_Move_2 (hr.mono (by first | decide | omega)) passE (a_cons (e_mul (e_var 8) (e_sub (e_var 9) (e_var 11))) (a_cons e_int a_nil))))
    (b_cons (st_set 7 sc_law.nd (e_why (X := bx P w K mg base N_law "law" s_law f (.ref c) A outer s H E) (Ks := [(C_InvalidNumber, ["value", "code"]), (C_TooLarge, ["limit", "value", "what", "code"])]) Wy Lm.t Lm.u Lm.b rfl HK (hr.mono (by first | decide | omega)) (LamX.lamS_by (sc := defScope s_law) (by decide +kernel)) (fun A2 outer2 s2 H2 E2 fl cl Ed2 hr => by refine castE (e_fld T.c_Move T.a_Move_parts (e_own o_Move___mul__ (hr.mono (by first | decide | omega)) (passL (X := bx P w K mg base N_law "law" s_law f (.ref c) A outer s H E) (A := A2) (outer := outer2) (s := s2) (H := H2) (E := E2) (f := fl) (c' := cl)) (e_var 12) (e_make c_Move_2 (hr.mono (by first | decide | omega)) (passL (X := bx P w K mg base N_law "law" s_law f (.ref c) A outer s H E) (A := A2) (outer := outer2) (s := s2) (H := H2) (E := E2) (f := fl) (c' := cl)) (a_cons (e_mul (e_var 8) (e_var 11)) (a_cons e_int a_nil))))) ?_; (try dsimp only [lamK, lamW, lamR, bxK, bxW, bxR]) <;> rfl)))
    (b_cons (st_if (t_not (t_val (e_call c_law_same (hr.mono (by first | decide | omega)) passE (a_cons (e_var 7) (a_cons (e_if (t_gt (e_var 9) (e_var 2)) (e_var 10) (e_tup (a_cons e_str (a_cons (e_tup (a_cons (e_mul (e_var 8) (e_var 9)) (a_cons e_int (a_cons e_int (a_cons e_int a_nil))))) a_nil)))) a_nil)))))
    (b_one (st_ret e_bl))
    b_nil)
    (b_cons (st_set 13 sc_law.nd (e_call c_law_of (hr.mono (by first | decide | omega)) passE (a_cons (e_var 1) (a_cons (e_var 3) a_nil))))
    (b_cons (st_if (t_not (t_val (e_call c_law_same (hr.mono (by first | decide | omega)) passE (a_cons (e_why (X := bx P w K mg base N_law "law" s_law f (.ref c) A outer s H E) (Ks := [(C_InvalidNumber, ["value", "code"]), (C_TooLarge, ["limit", "value", "what", "code"])]) Wy Lm.t Lm.u Lm.b rfl HK (hr.mono (by first | decide | omega)) (LamX.lamS_by (sc := defScope s_law) (by decide +kernel)) (fun A2 outer2 s2 H2 E2 fl cl Ed2 hr => by refine castE (e_meth m_Move_power (hr.mono (by first | decide | omega)) (passL (X := bx P w K mg base N_law "law" s_law f (.ref c) A outer s H E) (A := A2) (outer := outer2) (s := s2) (H := H2) (E := E2) (f := fl) (c' := cl)) (e_var 12) (a_cons (e_var 13) a_nil)) ?_; (try dsimp only [lamK, lamW, lamR, bxK, bxW, bxR]) <;> rfl)) (a_cons (e_tup (a_cons e_str (a_cons (e_var 13) a_nil))) a_nil)))))
    (b_one (st_ret e_bl))
    b_nil)
    (b_cons (st_set 14 sc_law.nd (e_why (X := bx P w K mg base N_law "law" s_law f (.ref c) A outer s H E) (Ks := [(C_InvalidNumber, ["value", "code"]), (C_TooLarge, ["limit", "value", "what", "code"])]) Wy Lm.t Lm.u Lm.b rfl HK (hr.mono (by first | decide | omega)) (LamX.lamS_by (sc := defScope s_law) (by decide +kernel)) (fun A2 outer2 s2 H2 E2 fl cl Ed2 hr => by refine castE (e_make c_Move_2 (hr.mono (by first | decide | omega)) (passL (X := bx P w K mg base N_law "law" s_law f (.ref c) A outer s H E) (A := A2) (outer := outer2) (s := s2) (H := H2) (E := E2) (f := fl) (c' := cl)) (a_cons (e_add (e_var 2) e_int) (a_cons (e_add (e_var 2) e_int) a_nil))) ?_; (try dsimp only [lamK, lamW, lamR, bxK, bxW, bxR]) <;> rfl)))
    (b_cons (st_if (t_not (t_val (e_call c_law_same (hr.mono (by first | decide | omega)) passE (a_cons (e_var 14) (a_cons (e_tup (a_cons e_str (a_cons (e_tup (a_cons e_str (a_cons (e_add (e_var 2) e_int) (a_cons (e_var 2) a_nil)))) a_nil))) a_nil)))))
    (b_one (st_ret e_bl))
    b_nil)
    (b_cons (st_set 15 sc_law.nd (e_sub (e_add (e_mul e_int (e_pow e_int e_int)) (e_call c_law_pull (hr.mono (by first | decide | omega)) passE (a_cons (e_var 1) (a_cons e_int a_nil)))) e_int))
    (b_cons (st_set 7 sc_law.nd (e_why (X := bx P w K mg base N_law "law" s_law f (.ref c) A outer s H E) (Ks := [(C_InvalidNumber, ["value", "code"]), (C_TooLarge, ["limit", "value", "what", "code"])]) Wy Lm.t Lm.u Lm.b rfl HK (hr.mono (by first | decide | omega)) (LamX.lamS_by (sc := defScope s_law) (by decide +kernel)) (fun A2 outer2 s2 H2 E2 fl cl Ed2 hr => by refine castE (e_fld T.c_Move T.a_Move_parts (e_meth m_Move_power (hr.mono (by first | decide | omega)) (passL (X := bx P w K mg base N_law "law" s_law f (.ref c) A outer s H E) (A := A2) (outer := outer2) (s := s2) (H := H2) (E := E2) (f := fl) (c' := cl)) (e_make c_Move_2 (hr.mono (by first | decide | omega)) (passL (X := bx P w K mg base N_law "law" s_law f (.ref c) A outer s H E) (A := A2) (outer := outer2) (s := s2) (H := H2) (E := E2) (f := fl) (c' := cl)) (a_cons e_int (a_cons e_int a_nil))) (a_cons (e_var 15) a_nil))) ?_; (try dsimp only [lamK, lamW, lamR, bxK, bxW, bxR]) <;> rfl)))
    (b_cons (st_if (t_gt (e_mul (e_var 15) e_int) (e_var 2))
    (b_one (st_ret (e_call c_law_same (hr.mono (by first | decide | omega)) passE (a_cons (e_var 7) (a_cons (e_tup (a_cons e_str (a_cons (e_tup (a_cons e_str (a_cons (e_mul (e_var 15) e_int) (a_cons (e_var 2) a_nil)))) a_nil))) a_nil)))))
    b_nil)
    (b_one (st_ret (e_call c_law_same (hr.mono (by first | decide | omega)) passE (a_cons (e_var 7) (a_cons (e_tup (a_cons e_str (a_cons (e_tup (a_cons e_int (a_cons (e_mul (e_var 15) e_int) (a_cons e_int (a_cons e_int a_nil))))) a_nil))) a_nil))))))))))))))))))))))))))))))), ?_⟩)
  · obtain ⟨_, rfl, _⟩ := h
    rfl
  · obtain ⟨ns, rfl, hl, hw⟩ := hw
    simp -implicitDefEqProofs only [startD]
    refine seq_eq [some (.d (.lst (ns.map D.int))), some (.d .bag), none, none, none, none, none, none, none, none, none, none, none, none, none, none] (fun N hN => by
      simp? only [wpBag]
      exact ⟨ns, rfl, hN⟩) ?_
    refine seq_eq [some (.d (.lst (ns.map D.int))), some (.d .bag), some (.d (.int 1000000000000)), none, none, none, none, none, none, none, none, none, none, none, none, none] (fun N hN => by
      walk_at "dls"
      exact ⟨⟨by decide, by decide, by decide⟩, hN⟩) ?_
    refine seq_eq [some (.d (.lst (ns.map D.int))), some (.d .bag), some (.d (.int 1000000000000)), some (.d (.lst oddsL)), none, none, none, none, none, none, none, none, none, none, none, none] (fun N hN => by
      walk_at "dls"
      exact hN) ?_
    refine seq_of (fun ρ => ∃ (q : Addr) (a b c : Int), (Smi a ∧ Smi b ∧ Smi c) ∧ ρ = [some (.d (.lst (ns.map D.int))), some (.d .bag), some (.d (.int 1000000000000)), some (.d (.lst oddsL)), some (.lst q [.int a, .int b, .int c]), none, none, none, none, none, none, none, none, none, none, none]) (fun N hN => by
      simp? only [wp_small]
      exact fun a a0 a1 b b0 b1 c c0 c1 q => hN _ ⟨q, a, b, c, ⟨⟨a0, a1⟩, ⟨b0, b1⟩, c0, c1⟩, rfl⟩) ?_
    rintro ρ ⟨q, a, b, c, ⟨h1, h2, h3⟩, rfl⟩
    refine seq_eq [some (.d (.lst (ns.map D.int))), some (.d .bag), some (.d (.int 1000000000000)), some (.d (.lst oddsL)), some (.lst q [.int a, .int b, .int c]), some (.d .non), none, none, none, none, none, none, none, none, none, none] (fun N hN => by
      walk_at "dls"
      exact hN) ?_
    refine seq_of (fun ρ => ∃ (q : Addr) (a b c : D) (u : Option SV) (dv : D), (PartV a ∧ PartV b ∧ PartV c) ∧ dv = dueOf [a, b, c] ∧ ρ = [some (.d (.lst (ns.map D.int))), some (.d .bag), some (.d (.int 1000000000000)), some (.d (.lst oddsL)), some (.lst q [a, b, c]), some (.d dv), u, none, none, none, none, none, none, none, none, none]) (fun N9 hN9 => for_of [.int 0, .int 1, .int 2] (fun N h => by
      walk_at "dls"
      exact ⟨⟨by decide, by decide⟩, h⟩) ?_) ?_
    · have hdv : (D.non : D) = dueOf [] := rfl
      generalize (D.non : D) = dv at hdv ⊢
      refine (loop_of (fun ρ => ∃ (q : Addr) (a : D) (b c : Int) (u : Option SV) (dv : D), (PartV a ∧ Smi b ∧ Smi c) ∧ dv = dueOf [a] ∧ ρ = [some (.d (.lst (ns.map D.int))), some (.d .bag), some (.d (.int 1000000000000)), some (.d (.lst oddsL)), some (.lst q [a, .int b, .int c]), some (.d dv), u, none, none, none, none, none, none, none, none, none]) (fun N hN => by
        rcases due_or [] with hd | ⟨w9, hd⟩ <;> rw [hd] at hdv <;> subst hdv
        · simp? only [wpPull]
          refine ⟨⟨by decide, by decide⟩, fun x x0 x1 => if_c (fun _ => ?_) fun _ => hN _ ⟨q, .int a, b, c, _, _, ⟨.inl ⟨a, rfl, h1⟩, h2, h3⟩, (hd.symm.trans (due_app_int []).symm), rfl⟩⟩
          refine ⟨oddsL, rfl, by decide, by decide, fun v hv => ?_⟩
          exact hN _ ⟨q, v, b, c, _, _, ⟨.inr (odd_of hv), h2, h3⟩, (due_app_odd (odd_of hv) [] hd).symm, rfl⟩
        · simp? only [wpPull]
          refine ⟨⟨by decide, by decide⟩, fun x x0 x1 => if_c (fun _ => ?_) fun _ => hN _ ⟨q, .int a, b, c, _, _, ⟨.inl ⟨a, rfl, h1⟩, h2, h3⟩, (hd.symm.trans (due_app_int []).symm), rfl⟩⟩
          refine ⟨oddsL, rfl, by decide, by decide, fun v hv => ?_⟩
          exact hN _ ⟨q, v, b, c, _, _, ⟨.inr (odd_of hv), h2, h3⟩, (due_app_tup [] hd).symm, rfl⟩) ?_)
      rintro ρ ⟨q, a, b, c, u, dv, ⟨h1, h2, h3⟩, hdv, rfl⟩
      refine (loop_of (fun ρ => ∃ (q : Addr) (a b : D) (c : Int) (u : Option SV) (dv : D), (PartV a ∧ PartV b ∧ Smi c) ∧ dv = dueOf [a, b] ∧ ρ = [some (.d (.lst (ns.map D.int))), some (.d .bag), some (.d (.int 1000000000000)), some (.d (.lst oddsL)), some (.lst q [a, b, .int c]), some (.d dv), u, none, none, none, none, none, none, none, none, none]) (fun N hN => by
        rcases due_or [a] with hd | ⟨w9, hd⟩ <;> rw [hd] at hdv <;> subst hdv
        · simp? only [wpPull]
          refine ⟨⟨by decide, by decide⟩, fun x x0 x1 => if_c (fun _ => ?_) fun _ => hN _ ⟨q, a, .int b, c, _, _, ⟨h1, .inl ⟨b, rfl, h2⟩, h3⟩, (hd.symm.trans (due_app_int [a]).symm), rfl⟩⟩
          refine ⟨oddsL, rfl, by decide, by decide, fun v hv => ?_⟩
          exact hN _ ⟨q, a, v, c, _, _, ⟨h1, .inr (odd_of hv), h3⟩, (due_app_odd (odd_of hv) [a] hd).symm, rfl⟩
        · simp? only [wpPull]
          refine ⟨⟨by decide, by decide⟩, fun x x0 x1 => if_c (fun _ => ?_) fun _ => hN _ ⟨q, a, .int b, c, _, _, ⟨h1, .inl ⟨b, rfl, h2⟩, h3⟩, (hd.symm.trans (due_app_int [a]).symm), rfl⟩⟩
          refine ⟨oddsL, rfl, by decide, by decide, fun v hv => ?_⟩
          exact hN _ ⟨q, a, v, c, _, _, ⟨h1, .inr (odd_of hv), h3⟩, (due_app_tup [a] hd).symm, rfl⟩) ?_)
      rintro ρ ⟨q, a, b, c, u, dv, ⟨h1, h2, h3⟩, hdv, rfl⟩
      refine (loop_of (fun ρ => ∃ (q : Addr) (a b c : D) (u : Option SV) (dv : D), (PartV a ∧ PartV b ∧ PartV c) ∧ dv = dueOf [a, b, c] ∧ ρ = [some (.d (.lst (ns.map D.int))), some (.d .bag), some (.d (.int 1000000000000)), some (.d (.lst oddsL)), some (.lst q [a, b, c]), some (.d dv), u, none, none, none, none, none, none, none, none, none]) (fun N hN => by
        rcases due_or [a, b] with hd | ⟨w9, hd⟩ <;> rw [hd] at hdv <;> subst hdv
        · simp? only [wpPull]
          refine ⟨⟨by decide, by decide⟩, fun x x0 x1 => if_c (fun _ => ?_) fun _ => hN _ ⟨q, a, b, .int c, _, _, ⟨h1, h2, .inl ⟨c, rfl, h3⟩⟩, (hd.symm.trans (due_app_int [a, b]).symm), rfl⟩⟩
          refine ⟨oddsL, rfl, by decide, by decide, fun v hv => ?_⟩
          exact hN _ ⟨q, a, b, v, _, _, ⟨h1, h2, .inr (odd_of hv)⟩, (due_app_odd (odd_of hv) [a, b] hd).symm, rfl⟩
        · simp? only [wpPull]
          refine ⟨⟨by decide, by decide⟩, fun x x0 x1 => if_c (fun _ => ?_) fun _ => hN _ ⟨q, a, b, .int c, _, _, ⟨h1, h2, .inl ⟨c, rfl, h3⟩⟩, (hd.symm.trans (due_app_int [a, b]).symm), rfl⟩⟩
          refine ⟨oddsL, rfl, by decide, by decide, fun v hv => ?_⟩
          exact hN _ ⟨q, a, b, v, _, _, ⟨h1, h2, .inr (odd_of hv)⟩, (due_app_tup [a, b] hd).symm, rfl⟩) ?_)
      exact fun ρ hρ => loop_nil (hN9 _ hρ)
    rintro ρ ⟨q, a, b, c, u, dv, ⟨h1, h2, h3⟩, hdv, rfl⟩
    simp only [dFrz, lk, List.set_cons_succ, List.set_cons_zero]
    have hall : ∀ v ∈ [a, b, c], PartV v := fun v hv => by
      simp only [List.mem_cons, List.not_mem_nil, or_false] at hv
      rcases hv with rfl | rfl | rfl <;> assumption
    refine seq_of (fun ρ => ∃ (vs : List D) (dv tl : D) (u : Option SV), ((dv = .non ∧ ∃ x y t : Int, vs = [.int x, .int y, .int t] ∧ tl = .tup [.str "value", .tup [.int x, .int y, .int (t % 4), .int 0]]) ∨ (∃ w : D, OddV w ∧ dv = .tup [.str "InvalidNumber", w] ∧ tl = dv)) ∧ ρ = [some (.d (.lst (ns.map D.int))), some (.d .bag), some (.d (.int 1000000000000)), some (.d (.lst oddsL)), some (.d (.lst vs)), some (.d dv), u, some (.d tl), none, none, none, none, none, none, none, none]) (fun N hN => by
      walk_at "dls"
      rcases due_or [a, b, c] with hd | ⟨w9, hd⟩
      · obtain ⟨x, rfl, x0, x1⟩ := due_non hall hd a (by simp)
        obtain ⟨y, rfl, y0, y1⟩ := due_non hall hd b (by simp)
        obtain ⟨t, rfl, t0, t1⟩ := due_non hall hd c (by simp)
        refine mvx_int (made_ok (by unfold absI; split <;> omega) (by unfold absI; split <;> omega) ?_)
        simp only [Mv.fs, Mv.l, bI, Bool.false_eq_true, if_false]
        walk_at "dls"
        exact hN _ ⟨_, _, _, _, .inl ⟨hdv.trans hd, x, y, t, rfl, rfl⟩, rfl⟩
      · refine mvx_due h1 h2 h3 hd (ed_num ?_)
        exact hN _ ⟨_, _, _, _, .inr ⟨w9, due_is hall hd, hdv.trans hd, (hdv.trans hd).symm⟩, rfl⟩) ?_
    rintro ρ ⟨vs, dv, tl, u, hh, rfl⟩
    refine seq_of (fun ρ => ∃ (vs : List D) (tl : D) (u : Option SV), tl.isData 3 = true ∧ tl.few = true ∧ ρ = [some (.d (.lst (ns.map D.int))), some (.d .bag), some (.d (.int 1000000000000)), some (.d (.lst oddsL)), some (.d (.lst vs)), some (.d tl), u, some (.d tl), none, none, none, none, none, none, none, none]) (fun N hN => by
      rcases hh with ⟨rfl, x, y, t, rfl, rfl⟩ | ⟨w, ow, rfl, rfl⟩
      · walk_at "dls"
        exact ⟨by decide, hN _ ⟨_, _, _, rfl, rfl, rfl⟩⟩
      · walk_at "dls"
        exact hN _ ⟨_, _, _, due_data ow, due_few ow, rfl⟩) ?_
    rintro ρ ⟨vs, tl, u, td, tf, rfl⟩
    refine seq_eq [some (.d (.lst (ns.map D.int))), some (.d .bag), some (.d (.int 1000000000000)), some (.d (.lst oddsL)), some (.d (.lst vs)), some (.d tl), u, some (.d tl), none, none, none, none, none, none, none, none] (fun N hN => by
      simp? only [wpSame]
      refine ⟨td, td, tf, ?_⟩
      rw [sameD_refl 3 _ td]
      exact hN) ?_
    refine seq_of (fun ρ => ∃ (v4 v5 v6 v7 : Option SV) (sg : Int), (sg = 1 ∨ sg = -1) ∧ ρ = [some (.d (.lst (ns.map D.int))), some (.d .bag), some (.d (.int 1000000000000)), some (.d (.lst oddsL)), v4, v5, v6, v7, some (.d (.int sg)), none, none, none, none, none, none, none]) (fun N hN => by
      simp? only [wpPull]
      exact ⟨⟨by decide, by decide⟩, fun x x0 x1 => ⟨.inl ⟨by decide, by decide⟩, hN _ ⟨_, _, _, _, _, by omega, rfl⟩⟩⟩) ?_
    rintro ρ ⟨v4, v5, v6, v7, sg, hs, rfl⟩
    refine seq_of (fun ρ => ∃ fr : Int, 999999999999 ≤ fr ∧ fr ≤ 1000000000001 ∧ ρ = [some (.d (.lst (ns.map D.int))), some (.d .bag), some (.d (.int 1000000000000)), some (.d (.lst oddsL)), v4, v5, v6, v7, some (.d (.int sg)), some (.d (.int fr)), none, none, none, none, none, none]) (fun N hN => by
      simp? only [wpPull]
      exact ⟨⟨by decide, by decide⟩, fun x x0 x1 => hN _ ⟨_, by omega, by omega, rfl⟩⟩) ?_
    rintro ρ ⟨fr, f0, f1, rfl⟩
    have cm : CMul sg fr := .inl ⟨by omega, by omega⟩
    refine seq_eq [some (.d (.lst (ns.map D.int))), some (.d .bag), some (.d (.int 1000000000000)), some (.d (.lst oddsL)), v4, v5, v6, v7, some (.d (.int sg)), some (.d (.int fr)), some (.d (.tup [.str "TooLarge", .tup [.str "shift", .int fr, .int 1000000000000]])), none, none, none, none, none] (fun N hN => by
      walk_at "dls"
      exact hN) ?_
    refine seq_eq [some (.d (.lst (ns.map D.int))), some (.d .bag), some (.d (.int 1000000000000)), some (.d (.lst oddsL)), v4, v5, v6, v7, some (.d (.int sg)), some (.d (.int fr)), some (.d (.tup [.str "TooLarge", .tup [.str "shift", .int fr, .int 1000000000000]])), none, none, none, none, none] (fun N hN => by
      simp? only [wpSame]
      refine ⟨cm, mvx_int ?_⟩
      by_cases h : 1000000000000 < fr
      · refine made_x (by rw [abs_sg hs (by omega)]; exact h) (ed_large ?_)
        rw [abs_sg hs (by omega)]
        exact if_y h ⟨rfl, rfl, if_n (by rw [sameD_refl 3 _ rfl]; decide) hN⟩
      · refine made_ok (by rw [abs_sg hs (by omega)]; omega) (by decide) ?_
        simp only [Mv.fs, Mv.l, bI, Bool.false_eq_true, if_false, Int.zero_emod]
        simp? only [wpSame]
        exact if_n h ⟨cm, rfl, if_n (by rw [sameD_refl 3 _ rfl]; decide) hN⟩) ?_
    refine seq_eq [some (.d (.lst (ns.map D.int))), some (.d .bag), some (.d (.int 1000000000000)), some (.d (.lst oddsL)), v4, v5, v6, v7, some (.d (.int sg)), some (.d (.int fr)), some (.d (.tup [.str "TooLarge", .tup [.str "shift", .int fr, .int 1000000000000]])), none, none, none, none, none] (fun N hN => by
      simp? only [wpSame]
      refine ⟨cm, mvx_int ?_⟩
      by_cases h : 1000000000000 < fr
      · refine made_y (by decide) (by rw [abs_sg hs (by omega)]; exact h) (ed_large ?_)
        rw [abs_sg hs (by omega)]
        exact if_y h ⟨rfl, rfl, if_n (by rw [sameD_refl 3 _ rfl]; decide) hN⟩
      · refine made_ok (by decide) (by rw [abs_sg hs (by omega)]; omega) ?_
        simp only [Mv.fs, Mv.l, bI, Bool.false_eq_true, if_false, Int.zero_emod]
        simp? only [wpSame]
        exact if_n h ⟨cm, rfl, if_n (by rw [sameD_refl 3 _ rfl]; decide) hN⟩) ?_
    refine seq_of (fun ρ => ∃ nr : Int, 1 ≤ nr ∧ nr ≤ 1000000 ∧ ρ = [some (.d (.lst (ns.map D.int))), some (.d .bag), some (.d (.int 1000000000000)), some (.d (.lst oddsL)), v4, v5, v6, v7, some (.d (.int sg)), some (.d (.int fr)), some (.d (.tup [.str "TooLarge", .tup [.str "shift", .int fr, .int 1000000000000]])), some (.d (.int nr)), none, none, none, none]) (fun N hN => by
      simp? only [wpPull]
      refine ⟨⟨by decide, by decide, by decide⟩, ⟨by decide, by decide⟩, fun x x0 x1 => hN _ ⟨1 + x, by omega, ?_, rfl⟩⟩
      have e : (10 : Int) ^ Int.toNat 6 = 1000000 := by decide
      omega) ?_
    rintro ρ ⟨nr, n0, n1, rfl⟩
    have cm2 : CMul sg (fr - nr) := .inl ⟨by omega, by omega⟩
    have cm3 : CMul sg nr := .inl ⟨by omega, by omega⟩
    refine seq_eq [some (.d (.lst (ns.map D.int))), some (.d .bag), some (.d (.int 1000000000000)), some (.d (.lst oddsL)), v4, v5, v6, v7, some (.d (.int sg)), some (.d (.int fr)), some (.d (.tup [.str "TooLarge", .tup [.str "shift", .int fr, .int 1000000000000]])), some (.d (.int nr)), some (.d (.ins C_Move (Mv.mk (sg * (fr - nr)) 0 0 0).fs)), none, none, none] (fun N hN => by
      walk_at "dls"
      refine ⟨cm2, mvx_int (made_ok (by rw [abs_sg hs (by omega)]; omega) (by decide) ?_)⟩
      simp only [bI, Bool.false_eq_true, if_false, Int.zero_emod]
      exact hN) ?_
    refine seq_of (fun ρ => ∃ tl : D, ((1000000000000 < fr ∧ tl = .tup [.str "TooLarge", .tup [.str "shift", .int fr, .int 1000000000000]]) ∨ (¬ 1000000000000 < fr ∧ tl = .tup [.str "value", .tup [.int (sg * fr), .int 0, .int 0, .int 0]])) ∧ ρ = [some (.d (.lst (ns.map D.int))), some (.d .bag), some (.d (.int 1000000000000)), some (.d (.lst oddsL)), v4, v5, v6, some (.d tl), some (.d (.int sg)), some (.d (.int fr)), some (.d (.tup [.str "TooLarge", .tup [.str "shift", .int fr, .int 1000000000000]])), some (.d (.int nr)), some (.d (.ins C_Move (Mv.mk (sg * (fr - nr)) 0 0 0).fs)), none, none, none]) (fun N hN => by
      walk_at "dls"
      refine ⟨cm3, mvx_int (made_ok (by rw [abs_sg hs (by omega)]; omega) (by decide) ?_)⟩
      simp only [bI, Bool.false_eq_true, if_false, Int.zero_emod]
      refine ⟨_, _, rfl, ⟨flat_ok, flat_ok⟩, ?_⟩
      have e : (Mv.mk (sg * (fr - nr)) 0 0 0).mul (Mv.mk (sg * nr) 0 0 0) = Mv.mk (sg * fr) 0 0 0 := by
        have e2 : sg * nr + sg * (fr - nr) = sg * fr := by rw [← Int.mul_add]; congr 1; omega
        simp only [Mv.mul, turnP]
        simp [e2]
      rw [e]
      by_cases h : 1000000000000 < fr
      · refine made_x (by dsimp only; rw [abs_sg hs (by omega)]; exact h) (ed_large ?_)
        dsimp only
        rw [abs_sg hs (by omega)]
        exact hN _ ⟨_, .inl ⟨h, rfl⟩, rfl⟩
      · refine made_ok (by dsimp only; rw [abs_sg hs (by omega)]; omega) (by show absI 0 ≤ _; decide) ?_
        simp only [Mv.fs, Mv.l]
        walk_at "dls"
        exact hN _ ⟨_, .inr ⟨h, rfl⟩, rfl⟩) ?_
    rintro ρ ⟨tl2, ht2, rfl⟩
    refine seq_eq [some (.d (.lst (ns.map D.int))), some (.d .bag), some (.d (.int 1000000000000)), some (.d (.lst oddsL)), v4, v5, v6, some (.d tl2), some (.d (.int sg)), some (.d (.int fr)), some (.d (.tup [.str "TooLarge", .tup [.str "shift", .int fr, .int 1000000000000]])), some (.d (.int nr)), some (.d (.ins C_Move (Mv.mk (sg * (fr - nr)) 0 0 0).fs)), none, none, none] (fun N hN => by
      rcases ht2 with ⟨h, rfl⟩ | ⟨h, rfl⟩
      · simp? only [wpSame]
        exact if_y h ⟨rfl, if_n (by rw [sameD_refl 3 _ rfl]; decide) hN⟩
      · simp? only [wpSame]
        exact if_n h ⟨cm, rfl, if_n (by rw [sameD_refl 3 _ rfl]; decide) hN⟩) ?_
    refine seq_of (fun ρ => ∃ v : D, OddV v ∧ ρ = [some (.d (.lst (ns.map D.int))), some (.d .bag), some (.d (.int 1000000000000)), some (.d (.lst oddsL)), v4, v5, v6, some (.d tl2), some (.d (.int sg)), some (.d (.int fr)), some (.d (.tup [.str "TooLarge", .tup [.str "shift", .int fr, .int 1000000000000]])), some (.d (.int nr)), some (.d (.ins C_Move (Mv.mk (sg * (fr - nr)) 0 0 0).fs)), some (.d v), none, none]) (fun N hN => by
      walk_at "dls"
      exact ⟨oddsL, rfl, by decide, by decide, fun v hv => hN _ ⟨v, odd_of hv, rfl⟩⟩) ?_
    rintro ρ ⟨v, ov, rfl⟩
    refine seq_eq [some (.d (.lst (ns.map D.int))), some (.d .bag), some (.d (.int 1000000000000)), some (.d (.lst oddsL)), v4, v5, v6, some (.d tl2), some (.d (.int sg)), some (.d (.int fr)), some (.d (.tup [.str "TooLarge", .tup [.str "shift", .int fr, .int 1000000000000]])), some (.d (.int nr)), some (.d (.ins C_Move (Mv.mk (sg * (fr - nr)) 0 0 0).fs)), some (.d v), none, none] (fun N hN => by
      simp? only [wpSame]
      refine ⟨rfl, _, v, rfl, ⟨flat_ok, ov.sc, ?_⟩, ?_⟩
      · exact ⟨by constructor <;> (unfold BM; dsimp only; rcases hs with rfl | rfl <;> omega), by constructor <;> (dsimp only; decide)⟩
      · rw [if_pos ov.no]
        refine ed_num ?_
        have d3 := due_data (s := "InvalidNumber") ov
        exact ⟨d3, isData_le ov.da (by decide), due_few ov, if_n (by rw [sameD_refl 3 _ d3]; decide) hN⟩) ?_
    refine seq_eq [some (.d (.lst (ns.map D.int))), some (.d .bag), some (.d (.int 1000000000000)), some (.d (.lst oddsL)), v4, v5, v6, some (.d tl2), some (.d (.int sg)), some (.d (.int fr)), some (.d (.tup [.str "TooLarge", .tup [.str "shift", .int fr, .int 1000000000000]])), some (.d (.int nr)), some (.d (.ins C_Move (Mv.mk (sg * (fr - nr)) 0 0 0).fs)), some (.d v), some (.d (.tup [.str "TooLarge", .tup [.str "shift", .int (1000000000000 + 5), .int 1000000000000]])), none] (fun N hN => by
      walk_at "dls"
      refine mvx_int (made_x (by decide) (ed_large ?_))
      exact hN) ?_
    refine seq_eq [some (.d (.lst (ns.map D.int))), some (.d .bag), some (.d (.int 1000000000000)), some (.d (.lst oddsL)), v4, v5, v6, some (.d tl2), some (.d (.int sg)), some (.d (.int fr)), some (.d (.tup [.str "TooLarge", .tup [.str "shift", .int fr, .int 1000000000000]])), some (.d (.int nr)), some (.d (.ins C_Move (Mv.mk (sg * (fr - nr)) 0 0 0).fs)), some (.d v), some (.d (.tup [.str "TooLarge", .tup [.str "shift", .int (1000000000000 + 5), .int 1000000000000]])), none] (fun N hN => by
      simp? only [wpSame]
      exact ⟨rfl, if_n (by rw [sameD_refl 3 _ rfl]; decide) hN⟩) ?_
    refine seq_of (fun ρ => ∃ mn : Int, 3999999999 ≤ mn ∧ mn ≤ 4000000001 ∧ ρ = [some (.d (.lst (ns.map D.int))), some (.d .bag), some (.d (.int 1000000000000)), some (.d (.lst oddsL)), v4, v5, v6, some (.d tl2), some (.d (.int sg)), some (.d (.int fr)), some (.d (.tup [.str "TooLarge", .tup [.str "shift", .int fr, .int 1000000000000]])), some (.d (.int nr)), some (.d (.ins C_Move (Mv.mk (sg * (fr - nr)) 0 0 0).fs)), some (.d v), some (.d (.tup [.str "TooLarge", .tup [.str "shift", .int (1000000000000 + 5), .int 1000000000000]])), some (.d (.int mn))]) (fun N hN => by
      simp? only [wpPull]
      have e : (10 : Int) ^ Int.toNat 9 = 1000000000 := by decide
      refine ⟨⟨by decide, by decide, by decide⟩, .inl ⟨by decide, by decide⟩, ⟨by decide, by decide⟩, fun x x0 x1 => hN _ ⟨_, ?_, ?_, rfl⟩⟩ <;> omega) ?_
    rintro ρ ⟨mn, m0, m1, rfl⟩
    have cm9 : CMul mn 250 := .inl ⟨by omega, by omega⟩
    have ez : (Mv.mk 0 250 0 0).zpow mn = Mv.mk 0 (mn * 250) 0 0 := by
      unfold Mv.zpow
      rw [if_pos (by omega), flat_pow, Int.toNat_of_nonneg (by omega), Int.mul_comm]
    have am : absI (mn * 250) = mn * 250 := by unfold absI; rw [if_neg (by omega)]
    refine seq_of (fun ρ => ∃ tl : D, ((1000000000000 < mn * 250 ∧ tl = .tup [.str "TooLarge", .tup [.str "shift", .int (mn * 250), .int 1000000000000]]) ∨ (¬ 1000000000000 < mn * 250 ∧ tl = .tup [.str "value", .tup [.int 0, .int (mn * 250), .int 0, .int 0]])) ∧ ρ = [some (.d (.lst (ns.map D.int))), some (.d .bag), some (.d (.int 1000000000000)), some (.d (.lst oddsL)), v4, v5, v6, some (.d tl), some (.d (.int sg)), some (.d (.int fr)), some (.d (.tup [.str "TooLarge", .tup [.str "shift", .int fr, .int 1000000000000]])), some (.d (.int nr)), some (.d (.ins C_Move (Mv.mk (sg * (fr - nr)) 0 0 0).fs)), some (.d v), some (.d (.tup [.str "TooLarge", .tup [.str "shift", .int (1000000000000 + 5), .int 1000000000000]])), some (.d (.int mn))]) (fun N hN => by
      walk_at "dls"
      refine mvx_int (made_ok (by decide) (by decide) ?_)
      simp only [bI, Bool.false_eq_true, if_false, Int.zero_emod]
      refine ⟨rfl, _, _, rfl, ⟨flat_ok, .inl ⟨_, rfl⟩, ⟨⟨by decide, by decide⟩, by decide, by decide⟩⟩, ?_⟩
      rw [if_neg (by simp [wholeD])]
      intro n en
      cases en
      rw [ez]
      by_cases h : 1000000000000 < mn * 250
      · refine made_y (by show absI 0 ≤ _; decide) (by dsimp only; rw [am]; exact h) (ed_large ?_)
        dsimp only
        rw [am]
        exact hN _ ⟨_, .inl ⟨h, rfl⟩, rfl⟩
      · refine made_ok (by show absI 0 ≤ _; decide) (by dsimp only; rw [am]; omega) ?_
        simp only [Mv.fs, Mv.l]
        walk_at "dls"
        exact hN _ ⟨_, .inr ⟨h, rfl⟩, rfl⟩) ?_
    rintro ρ ⟨tl3, ht3, rfl⟩
    rcases ht3 with ⟨h, rfl⟩ | ⟨h, rfl⟩
    · simp? only [wpSame]
      refine ⟨cm9, if_y h ⟨cm9, rfl, ?_⟩⟩
      rw [sameD_refl 3 _ rfl]
      exact hw
    · simp? only [wpSame]
      refine ⟨cm9, if_n h ⟨cm9, rfl, ?_⟩⟩
      rw [sameD_refl 3 _ rfl]
      exact hw
end
theorem all_mk {l : PySem.W.OpenLaw} {w : World} {K : PySem.W.Frag} {h : Heap} {mg : Str → Option Value} {fa : Addr} (X : K.In h) (G : h.Ns mainGlobals mg) (hfa : mg "law" = some (.ref fa))
    {C_Absent : Addr} {C_CurveError : Addr} {C_InvalidNumber : Addr} {C_Move : Addr} {C_TooLarge : Addr} {t_MOST_SHIFT : Tok} {f_InvalidNumber cda_InvalidNumber cc_InvalidNumber : Addr} {od_InvalidNumber an_InvalidNumber cdd_InvalidNumber kd_InvalidNumber : Option Addr} {sl_InvalidNumber ccs_InvalidNumber ks_InvalidNumber : Array (Option Value)} {oc_InvalidNumber kV_InvalidNumber dc_InvalidNumber pm_InvalidNumber ct_InvalidNumber ccl_InvalidNumber kl_InvalidNumber : Value} {vs_InvalidNumber : Array Value} {fl_InvalidNumber : Str} {ft_InvalidNumber : Tok} {f_TooLarge cda_TooLarge cc_TooLarge : Addr} {od_TooLarge an_TooLarge cdd_TooLarge kd_TooLarge : Option Addr} {sl_TooLarge ccs_TooLarge ks_TooLarge : Array (Option Value)} {oc_TooLarge kV_TooLarge dc_TooLarge pm_TooLarge ct_TooLarge ccl_TooLarge kl_TooLarge : Value} {vs_TooLarge : Array Value} {fl_TooLarge : Str} {ft_TooLarge : Tok} {f_turned_point : Addr} {od_turned_point an_turned_point : Option Addr} {sl_turned_point : Array (Option Value)} {oc_turned_point kV_turned_point dc_turned_point pm_turned_point cd_turned_point ct_turned_point : Value} {f_is_whole : Addr} {od_is_whole an_is_whole : Option Addr} {sl_is_whole : Array (Option Value)} {oc_is_whole kV_is_whole dc_is_whole pm_is_whole cd_is_whole ct_is_whole : Value} {f_combined : Addr} {od_combined an_combined : Option Addr} {sl_combined : Array (Option Value)} {oc_combined kV_combined dc_combined pm_combined cd_combined ct_combined : Value} {f_inverted : Addr} {od_inverted an_inverted : Option Addr} {sl_inverted : Array (Option Value)} {oc_inverted kV_inverted dc_inverted pm_inverted cd_inverted ct_inverted : Value} {f_repeated : Addr} {od_repeated an_repeated : Option Addr} {sl_repeated : Array (Option Value)} {oc_repeated kV_repeated dc_repeated pm_repeated cd_repeated ct_repeated : Value} {f_Move___init__ : Addr} {od_Move___init__ an_Move___init__ : Option Addr} {sl_Move___init__ : Array (Option Value)} {oc_Move___init__ kV_Move___init__ dc_Move___init__ pm_Move___init__ cd_Move___init__ ct_Move___init__ : Value} {D_Move___init__ : Addr} {oo_Move___init__ : Option Addr} {ol_Move___init__ : Array (Option Value)} {ob_Move___init__ : Value} {m_Move___init__ : Nat} {u0_Move___init__ : Tok} {u1_Move___init__ : Tok} {u2_Move___init__ : Tok} {f_Move___mul__ : Addr} {od_Move___mul__ an_Move___mul__ : Option Addr} {sl_Move___mul__ : Array (Option Value)} {oc_Move___mul__ kV_Move___mul__ dc_Move___mul__ pm_Move___mul__ cd_Move___mul__ ct_Move___mul__ : Value} {f_Move_power : Addr} {od_Move_power an_Move_power : Option Addr} {sl_Move_power : Array (Option Value)} {oc_Move_power kV_Move_power dc_Move_power pm_Move_power cd_Move_power ct_Move_power : Value} {f_law_bag : Addr} {od_law_bag an_law_bag : Option Addr} {sl_law_bag : Array (Option Value)} {oc_law_bag kV_law_bag dc_law_bag pm_law_bag cd_law_bag ct_law_bag : Value} {f_law_pull : Addr} {od_law_pull an_law_pull : Option Addr} {sl_law_pull : Array (Option Value)} {oc_law_pull kV_law_pull dc_law_pull pm_law_pull cd_law_pull ct_law_pull : Value} {f_law_of : Addr} {od_law_of an_law_of : Option Addr} {sl_law_of : Array (Option Value)} {oc_law_of kV_law_of dc_law_of pm_law_of cd_law_of ct_law_of : Value} {f_law_small : Addr} {od_law_small an_law_small : Option Addr} {sl_law_small : Array (Option Value)} {oc_law_small kV_law_small dc_law_small pm_law_small cd_law_small ct_law_small : Value} {f_law_same : Addr} {od_law_same an_law_same : Option Addr} {sl_law_same : Array (Option Value)} {oc_law_same kV_law_same dc_law_same pm_law_same cd_law_same ct_law_same : Value} {f_law_other_field : Addr} {od_law_other_field an_law_other_field : Option Addr} {sl_law_other_field : Array (Option Value)} {oc_law_other_field kV_law_other_field dc_law_other_field pm_law_other_field cd_law_other_field ct_law_other_field : Value} {f_law_field : Addr} {od_law_field an_law_field : Option Addr} {sl_law_field : Array (Option Value)} {oc_law_field kV_law_field dc_law_field pm_law_field cd_law_field ct_law_field : Value} {f_law_why : Addr} {od_law_why an_law_why : Option Addr} {sl_law_why : Array (Option Value)} {oc_law_why kV_law_why dc_law_why pm_law_why cd_law_why ct_law_why : Value} {f_law : Addr} {od_law an_law : Option Addr} {sl_law : Array (Option Value)} {oc_law kV_law dc_law pm_law ct_law : Value} {c_law Pt_law : Addr} {ocl : Value} {ocd : Option Addr} {ovs : Array Value} {osl : Array (Option Value)}
    (x_Absent : PySem.W.nsIn K mainGlobals "Absent" = some (some (.ref C_Absent)))
    (x_CurveError : PySem.W.nsIn K mainGlobals "CurveError" = some (some (.ref C_CurveError)))
    (x_InvalidNumber : PySem.W.nsIn K mainGlobals "InvalidNumber" = some (some (.ref C_InvalidNumber)))
    (x_Move : PySem.W.nsIn K mainGlobals "Move" = some (some (.ref C_Move)))
    (x_TooLarge : PySem.W.nsIn K mainGlobals "TooLarge" = some (some (.ref C_TooLarge)))
    (a_Move_parts : PySem.W.findIn K (.ref C_Move) "parts" = some none)
    (pg_Move : PySem.W.plainGet K C_Move Str.empty = true)
    (hd_Move : PySem.W.hasDictIn K C_Move = true)
    (po_Move : PySem.W.plainOver K C_Move = true)
    (sa_Move : PySem.W.findIn K (.ref C_Move) "__setattr__" = some (some (.builtin "object.__setattr__")))
    (k_MOST_SHIFT : PySem.W.nsIn K mainGlobals "MOST_SHIFT" = some (some (.int 1000000000000 t_MOST_SHIFT)))
    (n_abs : PySem.W.nsIn K mainGlobals "abs" = some none)
    (n_all : PySem.W.nsIn K mainGlobals "all" = some none)
    (n_bool : PySem.W.nsIn K mainGlobals "bool" = some none)
    (n_int : PySem.W.nsIn K mainGlobals "int" = some none)
    (n_isinstance : PySem.W.nsIn K mainGlobals "isinstance" = some none)
    (n_len : PySem.W.nsIn K mainGlobals "len" = some none)
    (n_list : PySem.W.nsIn K mainGlobals "list" = some none)
    (n_range : PySem.W.nsIn K mainGlobals "range" = some none)
    (n_str : PySem.W.nsIn K mainGlobals "str" = some none)
    (n_tuple : PySem.W.nsIn K mainGlobals "tuple" = some none)
    (n_zip : PySem.W.nsIn K mainGlobals "zip" = some none)
    (ha_Move : PySem.W.findIn K (.ref C_Move) "__class__" = some (some (.builtin "object.__class__")))
    (hn_Move : PySem.W.specialIn K (.builtin "object.__class__") "__get__" = some (some (.builtin "getset_descriptor.__get__")))
    (ht_Move : PySem.W.takesIn K (.builtin "object.__class__") = some true)
    (ho_Move : PySem.W.mroIn K C_Move (.type "object") = some true)
    (n_super : PySem.W.nsIn K mainGlobals "super" = some none)
    (tp_ : PySem.W.nsIn K cStatics "thirdparty.any" = some none)
    (dec_top : (l.prog.main.scope.names.lookup ("super" : Str)).isSome = false)
    (sa_InvalidNumber : PySem.W.findIn K (.ref C_InvalidNumber) "__setattr__" = some (some (.builtin "object.__setattr__")))
    (kxov_InvalidNumber : PySem.W.excOver K C_InvalidNumber [.type "ValueError", .type "Exception", .type "BaseException", .type "object"] = true)
    (hd_InvalidNumber : PySem.W.hasDictIn K C_InvalidNumber = true)
    (kxin_InvalidNumber : PySem.W.excInitIn K C_InvalidNumber [.type "ValueError", .type "Exception", .type "BaseException", .type "object"] "ValueError.__new__" = true)
    (be_InvalidNumber : PySem.W.subIn K (.ref C_InvalidNumber) (.type "BaseException") = some true)
    (bb_InvalidNumber : PySem.W.subIn K (.ref C_InvalidNumber) (.type "ValueError") = some true)
    (ty_InvalidNumber : PySem.W.typeIn K (.ref C_InvalidNumber) = some (.type "type"))
    (kc_InvalidNumber : PySem.W.keepIn K (.ref C_InvalidNumber) = true)
    (kssu_InvalidNumber : PySem.W.ks_superIn K C_InvalidNumber C_InvalidNumber "__init__" = some (some (.builtin "ValueError.__init__")))
    (ow_InvalidNumber : PySem.W.mroIn K C_InvalidNumber (.ref C_InvalidNumber) = some true)
    (ii_InvalidNumber : PySem.W.findIn K (.ref C_InvalidNumber) "__init__" = some (some (.ref f_InvalidNumber)))
    (if_InvalidNumber : PySem.W.isFn K (.ref f_InvalidNumber) = true)
    (l_InvalidNumber : K.lookup f_InvalidNumber = some ⟨oc_InvalidNumber, od_InvalidNumber, .func (PySem.W.ksFn "__init__" "InvalidNumber.__init__" (defArgs s_InvalidNumber___init__) (defBody s_InvalidNumber___init__) (defScope s_InvalidNumber___init__) .none kV_InvalidNumber dc_InvalidNumber pm_InvalidNumber an_InvalidNumber (.ref cda_InvalidNumber) ct_InvalidNumber cc_InvalidNumber), sl_InvalidNumber⟩)
    (d_InvalidNumber : PySem.W.codeIn K (.ref cda_InvalidNumber) "InvalidNumber.__init__" = true)
    (lc_InvalidNumber : K.lookup cda_InvalidNumber = some ⟨ccl_InvalidNumber, cdd_InvalidNumber, .fields vs_InvalidNumber, ccs_InvalidNumber⟩)
    (rfla_InvalidNumber : vs_InvalidNumber[2]? = some (.str fl_InvalidNumber ft_InvalidNumber))
    (dec_InvalidNumber : ((l.prog.main.file : Str) == fl_InvalidNumber) = true)
    (le_InvalidNumber : K.lookup cc_InvalidNumber = some ⟨kl_InvalidNumber, kd_InvalidNumber, .cell (some (.ref C_InvalidNumber)), ks_InvalidNumber⟩)
    (tk_InvalidNumber_code : PySem.W.takerIn K C_InvalidNumber "code" = some none)
    (tk_InvalidNumber_value : PySem.W.takerIn K C_InvalidNumber "value" = some none)
    (sa_TooLarge : PySem.W.findIn K (.ref C_TooLarge) "__setattr__" = some (some (.builtin "object.__setattr__")))
    (kxov_TooLarge : PySem.W.excOver K C_TooLarge [.type "ValueError", .type "Exception", .type "BaseException", .type "object"] = true)
    (hd_TooLarge : PySem.W.hasDictIn K C_TooLarge = true)
    (kxin_TooLarge : PySem.W.excInitIn K C_TooLarge [.type "ValueError", .type "Exception", .type "BaseException", .type "object"] "ValueError.__new__" = true)
    (be_TooLarge : PySem.W.subIn K (.ref C_TooLarge) (.type "BaseException") = some true)
    (bb_TooLarge : PySem.W.subIn K (.ref C_TooLarge) (.type "ValueError") = some true)
    (ty_TooLarge : PySem.W.typeIn K (.ref C_TooLarge) = some (.type "type"))
    (kc_TooLarge : PySem.W.keepIn K (.ref C_TooLarge) = true)
    (kssu_TooLarge : PySem.W.ks_superIn K C_TooLarge C_TooLarge "__init__" = some (some (.builtin "ValueError.__init__")))
    (ow_TooLarge : PySem.W.mroIn K C_TooLarge (.ref C_TooLarge) = some true)
    (ii_TooLarge : PySem.W.findIn K (.ref C_TooLarge) "__init__" = some (some (.ref f_TooLarge)))
    (if_TooLarge : PySem.W.isFn K (.ref f_TooLarge) = true)
    (l_TooLarge : K.lookup f_TooLarge = some ⟨oc_TooLarge, od_TooLarge, .func (PySem.W.ksFn "__init__" "TooLarge.__init__" (defArgs s_TooLarge___init__) (defBody s_TooLarge___init__) (defScope s_TooLarge___init__) .none kV_TooLarge dc_TooLarge pm_TooLarge an_TooLarge (.ref cda_TooLarge) ct_TooLarge cc_TooLarge), sl_TooLarge⟩)
    (d_TooLarge : PySem.W.codeIn K (.ref cda_TooLarge) "TooLarge.__init__" = true)
    (lc_TooLarge : K.lookup cda_TooLarge = some ⟨ccl_TooLarge, cdd_TooLarge, .fields vs_TooLarge, ccs_TooLarge⟩)
    (rfla_TooLarge : vs_TooLarge[2]? = some (.str fl_TooLarge ft_TooLarge))
    (dec_TooLarge : ((l.prog.main.file : Str) == fl_TooLarge) = true)
    (le_TooLarge : K.lookup cc_TooLarge = some ⟨kl_TooLarge, kd_TooLarge, .cell (some (.ref C_TooLarge)), ks_TooLarge⟩)
    (tk_TooLarge_code : PySem.W.takerIn K C_TooLarge "code" = some none)
    (tk_TooLarge_what : PySem.W.takerIn K C_TooLarge "what" = some none)
    (tk_TooLarge_value : PySem.W.takerIn K C_TooLarge "value" = some none)
    (tk_TooLarge_limit : PySem.W.takerIn K C_TooLarge "limit" = some none)
    (be_CurveError : PySem.W.subIn K (.ref C_CurveError) (.type "BaseException") = some true)
    (ic_CurveError : PySem.W.isClsIn K C_CurveError = true)
    (ty_CurveError : PySem.W.typeIn K (.ref C_CurveError) = some (.type "type"))
    (be_Absent : PySem.W.subIn K (.ref C_Absent) (.type "BaseException") = some true)
    (ic_Absent : PySem.W.isClsIn K C_Absent = true)
    (ty_Absent : PySem.W.typeIn K (.ref C_Absent) = some (.type "type"))
    (su_InvalidNumber_CurveError : PySem.W.subIn K (.ref C_InvalidNumber) (.ref C_CurveError) = some true)
    (su_InvalidNumber_Absent : PySem.W.subIn K (.ref C_InvalidNumber) (.ref C_Absent) = some false)
    (ga_InvalidNumber : PySem.W.findIn K (.ref C_InvalidNumber) "__getattribute__" = some (some (.builtin "BaseException.__getattribute__")))
    (gg_InvalidNumber : PySem.W.findIn K (.ref C_InvalidNumber) "__getattr__" = some none)
    (nf_InvalidNumber_value : PySem.W.findIn K (.ref C_InvalidNumber) "value" = some none)
    (nf_InvalidNumber_code : PySem.W.findIn K (.ref C_InvalidNumber) "code" = some none)
    (su_TooLarge_CurveError : PySem.W.subIn K (.ref C_TooLarge) (.ref C_CurveError) = some true)
    (su_TooLarge_Absent : PySem.W.subIn K (.ref C_TooLarge) (.ref C_Absent) = some false)
    (ga_TooLarge : PySem.W.findIn K (.ref C_TooLarge) "__getattribute__" = some (some (.builtin "BaseException.__getattribute__")))
    (gg_TooLarge : PySem.W.findIn K (.ref C_TooLarge) "__getattr__" = some none)
    (nf_TooLarge_limit : PySem.W.findIn K (.ref C_TooLarge) "limit" = some none)
    (nf_TooLarge_value : PySem.W.findIn K (.ref C_TooLarge) "value" = some none)
    (nf_TooLarge_what : PySem.W.findIn K (.ref C_TooLarge) "what" = some none)
    (nf_TooLarge_code : PySem.W.findIn K (.ref C_TooLarge) "code" = some none)
    (g_turned_point : PySem.W.nsIn K mainGlobals "turned_point" = some (some (.ref f_turned_point)))
    (l_turned_point : K.lookup f_turned_point = some ⟨oc_turned_point, od_turned_point, .func (PySem.W.fnOf "turned_point" "turned_point" (defArgs s_turned_point) (defBody s_turned_point) (defScope s_turned_point) .none kV_turned_point dc_turned_point pm_turned_point an_turned_point cd_turned_point ct_turned_point), sl_turned_point⟩)
    (d_turned_point : PySem.W.codeIn K cd_turned_point "turned_point" = true)
    (p_turned_point : PySem.W.keepIn K (.ref f_turned_point) = true)
    (g_is_whole : PySem.W.nsIn K mainGlobals "is_whole" = some (some (.ref f_is_whole)))
    (l_is_whole : K.lookup f_is_whole = some ⟨oc_is_whole, od_is_whole, .func (PySem.W.fnOf "is_whole" "is_whole" (defArgs s_is_whole) (defBody s_is_whole) (defScope s_is_whole) .none kV_is_whole dc_is_whole pm_is_whole an_is_whole cd_is_whole ct_is_whole), sl_is_whole⟩)
    (d_is_whole : PySem.W.codeIn K cd_is_whole "is_whole" = true)
    (p_is_whole : PySem.W.keepIn K (.ref f_is_whole) = true)
    (g_combined : PySem.W.nsIn K mainGlobals "combined" = some (some (.ref f_combined)))
    (l_combined : K.lookup f_combined = some ⟨oc_combined, od_combined, .func (PySem.W.fnOf "combined" "combined" (defArgs s_combined) (defBody s_combined) (defScope s_combined) .none kV_combined dc_combined pm_combined an_combined cd_combined ct_combined), sl_combined⟩)
    (d_combined : PySem.W.codeIn K cd_combined "combined" = true)
    (p_combined : PySem.W.keepIn K (.ref f_combined) = true)
    (g_inverted : PySem.W.nsIn K mainGlobals "inverted" = some (some (.ref f_inverted)))
    (l_inverted : K.lookup f_inverted = some ⟨oc_inverted, od_inverted, .func (PySem.W.fnOf "inverted" "inverted" (defArgs s_inverted) (defBody s_inverted) (defScope s_inverted) .none kV_inverted dc_inverted pm_inverted an_inverted cd_inverted ct_inverted), sl_inverted⟩)
    (d_inverted : PySem.W.codeIn K cd_inverted "inverted" = true)
    (p_inverted : PySem.W.keepIn K (.ref f_inverted) = true)
    (g_repeated : PySem.W.nsIn K mainGlobals "repeated" = some (some (.ref f_repeated)))
    (l_repeated : K.lookup f_repeated = some ⟨oc_repeated, od_repeated, .func (PySem.W.fnOf "repeated" "repeated" (defArgs s_repeated) (defBody s_repeated) (defScope s_repeated) .none kV_repeated dc_repeated pm_repeated an_repeated cd_repeated ct_repeated), sl_repeated⟩)
    (d_repeated : PySem.W.codeIn K cd_repeated "repeated" = true)
    (p_repeated : PySem.W.keepIn K (.ref f_repeated) = true)
    (g_Move___init__ : PySem.W.findIn K (.ref C_Move) "__init__" = some (some (.ref f_Move___init__)))
    (i_Move___init__ : PySem.W.isFn K (.ref f_Move___init__) = true)
    (l_Move___init__ : K.lookup f_Move___init__ = some ⟨oc_Move___init__, od_Move___init__, .func (PySem.W.fnOf "__init__" "Move.__init__" (defArgs s_Move___init__) (defBody s_Move___init__) (defScope s_Move___init__) (.ref D_Move___init__) kV_Move___init__ dc_Move___init__ pm_Move___init__ an_Move___init__ cd_Move___init__ ct_Move___init__), sl_Move___init__⟩)
    (d_Move___init__ : PySem.W.codeIn K cd_Move___init__ "Move.__init__" = true)
    (p_Move___init__ : PySem.W.keepIn K (.ref f_Move___init__) = true)
    (v_Move___init__ : K.lookup D_Move___init__ = some ⟨ob_Move___init__, oo_Move___init__, .seq #[.int 0 u0_Move___init__, .int 0 u1_Move___init__, .int 0 u2_Move___init__, .bool false] m_Move___init__, ol_Move___init__⟩)
    (g_Move___mul__ : PySem.W.findIn K (.ref C_Move) "__mul__" = some (some (.ref f_Move___mul__)))
    (i_Move___mul__ : PySem.W.isFn K (.ref f_Move___mul__) = true)
    (l_Move___mul__ : K.lookup f_Move___mul__ = some ⟨oc_Move___mul__, od_Move___mul__, .func (PySem.W.fnOf "__mul__" "Move.__mul__" (defArgs s_Move___mul__) (defBody s_Move___mul__) (defScope s_Move___mul__) .none kV_Move___mul__ dc_Move___mul__ pm_Move___mul__ an_Move___mul__ cd_Move___mul__ ct_Move___mul__), sl_Move___mul__⟩)
    (d_Move___mul__ : PySem.W.codeIn K cd_Move___mul__ "Move.__mul__" = true)
    (p_Move___mul__ : PySem.W.keepIn K (.ref f_Move___mul__) = true)
    (sf_Move : PySem.W.selfFirst K C_Move = true)
    (g_Move_power : PySem.W.findIn K (.ref C_Move) "power" = some (some (.ref f_Move_power)))
    (i_Move_power : PySem.W.isFn K (.ref f_Move_power) = true)
    (l_Move_power : K.lookup f_Move_power = some ⟨oc_Move_power, od_Move_power, .func (PySem.W.fnOf "power" "Move.power" (defArgs s_Move_power) (defBody s_Move_power) (defScope s_Move_power) .none kV_Move_power dc_Move_power pm_Move_power an_Move_power cd_Move_power ct_Move_power), sl_Move_power⟩)
    (d_Move_power : PySem.W.codeIn K cd_Move_power "Move.power" = true)
    (p_Move_power : PySem.W.keepIn K (.ref f_Move_power) = true)
    (g_law_bag : PySem.W.nsIn K mainGlobals "_law_bag" = some (some (.ref f_law_bag)))
    (l_law_bag : K.lookup f_law_bag = some ⟨oc_law_bag, od_law_bag, .func (PySem.W.fnOf "_law_bag" "_law_bag" (defArgs s_law_bag) (defBody s_law_bag) (defScope s_law_bag) .none kV_law_bag dc_law_bag pm_law_bag an_law_bag cd_law_bag ct_law_bag), sl_law_bag⟩)
    (d_law_bag : PySem.W.codeIn K cd_law_bag "_law_bag" = true)
    (p_law_bag : PySem.W.keepIn K (.ref f_law_bag) = true)
    (g_law_pull : PySem.W.nsIn K mainGlobals "_law_pull" = some (some (.ref f_law_pull)))
    (l_law_pull : K.lookup f_law_pull = some ⟨oc_law_pull, od_law_pull, .func (PySem.W.fnOf "_law_pull" "_law_pull" (defArgs s_law_pull) (defBody s_law_pull) (defScope s_law_pull) .none kV_law_pull dc_law_pull pm_law_pull an_law_pull cd_law_pull ct_law_pull), sl_law_pull⟩)
    (d_law_pull : PySem.W.codeIn K cd_law_pull "_law_pull" = true)
    (p_law_pull : PySem.W.keepIn K (.ref f_law_pull) = true)
    (g_law_of : PySem.W.nsIn K mainGlobals "_law_of" = some (some (.ref f_law_of)))
    (l_law_of : K.lookup f_law_of = some ⟨oc_law_of, od_law_of, .func (PySem.W.fnOf "_law_of" "_law_of" (defArgs s_law_of) (defBody s_law_of) (defScope s_law_of) .none kV_law_of dc_law_of pm_law_of an_law_of cd_law_of ct_law_of), sl_law_of⟩)
    (d_law_of : PySem.W.codeIn K cd_law_of "_law_of" = true)
    (p_law_of : PySem.W.keepIn K (.ref f_law_of) = true)
    (g_law_small : PySem.W.nsIn K mainGlobals "_law_small" = some (some (.ref f_law_small)))
    (l_law_small : K.lookup f_law_small = some ⟨oc_law_small, od_law_small, .func (PySem.W.fnOf "_law_small" "_law_small" (defArgs s_law_small) (defBody s_law_small) (defScope s_law_small) .none kV_law_small dc_law_small pm_law_small an_law_small cd_law_small ct_law_small), sl_law_small⟩)
    (d_law_small : PySem.W.codeIn K cd_law_small "_law_small" = true)
    (p_law_small : PySem.W.keepIn K (.ref f_law_small) = true)
    (g_law_same : PySem.W.nsIn K mainGlobals "_law_same" = some (some (.ref f_law_same)))
    (l_law_same : K.lookup f_law_same = some ⟨oc_law_same, od_law_same, .func (PySem.W.fnOf "_law_same" "_law_same" (defArgs s_law_same) (defBody s_law_same) (defScope s_law_same) .none kV_law_same dc_law_same pm_law_same an_law_same cd_law_same ct_law_same), sl_law_same⟩)
    (d_law_same : PySem.W.codeIn K cd_law_same "_law_same" = true)
    (p_law_same : PySem.W.keepIn K (.ref f_law_same) = true)
    (g_law_other_field : PySem.W.nsIn K mainGlobals "_law_other_field" = some (some (.ref f_law_other_field)))
    (l_law_other_field : K.lookup f_law_other_field = some ⟨oc_law_other_field, od_law_other_field, .func (PySem.W.fnOf "_law_other_field" "_law_other_field" (defArgs s_law_other_field) (defBody s_law_other_field) (defScope s_law_other_field) .none kV_law_other_field dc_law_other_field pm_law_other_field an_law_other_field cd_law_other_field ct_law_other_field), sl_law_other_field⟩)
    (d_law_other_field : PySem.W.codeIn K cd_law_other_field "_law_other_field" = true)
    (p_law_other_field : PySem.W.keepIn K (.ref f_law_other_field) = true)
    (g_law_field : PySem.W.nsIn K mainGlobals "_law_field" = some (some (.ref f_law_field)))
    (l_law_field : K.lookup f_law_field = some ⟨oc_law_field, od_law_field, .func (PySem.W.fnOf "_law_field" "_law_field" (defArgs s_law_field) (defBody s_law_field) (defScope s_law_field) .none kV_law_field dc_law_field pm_law_field an_law_field cd_law_field ct_law_field), sl_law_field⟩)
    (d_law_field : PySem.W.codeIn K cd_law_field "_law_field" = true)
    (p_law_field : PySem.W.keepIn K (.ref f_law_field) = true)
    (g_law_why : PySem.W.nsIn K mainGlobals "_law_why" = some (some (.ref f_law_why)))
    (l_law_why : K.lookup f_law_why = some ⟨oc_law_why, od_law_why, .func (PySem.W.fnOf "_law_why" "_law_why" (defArgs s_law_why) (defBody s_law_why) (defScope s_law_why) .none kV_law_why dc_law_why pm_law_why an_law_why cd_law_why ct_law_why), sl_law_why⟩)
    (d_law_why : PySem.W.codeIn K cd_law_why "_law_why" = true)
    (p_law_why : PySem.W.keepIn K (.ref f_law_why) = true)
    (g_law : PySem.W.nsIn K mainGlobals "law" = some (some (.ref f_law)))
    (l_law : K.lookup f_law = some ⟨oc_law, od_law, .func (PySem.W.fnOf "law" "law" (defArgs s_law) (defBody s_law) (defScope s_law) .none kV_law dc_law pm_law an_law (.ref c_law) ct_law), sl_law⟩)
    (d_law : PySem.W.codeIn K (.ref c_law) "law" = true)
    (lw_law : K.lookup c_law = some ⟨ocl, ocd, .fields ovs, osl⟩)
    (rfla_law : ovs[11]? = some (.ref Pt_law))
    (ker_hd : PySem.W.codeHdIn K c_law Pt_law = true)
    (ker_nt : PySem.W.noTabs K = true)
    (p_law : PySem.W.keepIn K (.ref f_law) = true)
    (mk_Move : PySem.W.makesIn K C_Move = true)
    (kc_Move : PySem.W.keepIn K (.ref C_Move) = true)
    (OT : LamX.OwnTab K fa h) : LamX.LawAtS l w K (L2.CX l.prog w) 9 63 "_law_script" mg fa h := by
  have e := hfa.symm.trans (PySem.W.mg_of X G g_law)
  cases e
  have T : Txt K mg C_Absent C_CurveError C_InvalidNumber C_Move C_TooLarge := ⟨a_Move_parts, ⟨pg_Move, hd_Move, po_Move, sa_Move⟩, ⟨_, PySem.W.mg_of X G k_MOST_SHIFT⟩, PySem.W.mg_of X G x_Move, PySem.W.mg_none_of X G n_abs, PySem.W.mg_none_of X G n_all, PySem.W.mg_none_of X G n_bool, PySem.W.mg_none_of X G n_int, PySem.W.mg_none_of X G n_isinstance, PySem.W.mg_none_of X G n_len, PySem.W.mg_none_of X G n_list, PySem.W.mg_none_of X G n_range, PySem.W.mg_none_of X G n_str, PySem.W.mg_none_of X G n_tuple, PySem.W.mg_none_of X G n_zip, ⟨⟨pg_Move, hd_Move, po_Move, sa_Move⟩, ha_Move, hn_Move, ht_Move, ho_Move⟩⟩
  refine law_atS (c := c_law) (Pt := Pt_law) (fd := PySem.W.fnOf "law" "law" (defArgs s_law) (defBody s_law) (defScope s_law) .none kV_law dc_law pm_law an_law (.ref c_law) ct_law) (q := "law" ++ ".<locals>." ++ "<lambda>") X (OT c_law Pt_law _ _ _ _ _ _ l_law rfl rfl lw_law rfla_law) ker_nt ker_hd (fun s v => .of_eq rfl) fun base _ _ hTB => ?_
  letI : TbC := oneTb Pt_law ("law" ++ ".<locals>." ++ "<lambda>")
  have Lm : LamP mg base "law" c_law Pt_law := lamP_one hTB
  have SP : ER.SupF l.prog K mg := ⟨PySem.W.mg_none_of X G n_super, tp_, dec_top⟩
  have EC_InvalidNumber : ER.EC K "ValueError" "ValueError.__init__" "ValueError.__new__" [.type "ValueError", .type "Exception", .type "BaseException", .type "object"] C_InvalidNumber := ⟨sa_InvalidNumber, kxov_InvalidNumber, hd_InvalidNumber, kxin_InvalidNumber, be_InvalidNumber, bb_InvalidNumber, ty_InvalidNumber, kc_InvalidNumber, kssu_InvalidNumber, ow_InvalidNumber⟩
  have IC_InvalidNumber : ER.IniC l.prog K C_InvalidNumber cda_InvalidNumber cc_InvalidNumber := ⟨⟨_, _, _, _, _, _, lc_InvalidNumber, rfla_InvalidNumber, dec_InvalidNumber⟩, ⟨_, _, _, le_InvalidNumber⟩⟩
  have x_InvalidNumber : MakerX l.prog w K mg "InvalidNumber" C_InvalidNumber 1 (fun _ => True) (mk1 "value" "InvalidNumber") := err1 (st := s_InvalidNumber___init__) EC_InvalidNumber PySem.F.store_ValueError PySem.W.kxs_ValueError PySem.F.excBase_ValueError SP IC_InvalidNumber (PySem.W.mg_of X G x_InvalidNumber) ii_InvalidNumber if_InvalidNumber l_InvalidNumber d_InvalidNumber tk_InvalidNumber_code tk_InvalidNumber_value rfl (fun us hl => match us, hl with | [_, _], _ => rfl) rfl rfl es_InvalidNumber (by decide) rfl (fun L => rfl) (fun L => rfl) (fun L => rfl) (fun L => rfl) (fun L => rfl)
  have EC_TooLarge : ER.EC K "ValueError" "ValueError.__init__" "ValueError.__new__" [.type "ValueError", .type "Exception", .type "BaseException", .type "object"] C_TooLarge := ⟨sa_TooLarge, kxov_TooLarge, hd_TooLarge, kxin_TooLarge, be_TooLarge, bb_TooLarge, ty_TooLarge, kc_TooLarge, kssu_TooLarge, ow_TooLarge⟩
  have IC_TooLarge : ER.IniC l.prog K C_TooLarge cda_TooLarge cc_TooLarge := ⟨⟨_, _, _, _, _, _, lc_TooLarge, rfla_TooLarge, dec_TooLarge⟩, ⟨_, _, _, le_TooLarge⟩⟩
  have x_TooLarge : MakerX l.prog w K mg "TooLarge" C_TooLarge 3 ok3 (mk3 "what" "value" "limit" "TooLarge") := err3 (st := s_TooLarge___init__) EC_TooLarge PySem.F.store_ValueError PySem.W.kxs_ValueError PySem.F.excBase_ValueError SP IC_TooLarge (PySem.W.mg_of X G x_TooLarge) ii_TooLarge if_TooLarge l_TooLarge d_TooLarge tk_TooLarge_code tk_TooLarge_what tk_TooLarge_value tk_TooLarge_limit rfl (fun us hl => match us, hl with | [_, _, _, _], _ => rfl) rfl rfl es_TooLarge (by decide) rfl rfl rfl (by decide) (fun L => rfl) (fun L => rfl) (fun L => rfl) (fun L => rfl) (fun L => rfl) (fun L => rfl) (fun L => rfl)
  have EK_InvalidNumber : ErrK K C_CurveError C_Absent C_InvalidNumber ["value", "code"] := ⟨⟨ga_InvalidNumber, gg_InvalidNumber, be_InvalidNumber, hd_InvalidNumber⟩, exm_two be_CurveError ic_CurveError ty_CurveError su_InvalidNumber_CurveError be_Absent ic_Absent ty_Absent su_InvalidNumber_Absent rfl, fun f hf => by
    simp only [List.mem_cons, List.not_mem_nil, or_false] at hf
    rcases hf with rfl | rfl <;> assumption⟩
  have EK_TooLarge : ErrK K C_CurveError C_Absent C_TooLarge ["limit", "value", "what", "code"] := ⟨⟨ga_TooLarge, gg_TooLarge, be_TooLarge, hd_TooLarge⟩, exm_two be_CurveError ic_CurveError ty_CurveError su_TooLarge_CurveError be_Absent ic_Absent ty_Absent su_TooLarge_Absent rfl, fun f hf => by
    simp only [List.mem_cons, List.not_mem_nil, or_false] at hf
    rcases hf with rfl | rfl | rfl | rfl <;> assumption⟩
  have HK : ∀ e ∈ ([(C_InvalidNumber, ["value", "code"]), (C_TooLarge, ["limit", "value", "what", "code"])] : List (Addr × List Str)), ErrK K C_CurveError C_Absent e.1 e.2 := fun e he => by
    simp only [List.mem_cons, List.not_mem_nil, or_false] at he
    rcases he with rfl | rfl
    · exact EK_InvalidNumber
    · exact EK_TooLarge
  have F_turned_point := funX_mk (st := s_turned_point) l_turned_point d_turned_point p_turned_point
  have b_turned_point := bindsX (K := K) (x := "turned_point") (qual := "turned_point") (st := s_turned_point) (kV := kV_turned_point) (doc := dc_turned_point) (pm := pm_turned_point) (an := an_turned_point) (cdv := cd_turned_point) (ct := ct_turned_point) (ps := ["turns", "mirrored", "point"]) fun us hl => match us, hl with | [_, _, _], _ => rfl
  have c_turned_point := callee_mk F_turned_point (PySem.W.mg_of X G g_turned_point) (ok_turned_point (P := l.prog) (w := w) (base := base) T F_turned_point) b_turned_point
  have F_is_whole := funX_mk (st := s_is_whole) l_is_whole d_is_whole p_is_whole
  have b_is_whole := bindsX (K := K) (x := "is_whole") (qual := "is_whole") (st := s_is_whole) (kV := kV_is_whole) (doc := dc_is_whole) (pm := pm_is_whole) (an := an_is_whole) (cdv := cd_is_whole) (ct := ct_is_whole) (ps := ["value"]) fun us hl => match us, hl with | [_], _ => rfl
  have c_is_whole := callee_mk F_is_whole (PySem.W.mg_of X G g_is_whole) (ok_is_whole (P := l.prog) (w := w) (base := base) T F_is_whole) b_is_whole
  have F_combined := funX_mk (st := s_combined) l_combined d_combined p_combined
  have b_combined := bindsX (K := K) (x := "combined") (qual := "combined") (st := s_combined) (kV := kV_combined) (doc := dc_combined) (pm := pm_combined) (an := an_combined) (cdv := cd_combined) (ct := ct_combined) (ps := ["first", "second"]) fun us hl => match us, hl with | [_, _], _ => rfl
  have c_combined : Callee l.prog w K mg base "combined" 2 wp_cmb [] [] := ⟨f_combined, _, _, _, PySem.W.mg_of X G g_combined, F_combined.kp, (ok_combined (P := l.prog) (w := w) (base := base) T F_combined c_turned_point), b_combined, .nil, fun _ => rfl⟩
  have F_inverted := funX_mk (st := s_inverted) l_inverted d_inverted p_inverted
  have b_inverted := bindsX (K := K) (x := "inverted") (qual := "inverted") (st := s_inverted) (kV := kV_inverted) (doc := dc_inverted) (pm := pm_inverted) (an := an_inverted) (cdv := cd_inverted) (ct := ct_inverted) (ps := ["parts"]) fun us hl => match us, hl with | [_], _ => rfl
  have c_inverted : Callee l.prog w K mg base "inverted" 2 wp_inv [] [] := ⟨f_inverted, _, _, _, PySem.W.mg_of X G g_inverted, F_inverted.kp, (ok_inverted (P := l.prog) (w := w) (base := base) T F_inverted c_turned_point), b_inverted, .nil, fun _ => rfl⟩
  have F_repeated := funX_mk (st := s_repeated) l_repeated d_repeated p_repeated
  have b_repeated := bindsX (K := K) (x := "repeated") (qual := "repeated") (st := s_repeated) (kV := kV_repeated) (doc := dc_repeated) (pm := pm_repeated) (an := an_repeated) (cdv := cd_repeated) (ct := ct_repeated) (ps := ["parts", "times"]) fun us hl => match us, hl with | [_, _], _ => rfl
  have c_repeated : Callee l.prog w K mg base "repeated" 3 wp_rep [] [] := ⟨f_repeated, _, _, _, PySem.W.mg_of X G g_repeated, F_repeated.kp, (ok_repeated (P := l.prog) (w := w) (base := base) T F_repeated c_combined), b_repeated, .nil, fun _ => rfl⟩
  have F_Move___init__ := funX_mk (st := s_Move___init__) l_Move___init__ d_Move___init__ p_Move___init__
  have b_Move___init__ := bindsXD (K := K) (x := "__init__") (qual := "Move.__init__") (st := s_Move___init__) (kV := kV_Move___init__) (doc := dc_Move___init__) (pm := pm_Move___init__) (an := an_Move___init__) (cdv := cd_Move___init__) (ct := ct_Move___init__) (ps := ["self", "dx", "dy", "turns", "mirrored"]) (its := [.int 0 u0_Move___init__, .int 0 u1_Move___init__, .int 0 u2_Move___init__, .bool false]) 5 4 v_Move___init__ rfl rfl fun us hl => match us, hl with | [_, _, _, _, _], _ => ⟨_, rfl, rfl⟩
  have b_Move___init___4 := bindsXD (K := K) (x := "__init__") (qual := "Move.__init__") (st := s_Move___init__) (kV := kV_Move___init__) (doc := dc_Move___init__) (pm := pm_Move___init__) (an := an_Move___init__) (cdv := cd_Move___init__) (ct := ct_Move___init__) (ps := ["self", "dx", "dy", "turns", "mirrored"]) (its := [.int 0 u0_Move___init__, .int 0 u1_Move___init__, .int 0 u2_Move___init__, .bool false]) 4 3 v_Move___init__ rfl rfl fun us hl => match us, hl with | [_, _, _, _], _ => ⟨_, rfl, rfl⟩
  have b_Move___init___3 := bindsXD (K := K) (x := "__init__") (qual := "Move.__init__") (st := s_Move___init__) (kV := kV_Move___init__) (doc := dc_Move___init__) (pm := pm_Move___init__) (an := an_Move___init__) (cdv := cd_Move___init__) (ct := ct_Move___init__) (ps := ["self", "dx", "dy", "turns", "mirrored"]) (its := [.int 0 u0_Move___init__, .int 0 u1_Move___init__, .int 0 u2_Move___init__, .bool false]) 3 2 v_Move___init__ rfl rfl fun us hl => match us, hl with | [_, _, _], _ => ⟨_, rfl, rfl⟩
  have K_Move : Mk K C_Move f_Move___init__ := ⟨mk_Move, g_Move___init__, i_Move___init__, kc_Move⟩
  have c_Move := maker_mk (PySem.W.mg_of X G x_Move) K_Move (ok_Move___init__ (P := l.prog) (w := w) (base := base) T F_Move___init__ c_is_whole x_InvalidNumber x_TooLarge) b_Move___init__
  have c_Move_3 : Maker l.prog w K mg base "Move" C_Move 2 (wp_MvX C_InvalidNumber C_TooLarge) [.bl false] [.bl false] := ⟨f_Move___init__, _, _, _, PySem.W.mg_of X G x_Move, K_Move, ok_Move___init__ (P := l.prog) (w := w) (base := base) T F_Move___init__ c_is_whole x_InvalidNumber x_TooLarge, b_Move___init___4, (.cons rfl .nil), fun _ => ⟨_, _, rfl, rfl, rfl⟩⟩
  have c_Move_2 : Maker l.prog w K mg base "Move" C_Move 2 (wp_MvX C_InvalidNumber C_TooLarge) [.int (0), .bl false] [.int (0), .bl false] := ⟨f_Move___init__, _, _, _, PySem.W.mg_of X G x_Move, K_Move, ok_Move___init__ (P := l.prog) (w := w) (base := base) T F_Move___init__ c_is_whole x_InvalidNumber x_TooLarge, b_Move___init___3, (.cons ⟨_, rfl⟩ (.cons rfl .nil)), fun _ => ⟨_, _, rfl, rfl, ⟨_, _, rfl, rfl, rfl⟩⟩⟩
  have F_Move___mul__ := funX_mk (st := s_Move___mul__) l_Move___mul__ d_Move___mul__ p_Move___mul__
  have b_Move___mul__ := bindsX (K := K) (x := "__mul__") (qual := "Move.__mul__") (st := s_Move___mul__) (kV := kV_Move___mul__) (doc := dc_Move___mul__) (pm := pm_Move___mul__) (an := an_Move___mul__) (cdv := cd_Move___mul__) (ct := ct_Move___mul__) (ps := ["self", "other"]) fun us hl => match us, hl with | [_, _], _ => rfl
  have o_Move___mul__ : Opr l.prog w K mg base .Mult C_Move 4 (wp_MmulX C_Move C_TooLarge) := opr_mk F_Move___mul__ sf_Move g_Move___mul__ i_Move___mul__ (ok_Move___mul__ (P := l.prog) (w := w) (base := base) T F_Move___mul__ c_combined c_Move) b_Move___mul__
  have F_Move_power := funX_mk (st := s_Move_power) l_Move_power d_Move_power p_Move_power
  have b_Move_power := bindsX (K := K) (x := "power") (qual := "Move.power") (st := s_Move_power) (kV := kV_Move_power) (doc := dc_Move_power) (pm := pm_Move_power) (an := an_Move_power) (cdv := cd_Move_power) (ct := ct_Move_power) (ps := ["self", "times"]) fun us hl => match us, hl with | [_, _], _ => rfl
  have m_Move_power : Metd l.prog w K mg base C_Move "power" 5 (wp_MpowX C_Move C_InvalidNumber C_TooLarge) [] [] := ⟨T.c_Move, f_Move_power, _, _, _, ⟨g_Move_power, i_Move_power, p_Move_power⟩, (ok_Move_power (P := l.prog) (w := w) (base := base) T F_Move_power c_is_whole c_inverted c_repeated c_Move x_InvalidNumber), b_Move_power, .nil, fun _ => rfl⟩
  have F_law_bag := funX_mk (st := s_law_bag) l_law_bag d_law_bag p_law_bag
  have b_law_bag := bindsX (K := K) (x := "_law_bag") (qual := "_law_bag") (st := s_law_bag) (kV := kV_law_bag) (doc := dc_law_bag) (pm := pm_law_bag) (an := an_law_bag) (cdv := cd_law_bag) (ct := ct_law_bag) (ps := ["_law_script"]) fun us hl => match us, hl with | [_], _ => rfl
  have c_law_bag := callee_mk F_law_bag (PySem.W.mg_of X G g_law_bag) (ok_law_bag (P := l.prog) (w := w) (base := base) T F_law_bag) b_law_bag
  have F_law_pull := funX_mk (st := s_law_pull) l_law_pull d_law_pull p_law_pull
  have b_law_pull := bindsX (K := K) (x := "_law_pull") (qual := "_law_pull") (st := s_law_pull) (kV := kV_law_pull) (doc := dc_law_pull) (pm := pm_law_pull) (an := an_law_pull) (cdv := cd_law_pull) (ct := ct_law_pull) (ps := ["_law_bag_here", "_law_many"]) fun us hl => match us, hl with | [_, _], _ => rfl
  have c_law_pull := callee_mk F_law_pull (PySem.W.mg_of X G g_law_pull) (ok_law_pull (P := l.prog) (w := w) (base := base) T F_law_pull) b_law_pull
  have F_law_of := funX_mk (st := s_law_of) l_law_of d_law_of p_law_of
  have b_law_of := bindsX (K := K) (x := "_law_of") (qual := "_law_of") (st := s_law_of) (kV := kV_law_of) (doc := dc_law_of) (pm := pm_law_of) (an := an_law_of) (cdv := cd_law_of) (ct := ct_law_of) (ps := ["_law_bag_here", "_law_things"]) fun us hl => match us, hl with | [_, _], _ => rfl
  have c_law_of := callee_mk F_law_of (PySem.W.mg_of X G g_law_of) (ok_law_of (P := l.prog) (w := w) (base := base) T F_law_of c_law_pull) b_law_of
  have F_law_small := funX_mk (st := s_law_small) l_law_small d_law_small p_law_small
  have b_law_small := bindsX (K := K) (x := "_law_small") (qual := "_law_small") (st := s_law_small) (kV := kV_law_small) (doc := dc_law_small) (pm := pm_law_small) (an := an_law_small) (cdv := cd_law_small) (ct := ct_law_small) (ps := ["_law_bag_here"]) fun us hl => match us, hl with | [_], _ => rfl
  have c_law_small := callee_mk F_law_small (PySem.W.mg_of X G g_law_small) (ok_law_small (P := l.prog) (w := w) (base := base) T F_law_small c_law_pull) b_law_small
  have F_law_same := funX_mk (st := s_law_same) l_law_same d_law_same p_law_same
  have b_law_same := bindsX (K := K) (x := "_law_same") (qual := "_law_same") (st := s_law_same) (kV := kV_law_same) (doc := dc_law_same) (pm := pm_law_same) (an := an_law_same) (cdv := cd_law_same) (ct := ct_law_same) (ps := ["_law_found", "_law_due"]) fun us hl => match us, hl with | [_, _], _ => rfl
  have c_law_same := callee_mk F_law_same (PySem.W.mg_of X G g_law_same) (ok_law_same (P := l.prog) (w := w) (base := base) T F_law_same (PySem.W.mg_of X G g_law_same) b_law_same 3) b_law_same
  have F_law_other_field := funX_mk (st := s_law_other_field) l_law_other_field d_law_other_field p_law_other_field
  have HO := ER.other_ok (P := l.prog) (w := w) (base := base) (k := 4) (N := N_law_other_field) l_law_other_field (PySem.W.mg_of X G g_law_other_field) p_law_other_field d_law_other_field sc_law_other_field rfl (.inl rfl) (fun s v => .of_eq rfl) rfl rfl
  have F_law_field := funX_mk (st := s_law_field) l_law_field d_law_field p_law_field
  have HF := ER.field_ok (P := l.prog) (w := w) (base := base) (k := 5) (N := N_law_field) l_law_field rfl HO rfl (PySem.W.mg_of X G g_law_field) p_law_field d_law_field sc_law_field rfl (.inl rfl) (by rintro es e env (rfl | rfl | rfl | rfl | rfl | rfl | rfl) <;> rfl) rfl (fun s v => .of_eq rfl) rfl rfl
  have F_law_why := funX_mk (st := s_law_why) l_law_why d_law_why p_law_why
  have b_law_why := bindsX (K := K) (x := "_law_why") (qual := "_law_why") (st := s_law_why) (kV := kV_law_why) (doc := dc_law_why) (pm := pm_law_why) (an := an_law_why) (cdv := cd_law_why) (ct := ct_law_why) (ps := ["_law_ask"]) fun us hl => match us, hl with | [_], _ => rfl
  have Wy : WhyF l.prog w K mg base 6 C_CurveError C_Absent := ⟨"_law_ask", "_law_e", _, _, _, _, _, _, _, _, _, _, _, _, _, _, PySem.W.mg_of X G g_law_why, p_law_why, l_law_why, d_law_why, b_law_why, sc_law_why, .inl rfl, rfl, rfl, fun Y qq e1 e2 e3 e4 e5 hr => by
    have HF2 : ER.HotF Y.prog Y.w Y.K Y.mg Y.base "_law_field" 6 (ER.lrOf Y.K ER.FieldV) := by
      rw [e1, e2, e3, e4, e5]
      exact HF
    have m1 : Y.mg "CurveError" = some (.ref C_CurveError) := by
      rw [e4]
      exact PySem.W.mg_of X G x_CurveError
    have m2 : Y.mg "Absent" = some (.ref C_Absent) := by
      rw [e4]
      exact PySem.W.mg_of X G x_Absent
    have R : LamX.GivesTo Y ["_law_ask", "_law_e"] "_law_why" (defScope s_law_why) f_law_why cd_law_why (defBody s_law_why) "_law_ask" qq (ER.TTwhy Y.K C_CurveError C_Absent) := ER.why_gives (k := 6) rfl rfl rfl rfl m1 m2 sc_law_why.nd rfl rfl HF2 hr rfl rfl (fun _ => rfl) (fun _ => rfl) (fun _ => rfl) (fun _ => rfl) (fun _ => rfl) (fun _ => rfl)
    rw [e3] at R
    exact R⟩
  have F_law : FunC K "law" "law" s_law _ _ c_law := ⟨⟨_, _, _, _, _, _, _, _, _, rfl, l_law, d_law⟩⟩
  exact ok_law (P := l.prog) (w := w) (base := base) T F_law Lm Wy HK c_law_bag c_law_pull c_law_of c_law_small c_law_same c_Move_3 c_Move_2 o_Move___mul__ m_Move_power
end DL
open PySem PySem.W PyProof.Rows
section
local macro_rules | `(tactic| kernel_rfl) => `(tactic| exact False.elim (by assumption))
set_option maxHeartbeats 0 in
theorem kmk (F : False) : PySem.Challenge.rw_unseencurves_k06_moves_refused.Holds := by
  w_on; o_law; k_headL; (case hw => w_witness2)
  exact F.elim
end
namespace KH
noncomputable abbrev R : OpenRow := OpenLaw.row PySem.Challenge.rw_unseencurves_k06_moves_refused
noncomputable abbrev q : Program := view R.prog [23]
def P0 : Params := { strHash := fun _ => 0, shareClass := fun _ => 0, mergeTok := fun t => t, idOf := fun _ => 0, idOfShared := fun _ _ => 0, followText := fun _ => false, idOfImm := fun _ => 0 }
noncomputable def as : List Addr := (kmk.heap_39 P0).map (·.1)
def loose0 : List PySem.Str := [PySem.Str.ofString "_wall", PySem.Str.ofString "__name__", PySem.Str.ofString "CurveError", PySem.Str.ofString "InvalidNumber", PySem.Str.ofString "TooLarge", PySem.Str.ofString "Absent", PySem.Str.ofString "MOST_SHIFT", PySem.Str.ofString "turned_point", PySem.Str.ofString "combined", PySem.Str.ofString "inverted", PySem.Str.ofString "repeated", PySem.Str.ofString "is_whole", PySem.Str.ofString "Move", PySem.Str.ofString "_law_bag", PySem.Str.ofString "_law_pull", PySem.Str.ofString "_law_of", PySem.Str.ofString "_law_small", PySem.Str.ofString "_law_same", PySem.Str.ofString "_law_field", PySem.Str.ofString "_law_other_field", PySem.Str.ofString "_law_why"]
def loose : List PySem.Str := loose0
theorem ek (P : Params) : as = (kmk.heap_39 P).map (·.1) := by kernel_rfl
theorem run (w : World) (os : OsState) : (HeadRun.endF (HeadRun.stepQ (HeadRun.denQ HeadRun.tabQ) R.prog w) 20000 R.prog w os).map (fun s => (HeadRun.looksF R.prog (boot_heap w.params) s.abs, HeadRun.seenQ q loose (importedModules R.prog.main.body) (fun s => xlAt q [] s && recOk (RowW.records R.toRowW) s) s.abs, as.map (HeadRun.getT s))) = some (true, openGood q loose, (kmk.heap_39 w.params).map fun x => some x.2) := by kernel_rfl
theorem fence (s : Shared) : fenceModules? R.prog s = some s := by kernel_rfl
theorem opens : opening R.prog = plainProg R.prog.main.scope.names := by kernel_rfl
theorem left : LeftO R.prog q loose (fun s => xlAt q [] s && recOk (RowW.records R.toRowW) s) (Hook.obs (kHook kmk.heap_39 as ek)) (Hook.val (kHook kmk.heap_39 as ek)) 20600 true := HeadRun.left_oneK (M := 20000) opens (by rfl) fence (by rfl) run
theorem good : (chainsOk q && opensWell R.prog && (frees R.toRowW && R.within.isEmpty)) = true := by decide +kernel
end KH
set_option maxHeartbeats 0 in
theorem PySem.Challenge.cw_unseencurves_k06_moves_refused_holds : PySem.Challenge.rw_unseencurves_k06_moves_refused.Holds := by
  w_on; o_law
  refine holds_open (r := PySem.Challenge.rw_unseencurves_k06_moves_refused.row) (q := KH.q) (loose := KH.loose) (Xt := fun s => xlAt KH.q [] s && recOk (RowW.records KH.R.toRowW) s) (XP := XL KH.q []) (Yf := Hook.obs (kHook kmk.heap_39 KH.as KH.ek)) (Ya := Hook.val (kHook kmk.heap_39 KH.as KH.ek)) (YP := Hook.says (kHook kmk.heap_39 KH.as KH.ek)) (N := 20600) KH.left (Hook.of (kHook kmk.heap_39 KH.as KH.ek)) (Hook.keeps (kHook kmk.heap_39 KH.as KH.ek)) (fun s e => xl_of s (Bool.and_eq_true_iff.mp e).1) XL.keeps (by rfl) (by rfl) (by rfl) (fun s e => recFacts_of (Bool.and_eq_true_iff.mp e).2) (by rfl) (by first | assumption | decide +kernel) KH.good ⟨rfl, rfl, rfl, rfl, rfl, by decide +kernel⟩ ?hw ?hc
  case hw => w_witness2
  k_fill
  refine LamX.walk_ofOwn (l := PySem.Challenge.rw_unseencurves_k06_moves_refused) (n := 63) (k := 9) (x := "_law_script") (CX := fun w => L2.CX PySem.Challenge.rw_unseencurves_k06_moves_refused.prog w) rfl (by decide) rfl ⟨rfl, by decide, by decide⟩ (by decide +kernel) (fun w h Y => PySem.W.kIn_of Y) ?F (fun w H s e s2 h => DL.law_cx H s e s2 h)
  case F =>
    intro w mg fa h _ KX G hmg OT
    refine' DL.all_mk KX G hmg ?x_Absent ?x_CurveError ?x_InvalidNumber ?x_Move ?x_TooLarge ?a_Move_parts ?pg_Move ?hd_Move ?po_Move ?sa_Move ?k_MOST_SHIFT ?n_abs ?n_all ?n_bool ?n_int ?n_isinstance ?n_len ?n_list ?n_range ?n_str ?n_tuple ?n_zip ?ha_Move ?hn_Move ?ht_Move ?ho_Move ?n_super ?tp_ ?dec_top ?sa_InvalidNumber ?kxov_InvalidNumber ?hd_InvalidNumber ?kxin_InvalidNumber ?be_InvalidNumber ?bb_InvalidNumber ?ty_InvalidNumber ?kc_InvalidNumber ?kssu_InvalidNumber ?ow_InvalidNumber ?ii_InvalidNumber ?if_InvalidNumber ?l_InvalidNumber ?d_InvalidNumber ?lc_InvalidNumber ?rfla_InvalidNumber ?dec_InvalidNumber ?le_InvalidNumber ?tk_InvalidNumber_code ?tk_InvalidNumber_value ?sa_TooLarge ?kxov_TooLarge ?hd_TooLarge ?kxin_TooLarge ?be_TooLarge ?bb_TooLarge ?ty_TooLarge ?kc_TooLarge ?kssu_TooLarge ?ow_TooLarge ?ii_TooLarge ?if_TooLarge ?l_TooLarge ?d_TooLarge ?lc_TooLarge ?rfla_TooLarge ?dec_TooLarge ?le_TooLarge ?tk_TooLarge_code ?tk_TooLarge_what ?tk_TooLarge_value ?tk_TooLarge_limit ?be_CurveError ?ic_CurveError ?ty_CurveError ?be_Absent ?ic_Absent ?ty_Absent ?su_InvalidNumber_CurveError ?su_InvalidNumber_Absent ?ga_InvalidNumber ?gg_InvalidNumber ?nf_InvalidNumber_value ?nf_InvalidNumber_code ?su_TooLarge_CurveError ?su_TooLarge_Absent ?ga_TooLarge ?gg_TooLarge ?nf_TooLarge_limit ?nf_TooLarge_value ?nf_TooLarge_what ?nf_TooLarge_code ?g_turned_point ?l_turned_point ?d_turned_point ?p_turned_point ?g_is_whole ?l_is_whole ?d_is_whole ?p_is_whole ?g_combined ?l_combined ?d_combined ?p_combined ?g_inverted ?l_inverted ?d_inverted ?p_inverted ?g_repeated ?l_repeated ?d_repeated ?p_repeated ?g_Move___init__ ?i_Move___init__ ?l_Move___init__ ?d_Move___init__ ?p_Move___init__ ?v_Move___init__ ?g_Move___mul__ ?i_Move___mul__ ?l_Move___mul__ ?d_Move___mul__ ?p_Move___mul__ ?sf_Move ?g_Move_power ?i_Move_power ?l_Move_power ?d_Move_power ?p_Move_power ?g_law_bag ?l_law_bag ?d_law_bag ?p_law_bag ?g_law_pull ?l_law_pull ?d_law_pull ?p_law_pull ?g_law_of ?l_law_of ?d_law_of ?p_law_of ?g_law_small ?l_law_small ?d_law_small ?p_law_small ?g_law_same ?l_law_same ?d_law_same ?p_law_same ?g_law_other_field ?l_law_other_field ?d_law_other_field ?p_law_other_field ?g_law_field ?l_law_field ?d_law_field ?p_law_field ?g_law_why ?l_law_why ?d_law_why ?p_law_why ?g_law ?l_law ?d_law ?lw_law ?rfla_law ?ker_hd ?ker_nt ?p_law ?mk_Move ?kc_Move OT
    (case x_Absent => k_is)
    (case x_CurveError => k_is)
    (case x_InvalidNumber => k_is)
    (case x_Move => k_is)
    (case x_TooLarge => k_is)
    (case a_Move_parts => k_is)
    (case pg_Move => k_is)
    (case hd_Move => k_is)
    (case po_Move => k_is)
    (case sa_Move => k_is)
    (case k_MOST_SHIFT => k_is)
    (case n_abs => k_is)
    (case n_all => k_is)
    (case n_bool => k_is)
    (case n_int => k_is)
    (case n_isinstance => k_is)
    (case n_len => k_is)
    (case n_list => k_is)
    (case n_range => k_is)
    (case n_str => k_is)
    (case n_tuple => k_is)
    (case n_zip => k_is)
    (case ha_Move => k_is)
    (case hn_Move => k_is)
    (case ht_Move => k_is)
    (case ho_Move => k_is)
    (case n_super => k_is)
    (case tp_ => k_is)
    (case dec_top => decide +kernel)
    (case sa_InvalidNumber => k_is)
    (case kxov_InvalidNumber => kernel_rfl)
    (case hd_InvalidNumber => k_is)
    (case kxin_InvalidNumber => kernel_rfl)
    (case be_InvalidNumber => k_is)
    (case bb_InvalidNumber => k_is)
    (case ty_InvalidNumber => k_is)
    (case kc_InvalidNumber => k_is)
    (case kssu_InvalidNumber => kernel_rfl)
    (case ow_InvalidNumber => k_is)
    (case ii_InvalidNumber => k_is)
    (case if_InvalidNumber => k_is)
    (case l_InvalidNumber => k_is)
    (case d_InvalidNumber => k_is)
    (case lc_InvalidNumber => k_is)
    (case rfla_InvalidNumber => rfl)
    (case dec_InvalidNumber => decide +kernel)
    (case le_InvalidNumber => k_is)
    (case tk_InvalidNumber_code => k_is)
    (case tk_InvalidNumber_value => k_is)
    (case sa_TooLarge => k_is)
    (case kxov_TooLarge => kernel_rfl)
    (case hd_TooLarge => k_is)
    (case kxin_TooLarge => kernel_rfl)
    (case be_TooLarge => k_is)
    (case bb_TooLarge => k_is)
    (case ty_TooLarge => k_is)
    (case kc_TooLarge => k_is)
    (case kssu_TooLarge => kernel_rfl)
    (case ow_TooLarge => k_is)
    (case ii_TooLarge => k_is)
    (case if_TooLarge => k_is)
    (case l_TooLarge => k_is)
    (case d_TooLarge => k_is)
    (case lc_TooLarge => k_is)
    (case rfla_TooLarge => rfl)
    (case dec_TooLarge => decide +kernel)
    (case le_TooLarge => k_is)
    (case tk_TooLarge_code => k_is)
    (case tk_TooLarge_what => k_is)
    (case tk_TooLarge_value => k_is)
    (case tk_TooLarge_limit => k_is)
    (case be_CurveError => k_is)
    (case ic_CurveError => k_is)
    (case ty_CurveError => k_is)
    (case be_Absent => k_is)
    (case ic_Absent => k_is)
    (case ty_Absent => k_is)
    (case su_InvalidNumber_CurveError => k_is)
    (case su_InvalidNumber_Absent => k_is)
    (case ga_InvalidNumber => k_is)
    (case gg_InvalidNumber => k_is)
    (case nf_InvalidNumber_value => k_is)
    (case nf_InvalidNumber_code => k_is)
    (case su_TooLarge_CurveError => k_is)
    (case su_TooLarge_Absent => k_is)
    (case ga_TooLarge => k_is)
    (case gg_TooLarge => k_is)
    (case nf_TooLarge_limit => k_is)
    (case nf_TooLarge_value => k_is)
    (case nf_TooLarge_what => k_is)
    (case nf_TooLarge_code => k_is)
    (case g_turned_point => k_is)
    (case l_turned_point => k_is)
    (case d_turned_point => k_is)
    (case p_turned_point => k_is)
    (case g_is_whole => k_is)
    (case l_is_whole => k_is)
    (case d_is_whole => k_is)
    (case p_is_whole => k_is)
    (case g_combined => k_is)
    (case l_combined => k_is)
    (case d_combined => k_is)
    (case p_combined => k_is)
    (case g_inverted => k_is)
    (case l_inverted => k_is)
    (case d_inverted => k_is)
    (case p_inverted => k_is)
    (case g_repeated => k_is)
    (case l_repeated => k_is)
    (case d_repeated => k_is)
    (case p_repeated => k_is)
    (case g_Move___init__ => k_is)
    (case i_Move___init__ => k_is)
    (case l_Move___init__ => k_is)
    (case d_Move___init__ => k_is)
    (case p_Move___init__ => k_is)
    (case v_Move___init__ => k_is)
    (case g_Move___mul__ => k_is)
    (case i_Move___mul__ => k_is)
    (case l_Move___mul__ => k_is)
    (case d_Move___mul__ => k_is)
    (case p_Move___mul__ => k_is)
    (case sf_Move => k_is)
    (case g_Move_power => k_is)
    (case i_Move_power => k_is)
    (case l_Move_power => k_is)
    (case d_Move_power => k_is)
    (case p_Move_power => k_is)
    (case g_law_bag => k_is)
    (case l_law_bag => k_is)
    (case d_law_bag => k_is)
    (case p_law_bag => k_is)
    (case g_law_pull => k_is)
    (case l_law_pull => k_is)
    (case d_law_pull => k_is)
    (case p_law_pull => k_is)
    (case g_law_of => k_is)
    (case l_law_of => k_is)
    (case d_law_of => k_is)
    (case p_law_of => k_is)
    (case g_law_small => k_is)
    (case l_law_small => k_is)
    (case d_law_small => k_is)
    (case p_law_small => k_is)
    (case g_law_same => k_is)
    (case l_law_same => k_is)
    (case d_law_same => k_is)
    (case p_law_same => k_is)
    (case g_law_other_field => k_is)
    (case l_law_other_field => k_is)
    (case d_law_other_field => k_is)
    (case p_law_other_field => k_is)
    (case g_law_field => k_is)
    (case l_law_field => k_is)
    (case d_law_field => k_is)
    (case p_law_field => k_is)
    (case g_law_why => k_is)
    (case l_law_why => k_is)
    (case d_law_why => k_is)
    (case p_law_why => k_is)
    (case g_law => k_is)
    (case l_law => k_is)
    (case d_law => k_is)
    (case lw_law => k_is)
    (case rfla_law => rfl)
    (case ker_hd => kernel_rfl)
    (case ker_nt => kernel_rfl)
    (case p_law => k_is)
    (case mk_Move => k_is)
    (case kc_Move => k_is)

import PyProof.Rows.All
import Wide.All
import OpenK.AllK
import Wide.FinOn
import PyProof.EqAt
import PyProof.EqKinds
import PyProof.TupleCall
import HandS.ForMost
import HandS.ForExc
import HandS.EndBits
import HandS.IsInst
import HandS.Wide
import KE.KDictKeyed
import HandS.Lambda
import HandS.ExcCtx
import HandS.Defaults
import HandS.Zip
import HandS.Property
import HandS.Deep
import HandS.ClsMeth
import HandS.Codes
import HandS.NoneIn
import HandS.MakeKw
import HandS.MakeKwOnly
import HandS.OwnEq
import PyProof.InstNe
import HandS.TupSets
import KE.KSortTupUse
import HandS.DictTup
import HandS.SetBool
import HandS.Conv
import HandS.FStr
import HandS.TupAny
import KE.DatumOrd
import HandS.SortKw
import HandS.SlotsOwn
import KE.KOpsOwn
import KE.KCallOwn
import HandS.Small
import KE.KExcSuper
import KE.KExcInit
import HandS.ExcInit
import HandS.ExcField
import HandS.HotCalls
import HandS.EndOwn
import KE.KNestM
import PyProof.ExcBaseAll.ValueError
import PyProof.ExcBaseAll.LookupError
import PyProof.InstStoreFacts
import PyProof.FString
import HandS.Style
import HandS.Star
import KE.KStar
import KE.GoesEnum
import HandS.WordsDict
import HandS.Finally
import HandS.EndTab
import HandS.Replace
import KE.OsRunLaw
import PySem.Challenge.RW_unseencurves_k08_names
set_option Elab.async false
set_option linter.all false
set_option maxRecDepth 100000
set_option maxHeartbeats 4000000
section
open PySem PySem.W PyProof.Rows
section
local macro_rules | `(tactic| kernel_rfl) => `(tactic| exact False.elim (by assumption))
set_option maxHeartbeats 0 in
theorem kmk (F : False) : PySem.Challenge.rw_unseencurves_k08_names.Holds := by
 w_on; o_law; k_headL; (case hw => w_witness2)
 exact F.elim
end
namespace KH
noncomputable abbrev R : OpenRow := OpenLaw.row PySem.Challenge.rw_unseencurves_k08_names
noncomputable abbrev q : Program := view R.prog [58]
def P0 : Params := { strHash := λ _ => 0, shareClass := λ _ => 0, mergeTok := λ t => t, idOf := λ _ => 0, idOfShared := λ _ _ => 0, followText := λ _ => false, idOfImm := λ _ => 0 }
noncomputable def as : List Addr := (kmk.heap_39 P0).map (·.1)
def qAC : List PySem.Str := [PySem.Str.ofString "_wall", PySem.Str.ofString "__name__", PySem.Str.ofString "CurveError", PySem.Str.ofString "InvalidName", PySem.Str.ofString "TooLarge", PySem.Str.ofString "Absent", PySem.Str.ofString "MOST_SHIFT", PySem.Str.ofString "turned_point", PySem.Str.ofString "combined", PySem.Str.ofString "is_whole", PySem.Str.ofString "NOTHING", PySem.Str.ofString "NONE", PySem.Str.ofString "merged_terms", PySem.Str.ofString "merged_outlines", PySem.Str.ofString "added", PySem.Str.ofString "multiplied", PySem.Str.ofString "moved_unknown", PySem.Str.ofString "moved_form", PySem.Str.ofString "moved_node", PySem.Str.ofString "divisor", PySem.Str.ofString "question", PySem.Str.ofString "joined", PySem.Str.ofString "times_text", PySem.Str.ofString "unknown_text", PySem.Str.ofString "form_text", PySem.Str.ofString "node_text", PySem.Str.ofString "form_size", PySem.Str.ofString "node_size", PySem.Str.ofString "form_depth", PySem.Str.ofString "node_depth"]
def qvp : List PySem.Str := [PySem.Str.ofString "form_unknowns", PySem.Str.ofString "node_unknowns", PySem.Str.ofString "MOST_SIZE", PySem.Str.ofString "MOST_DEPTH", PySem.Str.ofString "MOST_TIMES", PySem.Str.ofString "WORDS", PySem.Str.ofString "LETTERS", PySem.Str.ofString "is_name", PySem.Str.ofString "check_size", PySem.Str.ofString "check_times", PySem.Str.ofString "check_shifts", PySem.Str.ofString "Path", PySem.Str.ofString "curves_of", PySem.Str.ofString "_law_bag", PySem.Str.ofString "_law_pull", PySem.Str.ofString "_law_of", PySem.Str.ofString "_law_same", PySem.Str.ofString "_law_field", PySem.Str.ofString "_law_other_field", PySem.Str.ofString "_law_why", PySem.Str.ofString "_law_name", PySem.Str.ofString "_law_words", PySem.Str.ofString "_law_value", PySem.Str.ofString "_law_is_name"]
def loose : List PySem.Str := qAC ++ qvp
theorem ek (P : Params) : as = (kmk.heap_39 P).map (·.1) := by kernel_rfl
theorem run1 (w : World) (os : OsState) : (HeadRun.endF (HeadRun.stepQ (HeadRun.denQ HeadRun.tabQ) R.prog w) 20000 R.prog w os).map (λ s => HeadRun.looksF R.prog (boot_heap w.params) s.abs) = some true := by kernel_rfl
theorem run3 (w : World) (os : OsState) : (HeadRun.endF (HeadRun.stepQ (HeadRun.denQ HeadRun.tabQ) R.prog w) 20000 R.prog w os).map (λ s => HeadRun.seenQ q loose (importedModules R.prog.main.body) (λ s => xlAt q [] s && recOk (RowW.records R.toRowW) s) s.abs) = some (openGood q loose) := by kernel_rfl
theorem run2 (w : World) (os : OsState) : (HeadRun.endF (HeadRun.stepQ (HeadRun.denQ HeadRun.tabQ) R.prog w) 20000 R.prog w os).map (λ s => as.map (HeadRun.getT s)) = some ((kmk.heap_39 w.params).map λ x => some x.2) := by kernel_rfl
theorem map3 {α β γ δ : Type} {E : Option α} {f : α -> β} {g : α -> γ} {h : α -> δ} {a : β} {b : γ} {c : δ} (h1 : E.map f = some a) (h3 : E.map g = some b) (h2 : E.map h = some c) : E.map (λ s => (f s, g s, h s)) = some (a, b, c) := by
 cases E with
 | none => cases h1
 | some s => cases h1; cases h2; cases h3; rfl
theorem run (w : World) (os : OsState) : (HeadRun.endF (HeadRun.stepQ (HeadRun.denQ HeadRun.tabQ) R.prog w) 20000 R.prog w os).map (λ s => (HeadRun.looksF R.prog (boot_heap w.params) s.abs, HeadRun.seenQ q loose (importedModules R.prog.main.body) (λ s => xlAt q [] s && recOk (RowW.records R.toRowW) s) s.abs, as.map (HeadRun.getT s))) = some (true, openGood q loose, (kmk.heap_39 w.params).map λ x => some x.2) := map3 (run1 w os) (run3 w os) (run2 w os)
theorem fence (s : Shared) : fenceModules? R.prog s = some s := by kernel_rfl
theorem opens : opening R.prog = plainProg R.prog.main.scope.names := by kernel_rfl
theorem left : LeftO R.prog q loose (λ s => xlAt q [] s && recOk (RowW.records R.toRowW) s) (Hook.obs (kHook kmk.heap_39 as ek)) (Hook.val (kHook kmk.heap_39 as ek)) 20600 true := HeadRun.left_oneK (M := 20000) opens (by rfl) fence (by rfl) run
theorem good : (chainsOk q && opensWell R.prog && (frees R.toRowW && R.within.isEmpty)) = true := by decide +kernel
def dOf (s : Stmt) : DefRec := match s with
 | .FunctionDef n a b _ _ _ c _ _ p => ⟨n, a, b, c, p⟩
 | _ => ⟨"", ⟨[], [], none, [], [], none, []⟩, [], ⟨.module, [], false, false, []⟩, ⟨0, 0, 0, 0⟩⟩
set_option maxHeartbeats 0 in
theorem fin (hc : PySem.W.WalkO q loose (XL q []) (Hook.says (kHook kmk.heap_39 as ek)) PySem.Challenge.rw_unseencurves_k08_names.row.toRowW (dOf (PySem.Challenge.pw_unseencurves_k08_names.main.body.getD 58 (.Pass ⟨0, 0, 0, 0⟩))) [] (λ f vs => PySem.call f vs)) : PySem.Challenge.rw_unseencurves_k08_names.Holds := by
 w_on; o_law
 refine holds_open (r := PySem.Challenge.rw_unseencurves_k08_names.row) (q := KH.q) (loose := KH.loose) (Xt := λ s => xlAt KH.q [] s && recOk (RowW.records R.toRowW) s) (XP := XL KH.q []) (Yf := Hook.obs (kHook kmk.heap_39 KH.as KH.ek)) (Ya := Hook.val (kHook kmk.heap_39 KH.as KH.ek)) (YP := Hook.says (kHook kmk.heap_39 KH.as KH.ek)) (N := 20600) KH.left (Hook.of (kHook kmk.heap_39 KH.as KH.ek)) (Hook.keeps (kHook kmk.heap_39 KH.as KH.ek)) (λ s e => xl_of s (Bool.and_eq_true_iff.mp e).1) XL.keeps (by rfl) (by rfl) (by rfl) (λ s e => recFacts_of (Bool.and_eq_true_iff.mp e).2) (by rfl) (by first | assumption | decide +kernel) KH.good ⟨rfl, rfl, rfl, rfl, rfl, by decide +kernel⟩ ?hw ?hc
 case hw => w_witness2
 k_fill
 exact hc
end KH
end
namespace DL
open PySem PySem.Spec PyProof.Rows L2
inductive D where
 | non | bl (b : Bool) | int (i : Int) | str (x : Str) | ty (n : String) | cls (C : Addr)
 | tup (xs : List D) | lst (xs : List D) | ins (C : Addr) (fs : List (Str × D)) | bag | lat (c : Addr) (xs : List D)
 | dk (kvs : List (Key × D)) | dt (w : World) (kvs : List (NestedKey × D))
structure qd7 (h : Heap) (b c : Addr) (m : Nat) : Prop where
 ex : ∃ (i g s n : Int) (t1 t2 t3 t4 : Tok) (z : Nat), h.get? b = some { cls := .type "list", data := .seq #[.ref c, .int i t1, .int g t2, .int s t3, .int n t4] z } /\
   0 <= i /\ i <= (m : Int) /\ 0 <= g /\ 0 <= s /\ s < 2147483587
def bagO (b c : Addr) (m : Nat) : HO := .ext λ h => qd7 h b c m
def qyu (K : PySem.W.Frag) (H : Hp) (b : Addr) : Prop :=
 ∃ (c : Addr) (ns : List Int), H b = some (bagO b c ns.length) /\ H c = some (.lst (ns.map V.int)) /\ ns.length <= 63
mutual
def NkV (K : PySem.W.Frag) (H : Hp) : NestedKey -> V -> Prop
 | .none, v => v = .non
 | .num i, v => v = .int i
 | .text x, v => v = .str x
 | .tup ks, v => ∃ a vs, v = .ref a /\ SqT K H a vs /\ NkVs K H ks vs
def NkVs (K : PySem.W.Frag) (H : Hp) : List NestedKey -> List V -> Prop
 | [], vs => vs = []
 | k :: ks, vs => ∃ v r, vs = v :: r /\ NkV K H k v /\ NkVs K H ks r
end
def RelT (p : NestedKey × Addr × V) (q : NestedKey × Addr × Value) : Prop := p.1 = q.1 /\ p.2.1 = q.2.1 /\ RelV p.2.2 q.2.2
structure DtAt (w : World) (h : Heap) (a : Addr) (ps : List (NestedKey × Addr × V)) : Prop where
 fit : ps.length <= sizeLine /\ (a == sysModules) = false
 ex : ∃ (xs : List (NestedKey × Addr × Value)) (o : Obj) (es : Array DictEntry) (ep : Nat), Paired RelT ps xs /\ h.get? a = some o /\ o.ExactDict /\ o.data = .dict es ep /\
   es.toList = xs.map (λ x => ⟨x.1.hash w, .ref x.2.1, x.2.2⟩) /\ (xs.map (·.1)).Nodup
def DtO (w : World) (a : Addr) (ps : List (NestedKey × Addr × V)) : HO := .ext λ h => DtAt w h a ps
mutual
def Rep (K : PySem.W.Frag) (H : Hp) : D -> V -> Prop
 | .non, v => v = .non
 | .bl b, v => v = .bl b
 | .int i, v => v = .int i
 | .str x, v => v = .str x
 | .ty n, v => v = .ty n
 | .cls C, v => v = .ref C
 | .tup xs, v => ∃ a vs, v = .ref a /\ SqT K H a vs /\ Reps K H xs vs
 | .lst xs, v => ∃ a vs, v = .ref a /\ SqL K H a vs /\ Reps K H xs vs
 | .ins C fs, v => ∃ a dx fvs, v = .ref a /\ H a = some (.ins C dx fvs) /\ Repf K H fs fvs
 | .bag, v => ∃ a, v = .ref a /\ qyu K H a
 | .lat c xs, v => v = .ref c /\ ∃ vs, SqL K H c vs /\ Reps K H xs vs
 | .dk kvs, v => ∃ a vs, v = .ref a /\ H a = some (.dK vs) /\ Repk K H kvs vs
 | .dt w kvs, v => ∃ a ps, v = .ref a /\ H a = some (DtO w a ps) /\ RepT K H kvs ps
def Reps (K : PySem.W.Frag) (H : Hp) : List D -> List V -> Prop
 | [], vs => vs = []
 | d :: ds, vs => ∃ v r, vs = v :: r /\ Rep K H d v /\ Reps K H ds r
def Repf (K : PySem.W.Frag) (H : Hp) : List (Str × D) -> List (Str × V) -> Prop
 | [], vs => vs = []
 | (f, d) :: ds, vs => ∃ v r, vs = (f, v) :: r /\ Rep K H d v /\ Repf K H ds r
def Repk (K : PySem.W.Frag) (H : Hp) : List (Key × D) -> List (Key × V) -> Prop
 | [], vs => vs = []
 | (f, d) :: ds, vs => ∃ v r, vs = (f, v) :: r /\ Rep K H d v /\ Repk K H ds r
def RepT (K : PySem.W.Frag) (H : Hp) : List (NestedKey × D) -> List (NestedKey × Addr × V) -> Prop
 | [], vs => vs = []
 | (k, d) :: ds, vs => ∃ b v r, vs = (k, b, v) :: r /\ (NkV K H k (.ref b) /\ k.depth <= 8) /\ Rep K H d v /\ RepT K H ds r
end
section
variable {K : PySem.W.Frag} {H H' : Hp}
theorem qaC {a : Addr} {xs : List V} (e : Same H H') (h : SqT K H a xs) : SqT K H' a xs := by
 rcases h with (h | ⟨o, h⟩) | h
 · exact .inl (.inl (e _ _ h))
 · exact .inl (.inr ⟨o, e _ _ h⟩)
 · exact .inr h
mutual
theorem NkV.mono (e : Same H H') : ∀ (k : NestedKey) (v : V), NkV K H k v -> NkV K H' k v
 | .none, _, h => h
 | .num _, _, h => h
 | .text _, _, h => h
 | .tup ks, _, ⟨a, vs, e1, hs, hr⟩ => ⟨a, vs, e1, qaC e hs, NkVs.mono e ks vs hr⟩
theorem NkVs.mono (e : Same H H') : ∀ (ks : List NestedKey) (vs : List V), NkVs K H ks vs -> NkVs K H' ks vs
 | [], _, h => h
 | k :: ks, _, ⟨v, r, e1, h1, h2⟩ => ⟨v, r, e1, NkV.mono e k v h1, NkVs.mono e ks r h2⟩
end
mutual
theorem Rep.mono (e : Same H H') : ∀ (d : D) (v : V), Rep K H d v -> Rep K H' d v
 | .non, _, h => h
 | .bl _, _, h => h
 | .int _, _, h => h
 | .str _, _, h => h
 | .ty _, _, h => h
 | .cls _, _, h => h
 | .tup xs, _, ⟨a, vs, e1, hs, hr⟩ => ⟨a, vs, e1, qaC e hs, Reps.mono e xs vs hr⟩
 | .lst xs, _, ⟨a, vs, e1, hs, hr⟩ => ⟨a, vs, e1, e.seq hs, Reps.mono e xs vs hr⟩
 | .ins C fs, _, ⟨a, dx, fvs, e1, hs, hr⟩ => ⟨a, dx, fvs, e1, e _ _ hs, Repf.mono e fs fvs hr⟩
 | .lat c xs, _, ⟨e1, vs, hs, hr⟩ => ⟨e1, vs, e.seq hs, Reps.mono e xs vs hr⟩
 | .bag, _, ⟨a, e1, c, ns, hb, hc, hl⟩ => ⟨a, e1, c, ns, e _ _ hb, e _ _ hc, hl⟩
 | .dk kvs, _, ⟨a, vs, e1, ha, hr⟩ => ⟨a, vs, e1, e _ _ ha, Repk.mono e kvs vs hr⟩
 | .dt _ kvs, _, ⟨a, ps, e1, ha, hr⟩ => ⟨a, ps, e1, e _ _ ha, RepT.mono e kvs ps hr⟩
theorem Reps.mono (e : Same H H') : ∀ (ds : List D) (vs : List V), Reps K H ds vs -> Reps K H' ds vs
 | [], _, h => h
 | d :: ds, _, ⟨v, r, e1, h1, h2⟩ => ⟨v, r, e1, Rep.mono e d v h1, Reps.mono e ds r h2⟩
theorem Repf.mono (e : Same H H') : ∀ (ds : List (Str × D)) (vs : List (Str × V)), Repf K H ds vs -> Repf K H' ds vs
 | [], _, h => h
 | (f, d) :: ds, _, ⟨v, r, e1, h1, h2⟩ => ⟨v, r, e1, Rep.mono e d v h1, Repf.mono e ds r h2⟩
theorem Repk.mono (e : Same H H') : ∀ (ds : List (Key × D)) (vs : List (Key × V)), Repk K H ds vs -> Repk K H' ds vs
 | [], _, h => h
 | (f, d) :: ds, _, ⟨v, r, e1, h1, h2⟩ => ⟨v, r, e1, Rep.mono e d v h1, Repk.mono e ds r h2⟩
theorem RepT.mono (e : Same H H') : ∀ (ds : List (NestedKey × D)) (vs : List (NestedKey × Addr × V)), RepT K H ds vs -> RepT K H' ds vs
 | [], _, h => h
 | (k, d) :: ds, _, ⟨b, v, r, e1, h0, h1, h2⟩ => ⟨b, v, r, e1, ⟨NkV.mono e k _ h0.1, h0.2⟩, Rep.mono e d v h1, RepT.mono e ds r h2⟩
end
theorem Reps.length : ∀ {ds : List D} {vs : List V}, Reps K H ds vs -> vs.length = ds.length
 | [], _, h => by cases (show _ = _ from h); rfl
 | d :: ds, _, ⟨v, r, e1, _, h2⟩ => by subst e1; exact congrArg (· + 1) (Reps.length h2)
theorem Reps.get : ∀ {ds : List D} {vs : List V} {i : Nat} {d : D}, Reps K H ds vs -> ds[i]? = some d -> ∃ v, vs[i]? = some v /\ Rep K H d v
 | [], _, _, _, _, e => by simp at e
 | x :: ds, _, 0, d, ⟨v, r, e1, h1, _⟩, e => by
   simp at e; subst e; subst e1
   exact ⟨v, rfl, h1⟩
 | x :: ds, _, i + 1, d, ⟨v, r, e1, _, h2⟩, e => by
   subst e1
   obtain ⟨u, q1, q2⟩ := Reps.get (i := i) h2 (by simpa using e)
   exact ⟨u, by simpa using q1, q2⟩
theorem Reps.get' : ∀ {ds : List D} {vs : List V} {i : Nat} {v : V}, Reps K H ds vs -> vs[i]? = some v -> ∃ d, ds[i]? = some d /\ Rep K H d v := λ {ds vs i v} h e => by
 have hi : i < vs.length := (List.getElem?_eq_some_iff.mp e).1
 have hd : i < ds.length := by rw [<- h.length]; exact hi
 obtain ⟨u, q1, q2⟩ := h.get (List.getElem?_eq_getElem hd)
 rw [e] at q1
 cases q1
 exact ⟨_, List.getElem?_eq_getElem hd, q2⟩
theorem Reps.append : ∀ {ds es : List D} {vs us : List V}, Reps K H ds vs -> Reps K H es us -> Reps K H (ds ++ es) (vs ++ us)
 | [], _, _, _, h, q => by cases (show _ = _ from h); exact q
 | d :: ds, _, _, _, ⟨v, r, e1, h1, h2⟩, q => by
   subst e1
   exact ⟨v, _, rfl, h1, Reps.append h2 q⟩
theorem Reps.take : ∀ {ds : List D} {vs : List V} (n : Nat), Reps K H ds vs -> Reps K H (ds.take n) (vs.take n)
 | _, _, 0, _ => by rw [List.take_zero, List.take_zero]; rfl
 | [], _, n + 1, h => by cases (show _ = _ from h); rfl
 | d :: ds, _, n + 1, ⟨v, r, e1, h1, h2⟩ => by
   subst e1
   exact ⟨v, _, rfl, h1, Reps.take n h2⟩
theorem Reps.drop : ∀ {ds : List D} {vs : List V} (n : Nat), Reps K H ds vs -> Reps K H (ds.drop n) (vs.drop n)
 | _, _, 0, h => h
 | [], _, n + 1, h => by cases (show _ = _ from h); rfl
 | d :: ds, _, n + 1, ⟨v, r, e1, h1, h2⟩ => by
   subst e1
   exact Reps.drop n h2
theorem Reps.set {d : D} {v : V} (hv : Rep K H d v) : ∀ {ds : List D} {vs : List V} (n : Nat), Reps K H ds vs -> Reps K H (ds.set n d) (vs.set n v)
 | [], _, n, h => by cases (show _ = _ from h); rfl
 | x :: ds, _, 0, ⟨u, r, e1, h1, h2⟩ => by
   subst e1
   exact ⟨v, _, rfl, hv, h2⟩
 | x :: ds, _, n + 1, ⟨u, r, e1, h1, h2⟩ => by
   subst e1
   exact ⟨u, _, rfl, h1, Reps.set hv n h2⟩
theorem Repf.get : ∀ {fs : List (Str × D)} {vs : List (Str × V)} {f : Str} {d : D}, Repf K H fs vs -> fs.lookup f = some d -> ∃ v, vs.lookup f = some v /\ Rep K H d v
 | [], _, _, _, _, e => by simp at e
 | (g, x) :: fs, _, f, d, ⟨v, r, e1, h1, h2⟩, e => by
   subst e1
   by_cases hg : f = g
   · subst hg
     rw [List.lookup_cons_self] at e ⊢
     cases e
     exact ⟨v, rfl, h1⟩
   · have hb : (f == g) = false := by simpa using hg
     simp only [List.lookup, hb] at e ⊢
     exact Repf.get h2 e
end
class TbC where
 T : List (Addr × Str)
variable [TbC]
def Ext (B B' : Hp) : Prop := ∀ b o, B b = some o -> B' b = some o ∨ ∃ ps ps', o = .tbl ps /\ B' b = some (.tbl ps')
def qbv (p : Addr) (o : HO) : Prop := (∀ ps, o ≠ .tbl ps) /\ ∀ q, o ≠ LamX.CodeO p q
def TD (A B : Hp) : Prop := (∀ p ps, A p ≠ some (.tbl ps)) /\ LamX.Tabs TbC.T B
section
omit [TbC]
variable {A B A1 B1 C1 : Hp} {p : Addr} {o : HO}
theorem _root_.L2.Same.ext (h : Same A B) : Ext A B := λ b o e => .inl (h b o e)
theorem Ext.refl (A : Hp) : Ext A A := (Same.refl A).ext
theorem Ext.at (h : Ext A B) (e : A p = some o) (n : ∀ ps, o ≠ .tbl ps := by intro ps z; cases z) : B p = some o := by
 rcases h p o e with z | ⟨ps, _, z, _⟩
 · exact z
 · exact absurd z (n ps)
theorem Ext.trans (a : Ext A B) (b : Ext B C1) : Ext A C1 := λ c o e => by
 rcases a c o e with z | ⟨ps, ps', z1, z2⟩
 · exact b c o z
 · rcases b c _ z2 with z | ⟨qs, qs', y1, y2⟩
   · exact .inr ⟨ps, ps', z1, z⟩
   · exact .inr ⟨ps, qs', z1, y2⟩
theorem Ext.ne (h : Ext A B) (e : A p ≠ none) : B p ≠ none := by
 cases q : A p with
 | none => exact absurd q e
 | some o =>
   rcases h p o q with z | ⟨ps, ps', _, z⟩ <;> (rw [z]; exact λ y => nomatch y)
theorem Ext.free (h : Ext A B) (e : B p = none) : A p = none := by
 cases q : A p with
 | none => rfl
 | some o => exact absurd e (h.ne (by rw [q]; exact λ y => nomatch y))
theorem qc6 (h : Ext A B) (hp : A p = none) : Ext A (upd B p o) := λ b x e => by
 rw [upd_ne (ne_of_none e hp)]
 exact h b x e
theorem qgU {φ : Heap -> Prop} (n : ∀ (h : Heap) (o : Obj) (vs : Array Value), φ h -> h.get? p = some o -> o.data = .fields vs -> False) : qbv p (.ext φ) := by
 refine ⟨(λ qs z => nomatch z), λ q z => ?_⟩
 unfold LamX.CodeO at z
 injection z with z
 have hc : ∃ h : Heap, h.get? p = some { cls := .none, data := .fields #[.none, .str q 0] } := by
   refine ⟨{ objs := Array.replicate (p + 1) { cls := .none, data := .fields #[.none, .str q 0] } }, ?_⟩
   simp [Heap.get?]
 obtain ⟨h, hh⟩ := hc
 refine n h _ _ ?_ hh rfl
 rw [congrFun z h]
 exact ⟨_, #[.none, .str q 0], 0, hh, rfl, rfl⟩
theorem qAa {w : World} {ps : List (NestedKey × Addr × V)} : qbv p (DtO w p ps) := qgU λ h o vs k hh hd => by
 obtain ⟨xs, o2, es, ep, _, e1, _, e2, _⟩ := k.ex
 rw [hh] at e1
 cases e1
 rw [hd] at e2
 cases e2
theorem qtj {c : Addr} {m : Nat} : qbv p (bagO p c m) := qgU λ h o vs k hh hd => by
 obtain ⟨_, _, _, _, _, _, _, _, _, e1, _⟩ := k.ex
 rw [hh] at e1
 cases e1
 cases hd
end
theorem qb3 {A B : Hp} (h : TD A B) {B' : Hp} (s : Same B B') : TD A B' := ⟨h.1, h.2.ext s⟩
structure Grow (A B A' B' : Hp) : Prop where
 g0 : Same A A'
 g1 : Ext B B'
 g2 : Same A' B'
 nw : ∀ p, B p ≠ none -> A' p = A p
 tb : TD A B -> TD A' B'
section
variable {A B A1 B1 A2 B2 : Hp} {p : Addr} {o : HO}
theorem Grow.refl (h : Same A B) : Grow A B A B := ⟨.refl _, .refl _, h, λ _ _ => rfl, id⟩
theorem ne_none_of {H H' : Hp} (e : Ext H H') {p : Addr} (h : H p ≠ none) : H' p ≠ none := e.ne h
theorem Grow.trans (a : Grow A B A1 B1) (b : Grow A1 B1 A2 B2) : Grow A B A2 B2 :=
 ⟨a.g0.trans b.g0, a.g1.trans b.g1, b.g2, λ p hp => (b.nw p (ne_none_of a.g1 hp)).trans (a.nw p hp), λ t => b.tb (a.tb t)⟩
theorem same_upd {H : Hp} (h : H p = none) : Same H (upd H p o) := λ b x e => by
 rw [upd_ne (ne_of_none e h)]
 exact e
theorem qiV (h : Same A B) : Same (upd A p o) (upd B p o) := λ b x e => by
 by_cases hb : b = p
 · subst hb
   rw [upd_same] at e ⊢
   exact e
 · rw [upd_ne hb] at e ⊢
   exact h b x e
theorem qbi (h : Same A B) (hp : A p = none) : Same A (upd B p o) := λ b x e => by
 rw [upd_ne (ne_of_none e hp)]
 exact h b x e
theorem qcn (h : TD A B) (n : ∀ ps, o ≠ .tbl ps := by intro ps z; cases z) : TD (upd A p o) B := ⟨λ b ps e => by
 by_cases hb : b = p
 · subst hb
   rw [upd_same] at e
   exact n ps (Option.some.inj e)
 · rw [upd_ne hb] at e
   exact h.1 b ps e, h.2⟩
theorem qc5 (h : TD A B) (hp : B p = none) : TD A (upd B p o) := qb3 h (same_upd hp)
theorem qvb (h : TD A B) (hp : B p = none) (n : ∀ ps, o ≠ .tbl ps := by intro ps z; cases z) : TD (upd A p o) (upd B p o) := qc5 (qcn h n) hp
theorem qgc {B' : Hp} (h : TD A B) (s : ∀ p, B' p = B p ∨ B p = none ∨ ∃ o, B p = some o /\ qbv p o) : TD A B' := ⟨h.1, λ t ht => by
 obtain ⟨ps, h1, h2, h3⟩ := h.2 t ht
 refine ⟨ps, ?_, h2, λ pos cv hc => ?_⟩
 · rcases s t.1 with z | z | ⟨o, z, n⟩
   · rw [z]
     exact h1
   · rw [z] at h1
     cases h1
   · rw [z] at h1
     exact absurd (Option.some.inj h1) (n.1 ps)
 · obtain ⟨c, z1, z2⟩ := h3 pos cv hc
   refine ⟨c, z1, ?_⟩
   rcases s c with z | z | ⟨o, z, n⟩
   · rw [z]
     exact z2
   · rw [z] at z2
     cases z2
   · rw [z] at z2
     exact absurd (Option.some.inj z2) (n.2 t.2)⟩
theorem qdA {o' : HO} (h : TD A B) (hp : B p = some o) (n : qbv p o) : TD A (upd B p o') := qgc h λ b => by
 by_cases hb : b = p
 · exact .inr (.inr ⟨o, by rw [hb]; exact hp, by rw [hb]; exact n⟩)
 · exact .inl (upd_ne hb)
theorem qyH {A' : Hp} (h : TD A B) (s : Same A' A) : TD A' B := ⟨λ p ps e => h.1 p ps (s _ _ e), h.2⟩
theorem qcW {xs : List V} : qbv p (.lst xs) := ⟨(λ _ z => nomatch z), λ q z => (by unfold LamX.CodeO at z; cases z)⟩
theorem qvk {C dx : Addr} {fs : List (Str × V)} : qbv p (.ins C dx fs) := ⟨(λ _ z => nomatch z), λ q z => (by unfold LamX.CodeO at z; cases z)⟩
theorem Grow.new (h : Same A B) (hp : B p = none) (n : ∀ ps, o ≠ .tbl ps := by intro ps z; cases z) : Grow A B (upd A p o) (upd B p o) :=
 ⟨same_upd (h.free hp), (same_upd hp).ext, qiV h, λ q hq => by
   by_cases e : q = p
   · subst e
     exact absurd hp hq
   · rw [upd_ne e], λ t => qvb t hp n⟩
end
inductive SV where
 | d (x : D) | lst (x : Addr) (xs : List D) | ins (x C : Addr) (fs : List (Str × D)) | dk (x : Addr) (kvs : List (Key × D)) | dt (x : Addr) (w : World) (kvs : List (NestedKey × D))
 | pg (x C : Addr) (fs : List (Str × D)) (q : Addr) (xs : List D)
def SV.isPg : SV -> Bool
 | .pg _ _ _ _ _ => true
 | _ => false
abbrev Rho := List (Option SV)
def OwnRep (K : PySem.W.Frag) (H0 : Hp) (a : Addr) : SV -> HO -> Prop
 | .d _, _ => False
 | .lst x xs, o => x = a /\ ∃ vs, o = .lst vs /\ Reps K H0 xs vs
 | .ins x C fs, o => x = a /\ ∃ dx fvs, o = .ins C dx fvs /\ Repf K H0 fs fvs
 | .dk x kvs, o => x = a /\ ∃ vs, o = .dK vs /\ Repk K H0 kvs vs
 | .dt x w kvs, o => x = a /\ ∃ ps, o = DtO w a ps /\ RepT K H0 kvs ps
 | .pg x C fs _ _, o => x = a /\ ∃ dx fvs, o = .ins C dx fvs /\ Repf K H0 fs fvs
theorem OwnRep.mono {K : PySem.W.Frag} {H H' : Hp} {a : Addr} (e : Same H H') : ∀ {w : SV} {o : HO}, OwnRep K H a w o -> OwnRep K H' a w o
 | .lst _ _, _, ⟨ex, vs, e1, h⟩ => ⟨ex, vs, e1, Reps.mono e _ _ h⟩
 | .ins _ _ _, _, ⟨ex, dx, fvs, e1, h⟩ => ⟨ex, dx, fvs, e1, Repf.mono e _ _ h⟩
 | .dk _ _, _, ⟨ex, vs, e1, h⟩ => ⟨ex, vs, e1, Repk.mono e _ _ h⟩
 | .dt _ _ _, _, ⟨ex, ps, e1, h⟩ => ⟨ex, ps, e1, RepT.mono e _ _ h⟩
 | .pg _ _ _ _ _, _, ⟨ex, dx, fvs, e1, h⟩ => ⟨ex, dx, fvs, e1, Repf.mono e _ _ h⟩
theorem OwnRep.plain {K : PySem.W.Frag} {H : Hp} {a : Addr} : ∀ {w : SV} {o : HO}, OwnRep K H a w o -> qbv a o
 | .lst _ _, _, ⟨_, vs, e1, _⟩ => by
   subst e1
   exact ⟨(λ _ z => nomatch z), λ q z => (by unfold LamX.CodeO at z; cases z)⟩
 | .ins _ _ _, _, ⟨_, dx, fvs, e1, _⟩ => by
   subst e1
   exact ⟨(λ _ z => nomatch z), λ q z => (by unfold LamX.CodeO at z; cases z)⟩
 | .dk _ _, _, ⟨_, vs, e1, _⟩ => by
   subst e1
   exact ⟨(λ _ z => nomatch z), λ q z => (by unfold LamX.CodeO at z; cases z)⟩
 | .dt _ _ _, _, ⟨_, ps, e1, _⟩ => by
   subst e1
   exact qAa
 | .pg _ _ _ _ _, _, ⟨_, dx, fvs, e1, _⟩ => by
   subst e1
   exact ⟨(λ _ z => nomatch z), λ q z => (by unfold LamX.CodeO at z; cases z)⟩
def Slot (K : PySem.W.Frag) (B1 H0 H : Hp) : Option SV -> Option V -> Option Addr -> Prop
 | none, _, oa => oa = none
 | some (.d x), v, oa => oa = none /\ ∃ u, v = some u /\ Rep K H0 x u
 | some w, v, oa => ∃ a o, v = some (.ref a) /\ oa = some a /\ H0 a = none /\ B1 a = none /\ H a = some o /\ OwnRep K H0 a w o
structure RepS (K : PySem.W.Frag) (B0 B1 : Hp) (A : Nat -> Option Addr) (H0 H : Hp) (σ : L2.St) (ρ : Rho) : Prop where
 ex : Same H0 H
 gr : Grow B0 B1 H0 H
 len : σ.length = ρ.length
 slot : ∀ i w, ρ[i]? = some w -> ∃ v, σ[i]? = some v /\ Slot K B1 H0 H w v (A i)
 inj : ∀ i j a, A i = some a -> A j = some a -> i = j
 own : ∀ i a, A i = some a -> H0 a = none /\ B1 a = none /\ ∃ o, H a = some o /\ qbv a o
 sz : ρ.length <= 1000
 nest : ∀ i x C fs q xs, ρ[i]? = some (some (.pg x C fs q xs)) -> A (i + 1000) = some q /\ ∃ us, H q = some (.lst us) /\ Reps K H0 xs us
section
variable {K : PySem.W.Frag} {B0 B1 H0 H H0' H' : Hp} {A : Nat -> Option Addr} {σ : L2.St} {ρ : Rho}
theorem Slot.grow (g : Grow H0 H H0' H') : ∀ {w : Option SV} {v : Option V} {oa : Option Addr}, Slot K B1 H0 H w v oa -> Slot K B1 H0' H' w v oa
 | none, _, _, h => h
 | some (.d x), _, _, ⟨e, u, e1, r⟩ => ⟨e, u, e1, Rep.mono g.g0 _ _ r⟩
 | some (.lst x xs), _, _, ⟨a, o, e1, e2, n, b, ho, r⟩ => ⟨a, o, e1, e2, (g.nw a (by rw [ho]; exact λ z => nomatch z)).trans n, b, g.g1.at ho r.plain.1, r.mono g.g0⟩
 | some (.ins x C fs), _, _, ⟨a, o, e1, e2, n, b, ho, r⟩ => ⟨a, o, e1, e2, (g.nw a (by rw [ho]; exact λ z => nomatch z)).trans n, b, g.g1.at ho r.plain.1, r.mono g.g0⟩
 | some (.dk x kvs), _, _, ⟨a, o, e1, e2, n, b, ho, r⟩ => ⟨a, o, e1, e2, (g.nw a (by rw [ho]; exact λ z => nomatch z)).trans n, b, g.g1.at ho r.plain.1, r.mono g.g0⟩
 | some (.dt x w kvs), _, _, ⟨a, o, e1, e2, n, b, ho, r⟩ => ⟨a, o, e1, e2, (g.nw a (by rw [ho]; exact λ z => nomatch z)).trans n, b, g.g1.at ho r.plain.1, r.mono g.g0⟩
 | some (.pg x C fs q xs), _, _, ⟨a, o, e1, e2, n, b, ho, r⟩ => ⟨a, o, e1, e2, (g.nw a (by rw [ho]; exact λ z => nomatch z)).trans n, b, g.g1.at ho r.plain.1, r.mono g.g0⟩
theorem RepS.grow (R : RepS K B0 B1 A H0 H σ ρ) (g : Grow H0 H H0' H') : RepS K B0 B1 A H0' H' σ ρ :=
 ⟨g.g2, R.gr.trans g, R.len, λ i w e => by
   obtain ⟨v, e1, s⟩ := R.slot i w e
   exact ⟨v, e1, s.grow g⟩, R.inj, λ i a e => by
   obtain ⟨h1, h2, o, h3, h4⟩ := R.own i a e
   exact ⟨(g.nw a (by rw [h3]; exact λ z => nomatch z)).trans h1, h2, o, g.g1.at h3 h4.1, h4⟩, R.sz, λ i x C fs q xs e => by
   obtain ⟨h1, us, h2, h3⟩ := R.nest i x C fs q xs e
   exact ⟨h1, us, g.g1.at h2, Reps.mono g.g0 _ _ h3⟩⟩
def clr (A : Nat -> Option Addr) (i : Nat) : Nat -> Option Addr := λ j => if j = i /\ i < 1000 then none else A j
def sto (A : Nat -> Option Addr) (i : Nat) (a : Addr) : Nat -> Option Addr := λ j => if j = i then some a else A j
theorem qb6 {i j : Nat} {a : Addr} (h : clr A i j = some a) : (i < 1000 -> j ≠ i) /\ A j = some a := by
 unfold clr at h
 by_cases e : j = i /\ i < 1000
 · rw [if_pos e] at h
   cases h
 · rw [if_neg e] at h
   exact ⟨λ z q => e ⟨q, z⟩, h⟩
theorem qks {i : Nat} (h : i < 1000) : clr A i i = none := if_pos ⟨rfl, h⟩
theorem qlC {i j : Nat} (h : j ≠ i) : clr A i j = A j := if_neg λ z => h z.1
theorem qpj {i j : Nat} : clr A i (j + 1000) = A (j + 1000) := if_neg λ z => by omega
theorem qfY {i j : Nat} {w : Option SV} {x C q : Addr} {fs : List (Str × D)} {xs : List D} (hw : ∀ s, w = some s -> s.isPg = false) (e : (ρ.set i w)[j]? = some (some (.pg x C fs q xs))) : i ≠ j /\ ρ[j]? = some (some (.pg x C fs q xs)) := by
 by_cases hj : i = j
 · subst hj
   by_cases hl : i < ρ.length
   · rw [List.getElem?_set_self hl] at e
     cases e
     have := hw _ rfl
     cases this
   · rw [List.getElem?_eq_none (by simpa using hl)] at e
     cases e
 · rw [List.getElem?_set_ne hj] at e
   exact ⟨hj, e⟩
theorem RepS.setD (R : RepS K B0 B1 A H0 H σ ρ) {x : D} {u : V} (i : Nat) (r : Rep K H0 x u) : RepS K B0 B1 (clr A i) H0 H (σ.set i (some u)) (ρ.set i (some (.d x))) := by
 refine ⟨R.ex, R.gr, by rw [List.length_set, List.length_set]; exact R.len, λ j w e => ?_, λ j k a h1 h2 => R.inj j k a (qb6 h1).2 (qb6 h2).2, λ j a h => R.own j a (qb6 h).2, by rw [List.length_set]; exact R.sz, λ j x2 C fs q xs e => by
   obtain ⟨_, e⟩ := qfY (λ s h => by cases h; rfl) e
   rw [qpj]
   exact R.nest j x2 C fs q xs e⟩
 by_cases hj : i = j
 · subst hj
   by_cases hl : i < ρ.length
   · rw [List.getElem?_set_self hl] at e
     cases e
     refine ⟨some u, by rw [List.getElem?_set_self (by rw [R.len]; exact hl)], ?_⟩
     exact ⟨qks (by have := R.sz; omega), u, rfl, r⟩
   · rw [List.getElem?_eq_none (by simpa using hl)] at e
     cases e
 · rw [List.getElem?_set_ne hj] at e
   obtain ⟨v, e1, s⟩ := R.slot j w e
   refine ⟨v, by rw [List.getElem?_set_ne hj]; exact e1, ?_⟩
   rw [qlC (λ z => hj z.symm)]
   exact s
theorem RepS.setNone (R : RepS K B0 B1 A H0 H σ ρ) (i : Nat) : RepS K B0 B1 (clr A i) H0 H (σ.set i none) (ρ.set i none) := by
 refine ⟨R.ex, R.gr, by rw [List.length_set, List.length_set]; exact R.len, λ j w e => ?_, λ j k a h1 h2 => R.inj j k a (qb6 h1).2 (qb6 h2).2, λ j a h => R.own j a (qb6 h).2, by rw [List.length_set]; exact R.sz, λ j x2 C fs q xs e => by
   obtain ⟨_, e⟩ := qfY (λ s h => by cases h) e
   rw [qpj]
   exact R.nest j x2 C fs q xs e⟩
 by_cases hj : i = j
 · subst hj
   by_cases hl : i < ρ.length
   · rw [List.getElem?_set_self hl] at e
     cases e
     refine ⟨none, by rw [List.getElem?_set_self (by rw [R.len]; exact hl)], ?_⟩
     exact qks (by have := R.sz; omega)
   · rw [List.getElem?_eq_none (by simpa using hl)] at e
     cases e
 · rw [List.getElem?_set_ne hj] at e
   obtain ⟨v, e1, s⟩ := R.slot j w e
   refine ⟨v, by rw [List.getElem?_set_ne hj]; exact e1, ?_⟩
   rw [qlC (λ z => hj z.symm)]
   exact s
theorem RepS.setOwn (R : RepS K B0 B1 A H0 H σ ρ) {w : SV} {a : Addr} {o : HO} (i : Nat) (hi : i < ρ.length) (na : H a = none) (hw : OwnRep K H0 a w o) (hn : w.isPg = false := by rfl) : RepS K B0 B1 (sto A i a) H0 (upd H a o) (σ.set i (some (.ref a))) (ρ.set i (some w)) := by
 have n0 : H0 a = none := R.ex.free na
 have nb : B1 a = none := R.gr.g1.free na
 have ne : ∀ j b, A j = some b -> b ≠ a := λ j b h e => by
   subst e
   obtain ⟨_, _, o2, z, _⟩ := R.own j b h
   rw [na] at z
   cases z
 have slotOf : Slot K B1 H0 (upd H a o) (some w) (some (.ref a)) (some a) := by
   cases w with
   | d x => exact hw.elim
   | lst x2 xs => exact ⟨a, o, rfl, rfl, n0, nb, upd_same, hw⟩
   | ins x C fs => exact ⟨a, o, rfl, rfl, n0, nb, upd_same, hw⟩
   | dk x2 kvs => exact ⟨a, o, rfl, rfl, n0, nb, upd_same, hw⟩
   | dt x2 w2 kvs => exact ⟨a, o, rfl, rfl, n0, nb, upd_same, hw⟩
   | pg x9 C9 fs9 q9 xs9 => exact ⟨a, o, rfl, rfl, n0, nb, upd_same, hw⟩
 refine ⟨qbi R.ex n0, ⟨R.gr.g0, qc6 R.gr.g1 nb, qbi R.ex n0, R.gr.nw, λ t => qc5 (R.gr.tb t) na⟩, by rw [List.length_set, List.length_set]; exact R.len, λ j x e => ?_, λ j k b h1 h2 => ?_, λ j b h => ?_, by rw [List.length_set]; exact R.sz, λ j x2 C fs q xs e => by
   obtain ⟨_, e⟩ := qfY (λ s h => by cases h; exact hn) e
   obtain ⟨h1, us, h2, h3⟩ := R.nest j x2 C fs q xs e
   refine ⟨?_, us, by rw [upd_ne (ne _ _ h1)]; exact h2, h3⟩
   unfold sto
   rw [if_neg (by have := R.sz; omega)]
   exact h1⟩
 · by_cases hj : i = j
   · subst hj
     rw [List.getElem?_set_self hi] at e
     cases e
     refine ⟨some (.ref a), by rw [List.getElem?_set_self (by rw [R.len]; exact hi)], ?_⟩
     unfold sto
     rw [if_pos rfl]
     exact slotOf
   · rw [List.getElem?_set_ne hj] at e
     obtain ⟨v, e1, s⟩ := R.slot j x e
     refine ⟨v, by rw [List.getElem?_set_ne hj]; exact e1, ?_⟩
     unfold sto
     rw [if_neg (λ z => hj z.symm)]
     cases x with
     | none => exact s
     | some x =>
       cases x with
       | d y => exact s
       | lst x2 xs =>
         obtain ⟨b, o', e2, e3, n, b1, ho, r⟩ := s
         exact ⟨b, o', e2, e3, n, b1, by rw [upd_ne (ne j b e3)]; exact ho, r⟩
       | ins x2 C fs =>
         obtain ⟨b, o', e2, e3, n, b1, ho, r⟩ := s
         exact ⟨b, o', e2, e3, n, b1, by rw [upd_ne (ne j b e3)]; exact ho, r⟩
       | dk x2 kvs =>
         obtain ⟨b, o', e2, e3, n, b1, ho, r⟩ := s
         exact ⟨b, o', e2, e3, n, b1, by rw [upd_ne (ne j b e3)]; exact ho, r⟩
       | dt x2 w2 kvs =>
         obtain ⟨b, o', e2, e3, n, b1, ho, r⟩ := s
         exact ⟨b, o', e2, e3, n, b1, by rw [upd_ne (ne j b e3)]; exact ho, r⟩
       | pg x9 C9 fs9 q9 xs9 =>
         obtain ⟨b, o', e2, e3, n, b1, ho, r⟩ := s
         exact ⟨b, o', e2, e3, n, b1, by rw [upd_ne (ne j b e3)]; exact ho, r⟩
 · unfold sto at h1 h2
   by_cases hj : j = i
   · rw [if_pos hj] at h1
     cases h1
     by_cases hk : k = i
     · exact hj.trans hk.symm
     · rw [if_neg hk] at h2
       exact absurd rfl (ne k a h2)
   · rw [if_neg hj] at h1
     by_cases hk : k = i
     · rw [if_pos hk] at h2
       cases h2
       exact absurd rfl (ne j a h1)
     · rw [if_neg hk] at h2
       exact R.inj j k b h1 h2
 · unfold sto at h
   by_cases hj : j = i
   · rw [if_pos hj] at h
     cases h
     exact ⟨n0, nb, o, upd_same, hw.plain⟩
   · rw [if_neg hj] at h
     obtain ⟨q1, q2, o2, q3, q4⟩ := R.own j b h
     exact ⟨q1, q2, o2, by rw [upd_ne (ne j b h)]; exact q3, q4⟩
theorem RepS.ownAt (R : RepS K B0 B1 A H0 H σ ρ) {w : SV} {i : Nat} (e : ρ[i]? = some (some w)) (hw : ∀ x, w ≠ .d x) : ∃ a o, σ[i]? = some (some (.ref a)) /\ A i = some a /\ H0 a = none /\ B1 a = none /\ H a = some o /\ OwnRep K H0 a w o := by
 obtain ⟨v, e1, s⟩ := R.slot i _ e
 cases w with
 | d x => exact absurd rfl (hw x)
 | lst x2 xs =>
   obtain ⟨a, o, e2, e3, n, b1, ho, r⟩ := s
   subst e2
   exact ⟨a, o, e1, e3, n, b1, ho, r⟩
 | ins x2 C fs =>
   obtain ⟨a, o, e2, e3, n, b1, ho, r⟩ := s
   subst e2
   exact ⟨a, o, e1, e3, n, b1, ho, r⟩
 | dk x2 kvs =>
   obtain ⟨a, o, e2, e3, n, b1, ho, r⟩ := s
   subst e2
   exact ⟨a, o, e1, e3, n, b1, ho, r⟩
 | dt x2 w2 kvs =>
   obtain ⟨a, o, e2, e3, n, b1, ho, r⟩ := s
   subst e2
   exact ⟨a, o, e1, e3, n, b1, ho, r⟩
 | pg x9 C9 fs9 q9 xs9 =>
   obtain ⟨a, o, e2, e3, n, b1, ho, r⟩ := s
   subst e2
   exact ⟨a, o, e1, e3, n, b1, ho, r⟩
theorem RepS.updOwn (R : RepS K B0 B1 A H0 H σ ρ) {w : SV} {i : Nat} {a : Addr} {o : HO} (hi : i < ρ.length) (hs : σ[i]? = some (some (.ref a))) (ha : A i = some a) (hw : OwnRep K H0 a w o) (hn : w.isPg = false := by rfl) : RepS K B0 B1 A H0 (upd H a o) σ (ρ.set i (some w)) := by
 obtain ⟨n0, nb, o9, nh, np⟩ := R.own i a ha
 refine ⟨qbi R.ex n0, ⟨R.gr.g0, qc6 R.gr.g1 nb, qbi R.ex n0, R.gr.nw, λ t => qdA (R.gr.tb t) nh np⟩, by rw [List.length_set]; exact R.len, λ j x e => ?_, R.inj, λ j b h => ?_, by rw [List.length_set]; exact R.sz, λ j x2 C fs q xs e => by
   obtain ⟨_, e⟩ := qfY (λ s h => by cases h; exact hn) e
   obtain ⟨h1, us, h2, h3⟩ := R.nest j x2 C fs q xs e
   refine ⟨h1, us, ?_, h3⟩
   rw [upd_ne (λ z => by subst z; have := R.inj _ _ _ h1 ha; have := R.sz; omega)]
   exact h2⟩
 · by_cases hj : i = j
   · subst hj
     rw [List.getElem?_set_self hi] at e
     cases e
     refine ⟨_, hs, ?_⟩
     cases w with
     | d x => exact hw.elim
     | lst x2 xs => exact ⟨a, o, rfl, ha, n0, nb, upd_same, hw⟩
     | ins x C fs => exact ⟨a, o, rfl, ha, n0, nb, upd_same, hw⟩
     | dk x2 kvs => exact ⟨a, o, rfl, ha, n0, nb, upd_same, hw⟩
     | dt x2 w2 kvs => exact ⟨a, o, rfl, ha, n0, nb, upd_same, hw⟩
     | pg x9 C9 fs9 q9 xs9 => exact ⟨a, o, rfl, ha, n0, nb, upd_same, hw⟩
   · rw [List.getElem?_set_ne hj] at e
     obtain ⟨v, e1, s⟩ := R.slot j x e
     have ne : ∀ b, A j = some b -> b ≠ a := λ b h z => by
       subst z
       exact hj (R.inj i j b ha h)
     refine ⟨v, e1, ?_⟩
     cases x with
     | none => exact s
     | some x =>
       cases x with
       | d y => exact s
       | lst x2 xs =>
         obtain ⟨b, o', e2, e3, n, b1, ho, r⟩ := s
         exact ⟨b, o', e2, e3, n, b1, by rw [upd_ne (ne b e3)]; exact ho, r⟩
       | ins x2 C fs =>
         obtain ⟨b, o', e2, e3, n, b1, ho, r⟩ := s
         exact ⟨b, o', e2, e3, n, b1, by rw [upd_ne (ne b e3)]; exact ho, r⟩
       | dk x2 kvs =>
         obtain ⟨b, o', e2, e3, n, b1, ho, r⟩ := s
         exact ⟨b, o', e2, e3, n, b1, by rw [upd_ne (ne b e3)]; exact ho, r⟩
       | dt x2 w2 kvs =>
         obtain ⟨b, o', e2, e3, n, b1, ho, r⟩ := s
         exact ⟨b, o', e2, e3, n, b1, by rw [upd_ne (ne b e3)]; exact ho, r⟩
       | pg x9 C9 fs9 q9 xs9 =>
         obtain ⟨b, o', e2, e3, n, b1, ho, r⟩ := s
         exact ⟨b, o', e2, e3, n, b1, by rw [upd_ne (ne b e3)]; exact ho, r⟩
 · obtain ⟨q1, q2, o2, q3, q4⟩ := R.own j b h
   refine ⟨q1, q2, ?_⟩
   by_cases hb : b = a
   · subst hb
     exact ⟨o, upd_same, hw.plain⟩
   · exact ⟨o2, by rw [upd_ne hb]; exact q3, q4⟩
theorem RepS.rebase (R : RepS K B0 B1 A H0 H σ ρ) : ∃ B1', RepS K H0 B1' A H0 H σ ρ /\ Same H0 B1' /\ (∀ i a, A i = some a -> B1' a = none) /\ (∀ p, H p ≠ none -> (∀ i, A i ≠ some p) -> B1' p = H p) /\
   ∀ H0' H', Grow H0 B1' H0' H' -> Grow B0 B1 H0' H' := by
 classical
 refine ⟨λ p => if ∃ i, A i = some p then none else H p, ?_, ?_, ?_, ?_, ?_⟩
 · have h0 : Same (λ p => if ∃ i, A i = some p then none else H p) H := λ b x e => by
     have e : (if ∃ i, A i = some b then none else H b) = some x := e
     by_cases hb : ∃ i, A i = some b
     · rw [if_pos hb] at e
       cases e
     · rw [if_neg hb] at e
       exact e
   refine ⟨R.ex, ⟨.refl _, h0.ext, R.ex, λ _ _ => rfl, λ t => qb3 t h0⟩, R.len, λ i w e => ?_, R.inj, λ i a h => ?_, R.sz, R.nest⟩
   · obtain ⟨v, e1, s⟩ := R.slot i w e
     refine ⟨v, e1, ?_⟩
     cases w with
     | none => exact s
     | some w =>
       cases w with
       | d y => exact s
       | lst x2 xs =>
         obtain ⟨b, o', e2, e3, n, b1, ho', r⟩ := s
         exact ⟨b, o', e2, e3, n, if_pos ⟨i, e3⟩, ho', r⟩
       | ins x2 C fs =>
         obtain ⟨b, o', e2, e3, n, b1, ho', r⟩ := s
         exact ⟨b, o', e2, e3, n, if_pos ⟨i, e3⟩, ho', r⟩
       | dk x2 kvs =>
         obtain ⟨b, o', e2, e3, n, b1, ho', r⟩ := s
         exact ⟨b, o', e2, e3, n, if_pos ⟨i, e3⟩, ho', r⟩
       | dt x2 w2 kvs =>
         obtain ⟨b, o', e2, e3, n, b1, ho', r⟩ := s
         exact ⟨b, o', e2, e3, n, if_pos ⟨i, e3⟩, ho', r⟩
       | pg x9 C9 fs9 q9 xs9 =>
         obtain ⟨b, o', e2, e3, n, b1, ho', r⟩ := s
         exact ⟨b, o', e2, e3, n, if_pos ⟨i, e3⟩, ho', r⟩
   · obtain ⟨q1, q2, q3⟩ := R.own i a h
     exact ⟨q1, if_pos ⟨i, h⟩, q3⟩
 · intro b x e
   show (if ∃ i, A i = some b then none else H b) = some x
   rw [if_neg (λ ⟨i, hi⟩ => by rw [(R.own i b hi).1] at e; cases e)]
   exact R.ex b x e
 · intro i a h
   exact if_pos ⟨i, h⟩
 · intro p _ h
   exact if_neg λ ⟨i, hi⟩ => h i hi
 · intro H0' H' g
   have hB : Ext B1 (λ p => if ∃ i, A i = some p then none else H p) := λ b x e => by
     show (if ∃ i, A i = some b then none else H b) = some x ∨ ∃ ps ps', x = .tbl ps /\ (if ∃ i, A i = some b then none else H b) = some (.tbl ps')
     rw [if_neg (λ ⟨i, hi⟩ => by rw [(R.own i b hi).2.1] at e; cases e)]
     exact R.gr.g1 b x e
   exact ⟨R.gr.g0.trans g.g0, hB.trans g.g1, g.g2, λ p hp => (g.nw p (ne_none_of hB hp)).trans (R.gr.nw p hp), λ t => g.tb (qgc (R.gr.tb t) λ p => by
     show (if ∃ i, A i = some p then none else H p) = H p ∨ _
     by_cases hb : ∃ i, A i = some p
     · obtain ⟨i, hi⟩ := hb
       obtain ⟨_, _, o, z1, z2⟩ := R.own i p hi
       exact .inr (.inr ⟨o, z1, z2⟩)
     · exact .inl (if_neg hb))⟩
theorem RepS.unbase {B1' : Hp} {A' : Nat -> Option Addr} {σ' : L2.St} {ρ' : Rho} (hB : ∀ H0' H', Grow H0 B1' H0' H' -> Grow B0 B1 H0' H') (hb : ∀ p, B1' p = none -> B1 p = none) (R : RepS K H0 B1' A' H0' H' σ' ρ') : RepS K B0 B1 A' H0' H' σ' ρ' :=
 ⟨R.ex, hB _ _ R.gr, R.len, λ i w e => by
   obtain ⟨v, e1, s⟩ := R.slot i w e
   refine ⟨v, e1, ?_⟩
   cases w with
   | none => exact s
   | some w =>
     cases w with
     | d y => exact s
     | lst x2 xs =>
       obtain ⟨b, o', e2, e3, n, b1, ho', r⟩ := s
       exact ⟨b, o', e2, e3, n, hb _ b1, ho', r⟩
     | ins C fs =>
       obtain ⟨b, o', e2, e3, n, b1, ho', r⟩ := s
       exact ⟨b, o', e2, e3, n, hb _ b1, ho', r⟩
     | dk x2 kvs =>
       obtain ⟨b, o', e2, e3, n, b1, ho', r⟩ := s
       exact ⟨b, o', e2, e3, n, hb _ b1, ho', r⟩
     | dt x2 w2 kvs =>
       obtain ⟨b, o', e2, e3, n, b1, ho', r⟩ := s
       exact ⟨b, o', e2, e3, n, hb _ b1, ho', r⟩
     | pg x2 C2 fs2 q2 xs2 =>
       obtain ⟨b, o', e2, e3, n, b1, ho', r⟩ := s
       exact ⟨b, o', e2, e3, n, hb _ b1, ho', r⟩, R.inj, λ i a h => by
   obtain ⟨q1, q2, q3⟩ := R.own i a h
   exact ⟨q1, hb _ q2, q3⟩, R.sz, R.nest⟩
end
end DL
namespace DL
variable [TbC]
open PySem PySem.Spec PyProof.Rows L2
abbrev DX := Addr × List (Str × D)
abbrev DE := Rho -> (D -> Prop) -> Prop
abbrev DT := Rho -> (Bool -> Prop) -> Prop
abbrev DA := Rho -> (List D -> Prop) -> Prop
structure qao where
 nx : Rho -> Prop
 rt : D -> Rho -> Prop
 bk : Rho -> Prop := λ _ => False
 ct : Rho -> Prop := λ _ => False
abbrev DS := qao -> Rho -> Prop
structure ExRel (K : PySem.W.Frag) (B0 B1 : Hp) (Ed : DX -> Prop) (E : XK) : Prop where
 ex : ∀ (C : Addr) (fs : List (Str × D)) (fvs : List (Str × V)) (dx : Addr) (H0' H' : Hp), Grow B0 B1 H0' H' -> H' dx = some (.xd fvs) -> Repf K H0' fs fvs -> Ed (C, fs) -> E (.ref C) (some dx) H'
 td : TD B0 B1
theorem ExRel.grow {K : PySem.W.Frag} {B0 B1 C0 C1 : Hp} {Ed : DX -> Prop} {E : XK} (h : ExRel K B0 B1 Ed E) (s : Same C0 C1) (g : ∀ H0' H', Grow C0 C1 H0' H' -> Grow B0 B1 H0' H') : ExRel K C0 C1 Ed E :=
 ⟨λ C fs fvs dx H0' H' q => h.ex C fs fvs dx H0' H' (g _ _ q), (g _ _ (.refl s)).tb h.td⟩
theorem ExRel.none {K : PySem.W.Frag} {B0 B1 : Hp} {E : XK} (t : TD B0 B1) : ExRel K B0 B1 (λ _ => False) E := ⟨λ _ _ _ _ _ _ _ _ _ h => h.elim, t⟩
theorem ExRel.td0 {K : PySem.W.Frag} {B0 B1 : Hp} {Ed : DX -> Prop} {E : XK} (h : ExRel K B0 B1 Ed E) : ExRel K B0 B1 (λ _ => False) E0 := .none h.td
structure EndsRel (K : PySem.W.Frag) (B0 B1 : Hp) (d : qao) (e : Ends) : Prop where
 nx : ∀ A H0 H σ ρ, RepS K B0 B1 A H0 H σ ρ -> d.nx ρ -> e.nx σ H
 rt : ∀ A H0 H σ ρ x v, RepS K B0 B1 A H0 H σ ρ -> Rep K H0 x v -> d.rt x ρ -> e.rt v H
 bk : ∀ A H0 H σ ρ, RepS K B0 B1 A H0 H σ ρ -> d.bk ρ -> e.bk σ H
 ct : ∀ A H0 H σ ρ, RepS K B0 B1 A H0 H σ ρ -> d.ct ρ -> e.ct σ H
section
variable (K : PySem.W.Frag) (Ed : DX -> Prop) (E : XK)
def SimE (te : TE) (de : DE) : Prop := ∀ B0 B1 A H0 H σ ρ, RepS K B0 B1 A H0 H σ ρ -> ExRel K B0 B1 Ed E -> ∀ Qd : D -> Prop, de ρ Qd -> ∀ Q : VK,
 (∀ x v H0' H', RepS K B0 B1 A H0' H' σ ρ -> Grow H0 H H0' H' -> Rep K H0' x v -> Qd x -> Q v H') -> te σ H Q
def SimT (te : TT) (de : DT) : Prop := ∀ B0 B1 A H0 H σ ρ, RepS K B0 B1 A H0 H σ ρ -> ExRel K B0 B1 Ed E -> ∀ Qd : Bool -> Prop, de ρ Qd -> ∀ Q : Bool -> Hp -> Prop,
 (∀ x H0' H', RepS K B0 B1 A H0' H' σ ρ -> Grow H0 H H0' H' -> Qd x -> Q x H') -> te σ H Q
def SimA (te : TA) (de : DA) : Prop := ∀ B0 B1 A H0 H σ ρ, RepS K B0 B1 A H0 H σ ρ -> ExRel K B0 B1 Ed E -> ∀ Qd : List D -> Prop, de ρ Qd -> ∀ Q : List V -> Hp -> Prop,
 (∀ x v H0' H', RepS K B0 B1 A H0' H' σ ρ -> Grow H0 H H0' H' -> Reps K H0' x v -> Qd x -> Q v H') -> te σ H Q
def SimS (ts : TS) (ds : DS) : Prop := ∀ B0 B1 A H0 H σ ρ, RepS K B0 B1 A H0 H σ ρ -> ExRel K B0 B1 Ed E -> ∀ (d : qao) (e : Ends), EndsRel K B0 B1 d e -> ds d ρ -> ts e σ H
end
def qa0 (K : PySem.W.Frag) (r : R2) (rd : D -> D -> (D -> Prop) -> Prop) : Prop := ∀ (H0 H : Hp) (x y : V) (dx dy : D), Same H0 H -> Rep K H0 dx x -> Rep K H0 dy y -> ∀ Qd : D -> Prop, rd dx dy Qd -> ∀ Q : VK,
 (∀ z v H0' H', Grow H0 H H0' H' -> Rep K H0' z v -> Qd z -> Q v H') -> r x y H Q
def qjY (K : PySem.W.Frag) (r : V -> Hp -> VK -> Prop) (rd : D -> (D -> Prop) -> Prop) : Prop := ∀ (H0 H : Hp) (x : V) (dx : D), Same H0 H -> Rep K H0 dx x -> ∀ Qd : D -> Prop, rd dx Qd -> ∀ Q : VK,
 (∀ z v H0' H', Grow H0 H H0' H' -> Rep K H0' z v -> Qd z -> Q v H') -> r x H Q
def qbn (K : PySem.W.Frag) (r : List V -> Hp -> VK -> Prop) (rd : List D -> (D -> Prop) -> Prop) : Prop := ∀ (H0 H : Hp) (xs : List V) (ds : List D), Same H0 H -> Reps K H0 ds xs -> ∀ Qd : D -> Prop, rd ds Qd -> ∀ Q : VK,
 (∀ z v H0' H', Grow H0 H H0' H' -> Rep K H0' z v -> Qd z -> Q v H') -> r xs H Q
structure JE (X : Cx) (Ed : DX -> Prop) (E : XK) (e : Expr) (te : TE) (de : DE) : Prop where
 pe : PE X e te
 sim : SimE X.K Ed E te de
structure JT (X : Cx) (Ed : DX -> Prop) (E : XK) (e : Expr) (te : TT) (de : DT) : Prop where
 pe : PT X e te
 sim : SimT X.K Ed E te de
structure JW (X : Cx) (Ed : DX -> Prop) (E : XK) (e : Expr) (te : TT) (de : DT) : Prop where
 pe : PW X e te
 sim : SimT X.K Ed E te de
structure JA (X : Cx) (Ed : DX -> Prop) (E : XK) (e : List Expr) (te : TA) (de : DA) : Prop where
 pe : PA X e te
 sim : SimA X.K Ed E te de
structure JS (X : Cx) (Ed : DX -> Prop) (E : XK) (st : Stmt) (ts : TS) (ds : DS) : Prop where
 pe : PS X st ts
 sim : SimS X.K Ed E ts ds
structure JB (X : Cx) (Ed : DX -> Prop) (E : XK) (st : List Stmt) (ts : TS) (ds : DS) : Prop where
 pe : PSs X st ts
 sim : SimS X.K Ed E ts ds
def lk : Nat -> Rho -> Option SV
 | _, [] => none
 | 0, a :: _ => a
 | n + 1, _ :: r => lk n r
theorem qbF : ∀ {i : Nat} {ρ : Rho} {w : SV}, lk i ρ = some w -> ρ[i]? = some (some w)
 | 0, [], _, h => nomatch (show none = some _ from h)
 | _ + 1, [], _, h => nomatch (show none = some _ from h)
 | 0, a :: _, w, h => by
   show some a = _
   exact congrArg some h
 | n + 1, _ :: r, w, h => by simpa using qbF (i := n) (ρ := r) h
def dVar (i : Nat) (ρ : Rho) (Q : D -> Prop) : Prop := match lk i ρ with
 | some (.d x) => Q x
 | _ => False
def dC (x : D) (_ : Rho) (Q : D -> Prop) : Prop := Q x
section
variable {X : Cx} {Ed : DX -> Prop} {E : XK} {K : PySem.W.Frag} {pos : Pos} {e a b c : Expr} {te ta tb : TE} {de da db : DE} {tt tu : TT} {dt du : DT} {tal : TA} {dal : DA} {es : List Expr}
theorem qzO {i : Nat} : SimE K Ed E (tVar i) (dVar i) := by
 intro B0 B1 A H0 H σ ρ R X Qd h Q q
 unfold dVar at h
 split at h
 · rename_i x e
   obtain ⟨v, e1, _, u, e2, r⟩ := R.slot i _ (qbF e)
   subst e2
   exact ⟨u, e1, q x u H0 H R (.refl R.ex) r h⟩
 · exact h.elim
theorem qcR {x : D} {v : V} (h : ∀ H, Rep K H x v) : SimE K Ed E (tC v) (dC x) := λ B0 B1 A H0 H σ ρ R _ Qd hd Q q => q x v H0 H R (.refl R.ex) (h H0) hd
theorem qab (i : Nat) {x : Str} (hN : X.N[i]? = some x := by rfl) (hv : Vis X.env.scope x := by first | exact Or.inl rfl | exact Or.inr (Or.inl rfl) | exact Or.inr (Or.inr rfl)) (hd : (x == ("__debug__" : Str)) = false := by decide)
   (hcd : (x == ("__classdict__" : Str)) = false := by decide) : JE X Ed E (.Name x pos) (tVar i) (dVar i) := ⟨pe_var hN hv hd hcd, qzO⟩
theorem qad {i j} : JE X Ed E (.Constant (.int i) j pos) (tC (.int i)) (dC (.int i)) := ⟨pe_int, qcR λ _ => rfl⟩
theorem e_bl {b j} : JE X Ed E (.Constant (.bool b) j pos) (tC (.bl b)) (dC (.bl b)) := ⟨pe_bl, qcR λ _ => rfl⟩
theorem qyO {j} : JE X Ed E (.Constant .none j pos) (tC .non) (dC .non) := ⟨pe_non, qcR λ _ => rfl⟩
theorem qae {x j} : JE X Ed E (.Constant (.str x) j pos) (tC (.str x)) (dC (.str x)) := ⟨pe_str, qcR λ _ => rfl⟩
theorem qic {x : Str} {v : V} {u : Value} {d : D} (hg : Gl X x) (hm : X.mg x = some u) (r : RelV v u) (hr : ∀ H, Rep X.K H d v) (hd : (x == ("__debug__" : Str)) = false := by decide) : JE X Ed E (.Name x pos) (tC v) (dC d) := ⟨pe_glob hg hm r hd, qcR hr⟩
theorem qvc {x : Str} {v : V} {u : Value} {d : D} (hg : Gl X x) (hm : X.mg x = none) (hv : bootBuiltins x = some u) (r : RelV v u) (hr : ∀ H, Rep X.K H d v) (hn : x ≠ "__name__" := by decide) (hd : (x == ("__debug__" : Str)) = false := by decide) : JE X Ed E (.Name x pos) (tC v) (dC d) := ⟨pe_bltn hg hm hv r hn hd, qcR hr⟩
def dOp (r : D -> D -> (D -> Prop) -> Prop) (da db : DE) (ρ : Rho) (Q : D -> Prop) : Prop := da ρ λ x => db ρ λ y => r x y Q
def dUn (r : D -> (D -> Prop) -> Prop) (da : DE) (ρ : Rho) (Q : D -> Prop) : Prop := da ρ λ x => r x Q
theorem qft {r : R2} {rd : D -> D -> (D -> Prop) -> Prop} (sr : qa0 K r rd) (ha : SimE K Ed E ta da) (hb : SimE K Ed E tb db) : SimE K Ed E (tOp r ta tb) (dOp rd da db) := λ B0 B1 A H0 H σ ρ R X Qd h Q q =>
 ha B0 B1 A H0 H σ ρ R X _ h _ λ x v H1 H' R1 g1 r1 h1 => hb B0 B1 A H1 H' σ ρ R1 X _ h1 _ λ y u H2 H'' R2 g2 r2 h2 =>
   sr H2 H'' v u x y R2.ex (Rep.mono g2.g0 _ _ r1) r2 Qd h2 Q λ z w H3 H''' g3 r3 h3 => q z w H3 H''' (R2.grow g3) ((g1.trans g2).trans g3) r3 h3
theorem qAR {r : V -> Hp -> VK -> Prop} {rd : D -> (D -> Prop) -> Prop} (sr : qjY K r rd) (ha : SimE K Ed E ta da) : SimE K Ed E (tUn r ta) (dUn rd da) := λ B0 B1 A H0 H σ ρ R X Qd h Q q =>
 ha B0 B1 A H0 H σ ρ R X _ h _ λ x v H1 H' R1 g1 r1 h1 => sr H1 H' v x R1.ex r1 Qd h1 Q λ z w H3 H''' g3 r3 h3 => q z w H3 H''' (R1.grow g3) (g1.trans g3) r3 h3
theorem e_op {op : Operator} {r : R2} {rd : D -> D -> (D -> Prop) -> Prop} (ho : OpR X (binaryOp op) r) (sr : qa0 X.K r rd) (ha : JE X Ed E a ta da) (hb : JE X Ed E b tb db) : JE X Ed E (.BinOp a op b pos) (tOp r ta tb) (dOp rd da db) :=
 ⟨pe_op ho ha.pe hb.pe, qft sr ha.sim hb.sim⟩
theorem e_un {op : UnaryOp} {r : V -> Hp -> VK -> Prop} {rd : D -> (D -> Prop) -> Prop} (ho : UnR X (unaryOp op) r) (sr : qjY X.K r rd) (ha : JE X Ed E a ta da) : JE X Ed E (.UnaryOp op a pos) (tUn r ta) (dUn rd da) :=
 ⟨pe_un ho ha.pe, qAR sr ha.sim⟩
theorem qh7 {op : CmpOp} {r : R2} {rd : D -> D -> (D -> Prop) -> Prop} (ho : OpR X (compareOp op) r) (sr : qa0 X.K r rd) (ha : JE X Ed E a ta da) (hb : JE X Ed E b tb db) (hm : behindInMarks op b = false) : JE X Ed E (.Compare a [op] [b] pos) (tOp r ta tb) (dOp rd da db) :=
 ⟨pe_cmpR ho ha.pe hb.pe hm, qft sr ha.sim hb.sim⟩
def qcp (r r' : D -> D -> (D -> Prop) -> Prop) (da db dc : DE) (ρ : Rho) (Q : D -> Prop) : Prop := da ρ λ x => db ρ λ y => r x y λ z => match z with
 | .bl true => dc ρ λ u => r' y u Q
 | .bl false => Q (.bl false)
 | _ => False
def dI2 (C : Int -> Int -> Prop) (g : Int -> Int -> D) (x y : D) (Q : D -> Prop) : Prop := match x, y with
 | .int i, .int j => C i j /\ Q (g i j)
 | _, _ => False
def dI0 (g : Int -> Int -> D) (x y : D) (Q : D -> Prop) : Prop := match x, y with
 | .int i, .int j => Q (g i j)
 | _, _ => False
def dI1 (g : Int -> D) (x : D) (Q : D -> Prop) : Prop := match x with
 | .int i => Q (g i)
 | _ => False
theorem s_I {C : Int -> Int -> Prop} {g : Int -> Int -> V} {gd : Int -> Int -> D} (hg : ∀ H i j, Rep K H (gd i j) (g i j)) : qa0 K (rI C g) (dI2 C gd) := by
 intro H0 H x y dx dy sm rx ry Qd h Q q
 unfold dI2 at h
 split at h
 · rename_i i j
   exact ⟨i, j, rx, ry, h.1, q _ _ H0 H (.refl sm) (hg _ _ _) h.2⟩
 · exact h.elim
theorem s_I0 {g : Int -> Int -> V} {gd : Int -> Int -> D} (hg : ∀ H i j, Rep K H (gd i j) (g i j)) : qa0 K (rI0 g) (dI0 gd) := by
 intro H0 H x y dx dy sm rx ry Qd h Q q
 unfold dI0 at h
 split at h
 · rename_i i j
   exact ⟨i, j, rx, ry, q _ _ H0 H (.refl sm) (hg _ _ _) h⟩
 · exact h.elim
theorem s_U {g : Int -> V} {gd : Int -> D} (hg : ∀ H i, Rep K H (gd i) (g i)) : qjY K (rU g) (dI1 gd) := by
 intro H0 H x dx sm rx Qd h Q q
 unfold dI1 at h
 split at h
 · rename_i i
   exact ⟨i, rx, q _ _ H0 H (.refl sm) (hg _ _) h⟩
 · exact h.elim
def dAdd (x y : D) (Q : D -> Prop) : Prop := match x, y with
 | .int i, .int j => Q (.int (i + j))
 | .str i, .str j => i.length + j.length <= sizeLine /\ Q (.str (i ++ j))
 | _, _ => False
abbrev dSub := dI0 λ i j => .int (i - j)
abbrev dMul := dI2 CMul λ i j => .int (i * j)
abbrev qvY := dI2 CDivW λ i j => .int (i / j)
abbrev dMod := dI2 (λ _ j => 0 < j) λ i j => .int (i % j)
abbrev dPow := dI2 CPow λ i j => .int (i ^ j.toNat)
abbrev dLt := dI0 λ i j => .bl (decide (i < j))
abbrev dGt := dI0 λ i j => .bl (decide (j < i))
abbrev dGe := dI0 λ i j => .bl (decide (j <= i))
abbrev dNeg := dI1 λ i => .int (-i)
def qji : R2 := λ x y H Q => (rI0 (λ i j => .int (i + j)) x y H Q) ∨ (∃ i j, x = .str i /\ y = .str j /\ i.length + j.length <= sizeLine /\ Q (.str (i ++ j)) H)
theorem qw6 : OpR X (binaryOp .Add) qji := op_add.or op_add_str
theorem qtG : qa0 K qji dAdd := by
 intro H0 H x y dx dy sm rx ry Qd h Q q
 unfold dAdd at h
 split at h
 · rename_i i j
   exact .inl ⟨i, j, rx, ry, q (.int (i + j)) _ H0 H (.refl sm) rfl h⟩
 · rename_i i j
   exact .inr ⟨i, j, rx, ry, h.1, q (.str (i ++ j)) _ H0 H (.refl sm) rfl h.2⟩
 · exact h.elim
theorem qaD (ha : JE X Ed E a ta da) (hb : JE X Ed E b tb db) : JE X Ed E (.BinOp a .Add b pos) (tOp qji ta tb) (dOp dAdd da db) := e_op qw6 qtG ha hb
theorem qvo (ha : JE X Ed E a ta da) (hb : JE X Ed E b tb db) : JE X Ed E (.BinOp a .Sub b pos) (tOp (rI0 λ i j => .int (i - j)) ta tb) (dOp dSub da db) := e_op op_sub (s_I0 λ _ _ _ => rfl) ha hb
theorem qbW (ha : JE X Ed E a ta da) (hb : JE X Ed E b tb db) : JE X Ed E (.BinOp a .Mult b pos) (tOp (rI CMul λ i j => .int (i * j)) ta tb) (dOp dMul da db) := e_op op_mul (s_I λ _ _ _ => rfl) ha hb
theorem qmc (ha : JE X Ed E a ta da) (hb : JE X Ed E b tb db) : JE X Ed E (.BinOp a .FloorDiv b pos) (tOp (rI CDivW λ i j => .int (i / j)) ta tb) (dOp qvY da db) := e_op op_fdivW (s_I λ _ _ _ => rfl) ha hb
theorem qbX (ha : JE X Ed E a ta da) (hb : JE X Ed E b tb db) : JE X Ed E (.BinOp a .Mod b pos) (tOp (rI (λ _ j => 0 < j) λ i j => .int (i % j)) ta tb) (dOp dMod da db) := e_op op_mod (s_I λ _ _ _ => rfl) ha hb
theorem qwQ (ha : JE X Ed E a ta da) (hb : JE X Ed E b tb db) : JE X Ed E (.BinOp a .Pow b pos) (tOp (rI CPow λ i j => .int (i ^ j.toNat)) ta tb) (dOp dPow da db) := e_op op_pow (s_I λ _ _ _ => rfl) ha hb
theorem qri (ha : JE X Ed E a ta da) : JE X Ed E (.UnaryOp .USub a pos) (tUn (rU λ i => .int (-i)) ta) (dUn dNeg da) := e_un un_neg (s_U λ _ _ => rfl) ha
mutual
def D.isData : Nat -> D -> Bool
 | _, .non => true
 | _, .bl _ => true
 | _, .int _ => true
 | _, .str _ => true
 | n + 1, .tup xs => qah n xs
 | n + 1, .lst xs => qah n xs
 | _, _ => false
def qah : Nat -> List D -> Bool
 | _, [] => true
 | n, x :: xs => x.isData n && qah n xs
end
def b2z (b : Bool) : Int := if b then 1 else 0
mutual
def deq : D -> D -> Bool
 | .non, .non => true
 | .bl a, .bl b => a == b
 | .bl a, .int j => b2z a == j
 | .int i, .bl b => i == b2z b
 | .int i, .int j => i == j
 | .str x, .str y => x == y
 | .tup xs, .tup ys => deqs xs ys
 | .lst xs, .lst ys => deqs xs ys
 | _, _ => false
def deqs : List D -> List D -> Bool
 | [], [] => true
 | x :: xs, y :: ys => deq x y && deqs xs ys
 | _, _ => false
end
def qbE (xs ys : List D) (j : Nat) : Bool := match xs[j]?, ys[j]? with
 | some a, some b => deq a b
 | _, _ => true
theorem qc0 : ∀ xs ys : List D, ((List.range (min xs.length ys.length)).all (qbE xs ys) && xs.length == ys.length) = deqs xs ys
 | [], [] => by simp [deqs]
 | [], _ :: _ => by simp [deqs]
 | _ :: _, [] => by simp [deqs]
 | x :: xs, y :: ys => by
   have ih := qc0 xs ys
   rw [List.length_cons, List.length_cons, Nat.add_min_add_right, List.range_succ_eq_map, List.all_cons, List.all_map]
   have e : (qbE (x :: xs) (y :: ys) ∘ Nat.succ) = qbE xs ys := by
     funext j
     simp [qbE]
   have e2 : (xs.length + 1 == ys.length + 1) = (xs.length == ys.length) := by simp
   rw [e, e2, Bool.and_assoc, ih]
   simp [qbE, deqs]
theorem qht {xs ys : List D} (h : xs.length = ys.length) : (List.range xs.length).all (qbE xs ys) = deqs xs ys := by
 have e := qc0 xs ys
 rw [h, Nat.min_self] at e
 rw [h]
 simpa using e
theorem qg3 {xs ys : List D} (h : xs.length ≠ ys.length) : deqs xs ys = false := by
 rw [<- qc0]
 simp [h]
mutual
theorem qjX : ∀ (n : Nat) (x : D), x.isData n = true -> deq x x = true
 | _, .non, _ => rfl
 | _, .bl b, _ => by simp [deq]
 | _, .int _, _ => by simp [deq]
 | _, .str _, _ => by simp [deq]
 | n + 1, .tup xs, h => qiw n xs h
 | n + 1, .lst xs, h => qiw n xs h
 | 0, .tup xs, h => by simp [D.isData] at h
 | 0, .lst xs, h => by simp [D.isData] at h
 | n, .ty _, h => by simp [D.isData] at h
 | n, .cls _, h => by simp [D.isData] at h
 | n, .ins _ _, h => by simp [D.isData] at h
 | n, .bag, h => by simp [D.isData] at h
 | n, .lat _ _, h => by simp [D.isData] at h
 | n, .dk _, h => by simp [D.isData] at h
 | n, .dt _ _, h => by simp [D.isData] at h
theorem qiw : ∀ (n : Nat) (xs : List D), qah n xs = true -> deqs xs xs = true
 | _, [], _ => rfl
 | n, x :: xs, h => by
   obtain ⟨h1, h2⟩ := Bool.and_eq_true_iff.mp (show (x.isData n && qah n xs) = true from h)
   show (deq x x && deqs xs xs) = true
   rw [qjX n x h1, qiw n xs h2]
   rfl
end
end
section
variable {X : Cx} {pins : List (Addr × Obj)} {σ : L2.St} {H : Hp} {s : Shared}
theorem qk4 {a : Addr} {xs ys : List V} (I : Inv X pins σ H s) (h : SqL X.K H a xs) (h' : SqT X.K H a ys) : False := by
 obtain ⟨its, r, ⟨o, n, e, hc, _, d⟩, _⟩ := I.list h
 obtain ⟨its', r', ⟨o', e', hc', _⟩, _⟩ := I.tuple h'
 rw [e] at e'
 cases e'
 rw [hc] at hc'
 simp at hc'
mutual
theorem Rep.inj (I : Inv X pins σ H s) : ∀ (n : Nat) (x y : D) (v : V), x.isData n = true -> y.isData n = true -> Rep X.K H x v -> Rep X.K H y v -> x = y
 | n, .non, y, v, hx, hy, rx, ry => by
   cases (show v = _ from rx)
   cases y <;> first | rfl | (simp [Rep] at ry) | (simp [D.isData] at hy)
 | n, .bl b, y, v, hx, hy, rx, ry => by
   cases (show v = _ from rx)
   cases y <;> first | (simp [Rep] at ry; subst ry; rfl) | (simp [Rep] at ry) | (simp [D.isData] at hy)
 | n, .int b, y, v, hx, hy, rx, ry => by
   cases (show v = _ from rx)
   cases y <;> first | (simp [Rep] at ry; subst ry; rfl) | (simp [Rep] at ry) | (simp [D.isData] at hy)
 | n, .str b, y, v, hx, hy, rx, ry => by
   cases (show v = _ from rx)
   cases y <;> first | (simp [Rep] at ry; subst ry; rfl) | (simp [Rep] at ry) | (simp [D.isData] at hy)
 | n + 1, .tup xs, y, v, hx, hy, ⟨a, vs, e1, h1, r1⟩, ry => by
   subst e1
   cases y with
   | tup ys =>
     obtain ⟨b, us, e2, h2, r2⟩ := ry
     cases e2
     have e := I.tuple_inj h1 h2
     subst e
     exact congrArg D.tup (Reps.inj I n xs ys vs hx hy r1 r2)
   | lst ys =>
     obtain ⟨b, us, e2, h2, r2⟩ := ry
     cases e2
     exact (qk4 I h2 h1).elim
   | _ => first | (simp [Rep] at ry; done) | (simp [D.isData] at hy)
 | n + 1, .lst xs, y, v, hx, hy, ⟨a, vs, e1, h1, r1⟩, ry => by
   subst e1
   cases y with
   | lst ys =>
     obtain ⟨b, us, e2, h2, r2⟩ := ry
     cases e2
     have e := I.list_inj h1 h2
     subst e
     exact congrArg D.lst (Reps.inj I n xs ys vs hx hy r1 r2)
   | tup ys =>
     obtain ⟨b, us, e2, h2, r2⟩ := ry
     cases e2
     exact (qk4 I h1 h2).elim
   | _ => first | (simp [Rep] at ry; done) | (simp [D.isData] at hy)
 | 0, .tup xs, _, _, h, _, _, _ => by simp [D.isData] at h
 | 0, .lst xs, _, _, h, _, _, _ => by simp [D.isData] at h
 | n, .ty _, _, _, h, _, _, _ => by simp [D.isData] at h
 | n, .cls _, _, _, h, _, _, _ => by simp [D.isData] at h
 | n, .ins _ _, _, _, h, _, _, _ => by simp [D.isData] at h
 | n, .bag, _, _, h, _, _, _ => by simp [D.isData] at h
 | n, .lat _ _, _, _, h, _, _, _ => by simp [D.isData] at h
 | n, .dk _, _, _, h, _, _, _ => by simp [D.isData] at h
 | n, .dt _ _, _, _, h, _, _, _ => by simp [D.isData] at h
theorem Reps.inj (I : Inv X pins σ H s) : ∀ (n : Nat) (xs ys : List D) (vs : List V), qah n xs = true -> qah n ys = true -> Reps X.K H xs vs -> Reps X.K H ys vs -> xs = ys
 | _, [], ys, vs, _, _, rx, ry => by
   cases (show vs = _ from rx)
   cases ys with
   | nil => rfl
   | cons y ys =>
     obtain ⟨v, r, e, _⟩ := ry
     cases e
 | n, x :: xs, ys, vs, hx, hy, ⟨v, r, e, r1, r2⟩, ry => by
   subst e
   cases ys with
   | nil => cases (show _ = _ from ry)
   | cons y ys =>
     obtain ⟨u, r', e, q1, q2⟩ := ry
     cases e
     obtain ⟨h1, h2⟩ := Bool.and_eq_true_iff.mp (show (x.isData n && qah n xs) = true from hx)
     obtain ⟨h3, h4⟩ := Bool.and_eq_true_iff.mp (show (y.isData n && qah n ys) = true from hy)
     rw [Rep.inj I n x y v h1 h3 r1 q1, Reps.inj I n xs ys r h2 h4 r2 q2]
end
end
section
variable {X : Cx} {pins : List (Addr × Obj)} {σ : L2.St} {H : Hp} {s : Shared}
theorem qaj {A : Around} {n : Nat} (h : A.units + n < cLine) : A.units < cLine := by omega
theorem qck {A : Around} {n : Nat} (h : A.units + (n + 1) < cLine) : A.in1.units + n < cLine := by
 show A.units + 1 + n < cLine
 omega
mutual
theorem qn5 (I : Inv X pins σ H s) : ∀ (n : Nat) (x y : D) (a b : V) (u v : Value) (A : Around), x.isData n = true -> y.isData n = true -> Rep X.K H x a -> Rep X.K H y b -> RelV a u -> RelV b v -> A.units + n < cLine -> SeqAt.EqAt A s u v (deq x y)
 | n, .tup xs, y, a, b, u, v, A, hx, hy, rx, ry, ra, rb, hu => by
   cases n with
   | zero => simp [D.isData] at hx
   | succ n =>
   obtain ⟨l, vs, e1, h1, r1⟩ := rx
   subst e1
   cases (show u = _ from ra)
   obtain ⟨its, w1, p1, z1⟩ := I.tuple h1
   have n1 : its.toArray.size = xs.length := by rw [<- r1.length, w1.length]; simp
   cases y with
   | non => subst ry; cases rb; exact .tuple_none p1 (qaj hu)
   | bl k => subst ry; cases rb; exact .tuple_bool k p1 (qaj hu)
   | int k => subst ry; obtain ⟨t, rfl⟩ := rb; exact .tuple_int k t p1 (qaj hu)
   | str k => subst ry; obtain ⟨t, rfl⟩ := rb; exact .tuple_str k t p1 (qaj hu)
   | lst ys =>
     obtain ⟨l', us, e2, h2, r2⟩ := ry
     subst e2
     cases (show v = _ from rb)
     obtain ⟨jts, w2, p2, z2⟩ := I.list h2
     exact .tuple_list p1 p2.isList (qaj hu)
   | tup ys =>
     obtain ⟨l', us, e2, h2, r2⟩ := ry
     subst e2
     cases (show v = _ from rb)
     obtain ⟨jts, w2, p2, z2⟩ := I.tuple h2
     have n2 : jts.toArray.size = ys.length := by rw [<- r2.length, w2.length]; simp
     by_cases hll : l = l'
     · subst hll
       have e := I.tuple_inj h1 h2
       subst e
       have e := Reps.inj I n xs ys vs hx hy r1 r2
       subst e
       rw [show deq (.tup xs) (.tup xs) = true from qjX (n + 1) (.tup xs) hx]
       exact .same _
     · show SeqAt.EqAt A s _ _ (deqs xs ys)
       rw [<- qc0 xs ys, <- n1, <- n2]
       refine .of_refs hll (.tuples p1 p2 (qaj hu) λ j j1 j2 => ?_)
       have q := qcz I n xs ys vs us its jts A.in1 hx hy r1 r2 w1 w2 (qck hu) j (by simpa using j1) (by simpa using j2)
       simpa using q
   | _ => simp [D.isData] at hy
 | n, .lst xs, y, a, b, u, v, A, hx, hy, rx, ry, ra, rb, hu => by
   cases n with
   | zero => simp [D.isData] at hx
   | succ n =>
   obtain ⟨l, vs, e1, h1, r1⟩ := rx
   subst e1
   cases (show u = _ from ra)
   obtain ⟨its, w1, p1, z1⟩ := I.list h1
   have n1 : its.toArray.size = xs.length := by rw [<- r1.length, w1.length]; simp
   cases y with
   | non => subst ry; cases rb; exact .list_none p1.isList (qaj hu)
   | bl k => subst ry; cases rb; exact .list_bool k p1.isList (qaj hu)
   | int k => subst ry; obtain ⟨t, rfl⟩ := rb; exact .list_int k t p1.isList (qaj hu)
   | str k => subst ry; obtain ⟨t, rfl⟩ := rb; exact .list_str k t p1.isList (qaj hu)
   | tup ys =>
     obtain ⟨l', us, e2, h2, r2⟩ := ry
     subst e2
     cases (show v = _ from rb)
     obtain ⟨jts, w2, p2, z2⟩ := I.tuple h2
     exact .list_tuple p1.isList p2 (qaj hu)
   | lst ys =>
     obtain ⟨l', us, e2, h2, r2⟩ := ry
     subst e2
     cases (show v = _ from rb)
     obtain ⟨jts, w2, p2, z2⟩ := I.list h2
     have n2 : jts.toArray.size = ys.length := by rw [<- r2.length, w2.length]; simp
     by_cases hll : l = l'
     · subst hll
       have e := I.list_inj h1 h2
       subst e
       have e := Reps.inj I n xs ys vs hx hy r1 r2
       subst e
       rw [show deq (.lst xs) (.lst xs) = true from qjX (n + 1) (.lst xs) hx]
       exact .same _
     · show SeqAt.EqAt A s _ _ (deqs xs ys)
       by_cases hsz : xs.length = ys.length
       · rw [<- qht hsz, <- n1]
         refine .of_refs hll (.lists p1.isList p2.isList (by omega) (qaj hu) λ j j1 j2 => ?_)
         have q := qcz I n xs ys vs us its jts A.in1 hx hy r1 r2 w1 w2 (qck hu) j (by simpa using j1) (by simpa using j2)
         simpa using q
       · rw [qg3 hsz]
         exact .of_refs hll (.lists_lengths p1.isList p2.isList (by rw [n1, n2]; simpa using hsz) (qaj hu))
   | _ => simp [D.isData] at hy
 | n, .non, y, a, b, u, v, A, hx, hy, rx, ry, ra, rb, hu => by
   subst rx
   cases ra
   cases y with
   | non => subst ry; cases rb; exact .same _
   | bl k => subst ry; cases rb; exact .none_bool k
   | int k => subst ry; obtain ⟨t, rfl⟩ := rb; exact .none_int k t
   | str k => subst ry; obtain ⟨t, rfl⟩ := rb; exact .none_str k t
   | tup ys =>
     obtain ⟨l', us, e2, h2, r2⟩ := ry
     subst e2
     cases (show v = _ from rb)
     obtain ⟨jts, w2, p2, z2⟩ := I.tuple h2
     exact .none_tuple p2 (qaj hu)
   | lst ys =>
     obtain ⟨l', us, e2, h2, r2⟩ := ry
     subst e2
     cases (show v = _ from rb)
     obtain ⟨jts, w2, p2, z2⟩ := I.list h2
     exact .none_list p2.isList (qaj hu)
   | _ => simp [D.isData] at hy
 | n, .bl i, y, a, b, u, v, A, hx, hy, rx, ry, ra, rb, hu => by
   subst rx
   cases ra
   cases y with
   | non => subst ry; cases rb; exact .bool_none i
   | bl k => subst ry; cases rb; exact .bool_bool i k
   | int k => subst ry; obtain ⟨t, rfl⟩ := rb; exact .bool_int i k t
   | str k => subst ry; obtain ⟨t, rfl⟩ := rb; exact .bool_str i k t
   | tup ys =>
     obtain ⟨l', us, e2, h2, r2⟩ := ry
     subst e2
     cases (show v = _ from rb)
     obtain ⟨jts, w2, p2, z2⟩ := I.tuple h2
     exact .bool_tuple i p2 (qaj hu)
   | lst ys =>
     obtain ⟨l', us, e2, h2, r2⟩ := ry
     subst e2
     cases (show v = _ from rb)
     obtain ⟨jts, w2, p2, z2⟩ := I.list h2
     exact .bool_list i p2.isList (qaj hu)
   | _ => simp [D.isData] at hy
 | n, .int i, y, a, b, u, v, A, hx, hy, rx, ry, ra, rb, hu => by
   subst rx
   obtain ⟨t0, rfl⟩ := ra
   cases y with
   | non => subst ry; cases rb; exact .int_none i t0
   | bl k => subst ry; cases rb; exact .int_bool i t0 k
   | int k => subst ry; obtain ⟨t, rfl⟩ := rb; exact .int_int i t0 k t
   | str k => subst ry; obtain ⟨t, rfl⟩ := rb; exact .int_str i t0 k t
   | tup ys =>
     obtain ⟨l', us, e2, h2, r2⟩ := ry
     subst e2
     cases (show v = _ from rb)
     obtain ⟨jts, w2, p2, z2⟩ := I.tuple h2
     exact .int_tuple i t0 p2 (qaj hu)
   | lst ys =>
     obtain ⟨l', us, e2, h2, r2⟩ := ry
     subst e2
     cases (show v = _ from rb)
     obtain ⟨jts, w2, p2, z2⟩ := I.list h2
     exact .int_list i t0 p2.isList (qaj hu)
   | _ => simp [D.isData] at hy
 | n, .str i, y, a, b, u, v, A, hx, hy, rx, ry, ra, rb, hu => by
   subst rx
   obtain ⟨t0, rfl⟩ := ra
   cases y with
   | non => subst ry; cases rb; exact .str_none i t0
   | bl k => subst ry; cases rb; exact .str_bool i t0 k
   | int k => subst ry; obtain ⟨t, rfl⟩ := rb; exact .str_int i t0 k t
   | str k => subst ry; obtain ⟨t, rfl⟩ := rb; exact .str_str i t0 k t
   | tup ys =>
     obtain ⟨l', us, e2, h2, r2⟩ := ry
     subst e2
     cases (show v = _ from rb)
     obtain ⟨jts, w2, p2, z2⟩ := I.tuple h2
     exact .str_tuple i t0 p2 (qaj hu)
   | lst ys =>
     obtain ⟨l', us, e2, h2, r2⟩ := ry
     subst e2
     cases (show v = _ from rb)
     obtain ⟨jts, w2, p2, z2⟩ := I.list h2
     exact .str_list i t0 p2.isList (qaj hu)
   | _ => simp [D.isData] at hy
 | n, .ty _, _, _, _, _, _, _, h, _, _, _, _, _, _ => by simp [D.isData] at h
 | n, .cls _, _, _, _, _, _, _, h, _, _, _, _, _, _ => by simp [D.isData] at h
 | n, .ins _ _, _, _, _, _, _, _, h, _, _, _, _, _, _ => by simp [D.isData] at h
 | n, .bag, _, _, _, _, _, _, h, _, _, _, _, _, _ => by simp [D.isData] at h
 | n, .lat _ _, _, _, _, _, _, _, h, _, _, _, _, _, _ => by simp [D.isData] at h
 | n, .dk _, _, _, _, _, _, _, h, _, _, _, _, _, _ => by simp [D.isData] at h
 | n, .dt _ _, _, _, _, _, _, _, h, _, _, _, _, _, _ => by simp [D.isData] at h
theorem qcz (I : Inv X pins σ H s) : ∀ (n : Nat) (xs ys : List D) (as bs : List V) (us vs : List Value) (A : Around), qah n xs = true -> qah n ys = true -> Reps X.K H xs as -> Reps X.K H ys bs -> Vals as us -> Vals bs vs -> A.units + n < cLine ->
   ∀ (j : Nat) (h1 : j < us.length) (h2 : j < vs.length), SeqAt.EqAt A s us[j] vs[j] (qbE xs ys j)
 | _, [], _, _, _, us, _, _, _, _, rx, _, ra, _, _, j, h1, _ => by
   cases (show _ = _ from rx)
   cases ra
   exact absurd h1 (Nat.not_lt_zero _)
 | _, _ :: _, [], _, _, _, vs, _, _, _, _, ry, _, rb, _, j, _, h2 => by
   cases (show _ = _ from ry)
   cases rb
   exact absurd h2 (Nat.not_lt_zero _)
 | n, x :: xs, y :: ys, _, _, _, _, A, hx, hy, ⟨a, as, e1, r1, rr1⟩, ⟨b, bs, e2, r2, rr2⟩, ra, rb, hu, j, h1, h2 => by
   subst e1 e2
   obtain ⟨k1, k2⟩ := Bool.and_eq_true_iff.mp (show (x.isData n && qah n xs) = true from hx)
   obtain ⟨k3, k4⟩ := Bool.and_eq_true_iff.mp (show (y.isData n && qah n ys) = true from hy)
   cases ra with
   | cons p ps =>
     cases rb with
     | cons q qs =>
       cases j with
       | zero => exact qn5 I n x y a b _ _ A k1 k3 r1 r2 p q hu
       | succ j => exact qcz I n xs ys as bs _ _ A k2 k4 rr1 rr2 ps qs hu j (Nat.lt_of_succ_lt_succ h1) (Nat.lt_of_succ_lt_succ h2)
end
theorem qvd (I : Inv X pins σ H s) {n : Nat} {x y : D} {a b : V} {u v : Value} {A : Around} (hx : x.isData n = true) (hy : y.isData n = true) (rx : Rep X.K H x a) (ry : Rep X.K H y b) (ra : RelV a u) (rb : RelV b v) (hu : A.units + n < cLine) : SeqAt.RcAt A s u v (deq x y) := by
 cases x with
 | non =>
   subst rx
   cases ra
   cases y with
   | non => subst ry; cases rb; exact .none_none 
   | bl k => subst ry; cases rb; exact .none_bool k
   | int k => subst ry; obtain ⟨t, rfl⟩ := rb; exact .none_int k t
   | str k => subst ry; obtain ⟨t, rfl⟩ := rb; exact .none_str k t
   | tup ys =>
     obtain ⟨l2, us, e2, h2, r2⟩ := ry
     subst e2
     cases (show v = _ from rb)
     obtain ⟨jts, w2, p2, z2⟩ := I.tuple h2
     exact .none_tuple p2 (qaj hu)
   | lst ys =>
     obtain ⟨l2, us, e2, h2, r2⟩ := ry
     subst e2
     cases (show v = _ from rb)
     obtain ⟨jts, w2, p2, z2⟩ := I.list h2
     exact .none_list p2.isList (qaj hu)
   | _ => simp [D.isData] at hy
 | bl i =>
   subst rx
   cases ra
   cases y with
   | non => subst ry; cases rb; exact .bool_none i
   | bl k => subst ry; cases rb; exact .bool_bool i k
   | int k => subst ry; obtain ⟨t, rfl⟩ := rb; exact .bool_int i k t
   | str k => subst ry; obtain ⟨t, rfl⟩ := rb; exact .bool_str i k t
   | tup ys =>
     obtain ⟨l2, us, e2, h2, r2⟩ := ry
     subst e2
     cases (show v = _ from rb)
     obtain ⟨jts, w2, p2, z2⟩ := I.tuple h2
     exact .bool_tuple i p2 (qaj hu)
   | lst ys =>
     obtain ⟨l2, us, e2, h2, r2⟩ := ry
     subst e2
     cases (show v = _ from rb)
     obtain ⟨jts, w2, p2, z2⟩ := I.list h2
     exact .bool_list i p2.isList (qaj hu)
   | _ => simp [D.isData] at hy
 | int i =>
   subst rx
   obtain ⟨t0, rfl⟩ := ra
   cases y with
   | non => subst ry; cases rb; exact .int_none i t0
   | bl k => subst ry; cases rb; exact .int_bool i t0 k
   | int k => subst ry; obtain ⟨t, rfl⟩ := rb; exact .int_int i t0 k t
   | str k => subst ry; obtain ⟨t, rfl⟩ := rb; exact .int_str i t0 k t
   | tup ys =>
     obtain ⟨l2, us, e2, h2, r2⟩ := ry
     subst e2
     cases (show v = _ from rb)
     obtain ⟨jts, w2, p2, z2⟩ := I.tuple h2
     exact .int_tuple i t0 p2 (qaj hu)
   | lst ys =>
     obtain ⟨l2, us, e2, h2, r2⟩ := ry
     subst e2
     cases (show v = _ from rb)
     obtain ⟨jts, w2, p2, z2⟩ := I.list h2
     exact .int_list i t0 p2.isList (qaj hu)
   | _ => simp [D.isData] at hy
 | str i =>
   subst rx
   obtain ⟨t0, rfl⟩ := ra
   cases y with
   | non => subst ry; cases rb; exact .str_none i t0
   | bl k => subst ry; cases rb; exact .str_bool i t0 k
   | int k => subst ry; obtain ⟨t, rfl⟩ := rb; exact .str_int i t0 k t
   | str k => subst ry; obtain ⟨t, rfl⟩ := rb; exact .str_str i t0 k t
   | tup ys =>
     obtain ⟨l2, us, e2, h2, r2⟩ := ry
     subst e2
     cases (show v = _ from rb)
     obtain ⟨jts, w2, p2, z2⟩ := I.tuple h2
     exact .str_tuple i t0 p2 (qaj hu)
   | lst ys =>
     obtain ⟨l2, us, e2, h2, r2⟩ := ry
     subst e2
     cases (show v = _ from rb)
     obtain ⟨jts, w2, p2, z2⟩ := I.list h2
     exact .str_list i t0 p2.isList (qaj hu)
   | _ => simp [D.isData] at hy
 | tup xs =>
   cases n with
   | zero => simp [D.isData] at hx
   | succ n =>
   obtain ⟨l, vs, e1, h1, r1⟩ := rx
   subst e1
   cases (show u = _ from ra)
   obtain ⟨its, w1, p1, z1⟩ := I.tuple h1
   have n1 : its.toArray.size = xs.length := by rw [<- r1.length, w1.length]; simp
   cases y with
   | non => subst ry; cases rb; exact .tuple_none p1 (qaj hu)
   | bl k => subst ry; cases rb; exact .tuple_bool k p1 (qaj hu)
   | int k => subst ry; obtain ⟨t, rfl⟩ := rb; exact .tuple_int k t p1 (qaj hu)
   | str k => subst ry; obtain ⟨t, rfl⟩ := rb; exact .tuple_str k t p1 (qaj hu)
   | tup ys =>
     obtain ⟨l2, us, e2, h2, r2⟩ := ry
     subst e2
     cases (show v = _ from rb)
     obtain ⟨jts, w2, p2, z2⟩ := I.tuple h2
     have n2 : jts.toArray.size = ys.length := by rw [<- r2.length, w2.length]; simp
     have he : ∀ (j : Nat) (j1 : j < its.toArray.size) (j2 : j < jts.toArray.size), SeqAt.EqAt A.in1 s its.toArray[j] jts.toArray[j] (qbE xs ys j) := λ j j1 j2 => by
       have q := qcz I n xs ys vs us its jts A.in1 hx hy r1 r2 w1 w2 (qck hu) j (by simpa using j1) (by simpa using j2)
       simpa using q
     show SeqAt.RcAt A s _ _ (deqs xs ys)
     rw [<- qc0 xs ys, <- n1, <- n2]
     exact .tuples p1 p2 (qaj hu) he
   | lst ys =>
     obtain ⟨l2, us, e2, h2, r2⟩ := ry
     subst e2
     cases (show v = _ from rb)
     obtain ⟨jts, w2, p2, z2⟩ := I.list h2
     exact .tuple_list p1 p2.isList (qaj hu)
   | _ => simp [D.isData] at hy
 | lst xs =>
   cases n with
   | zero => simp [D.isData] at hx
   | succ n =>
   obtain ⟨l, vs, e1, h1, r1⟩ := rx
   subst e1
   cases (show u = _ from ra)
   obtain ⟨its, w1, p1, z1⟩ := I.list h1
   have n1 : its.toArray.size = xs.length := by rw [<- r1.length, w1.length]; simp
   cases y with
   | non => subst ry; cases rb; exact .list_none p1.isList (qaj hu)
   | bl k => subst ry; cases rb; exact .list_bool k p1.isList (qaj hu)
   | int k => subst ry; obtain ⟨t, rfl⟩ := rb; exact .list_int k t p1.isList (qaj hu)
   | str k => subst ry; obtain ⟨t, rfl⟩ := rb; exact .list_str k t p1.isList (qaj hu)
   | tup ys =>
     obtain ⟨l2, us, e2, h2, r2⟩ := ry
     subst e2
     cases (show v = _ from rb)
     obtain ⟨jts, w2, p2, z2⟩ := I.tuple h2
     exact .list_tuple p1.isList p2 (qaj hu)
   | lst ys =>
     obtain ⟨l2, us, e2, h2, r2⟩ := ry
     subst e2
     cases (show v = _ from rb)
     obtain ⟨jts, w2, p2, z2⟩ := I.list h2
     have n2 : jts.toArray.size = ys.length := by rw [<- r2.length, w2.length]; simp
     have he : ∀ (j : Nat) (j1 : j < its.toArray.size) (j2 : j < jts.toArray.size), SeqAt.EqAt A.in1 s its.toArray[j] jts.toArray[j] (qbE xs ys j) := λ j j1 j2 => by
       have q := qcz I n xs ys vs us its jts A.in1 hx hy r1 r2 w1 w2 (qck hu) j (by simpa using j1) (by simpa using j2)
       simpa using q
     show SeqAt.RcAt A s _ _ (deqs xs ys)
     by_cases hsz : xs.length = ys.length
     · rw [<- qht hsz, <- n1]
       exact .lists p1.isList p2.isList (by omega) (qaj hu) he
     · rw [qg3 hsz]
       exact .lists_lengths p1.isList p2.isList (by rw [n1, n2]; simpa using hsz) (qaj hu)
   | _ => simp [D.isData] at hy
 | _ => simp [D.isData] at hx
theorem qBa (I : Inv X pins σ H s) {n : Nat} {x y : D} {a b : V} {u v : Value} {A : Around} (hx : x.isData n = true) (hy : y.isData n = true) (rx : Rep X.K H x a) (ry : Rep X.K H y b) (ra : RelV a u) (rb : RelV b v) (hu : A.units + n < cLine) : SeqAt.RcNeAt A s u v (!deq x y) := by
 cases x with
 | non =>
   subst rx
   cases ra
   cases y with
   | non => subst ry; cases rb; exact .none_none 
   | bl k => subst ry; cases rb; exact .none_bool k
   | int k => subst ry; obtain ⟨t, rfl⟩ := rb; exact .none_int k t
   | str k => subst ry; obtain ⟨t, rfl⟩ := rb; exact .none_str k t
   | tup ys =>
     obtain ⟨l2, us, e2, h2, r2⟩ := ry
     subst e2
     cases (show v = _ from rb)
     obtain ⟨jts, w2, p2, z2⟩ := I.tuple h2
     exact .none_tuple p2 (qaj hu)
   | lst ys =>
     obtain ⟨l2, us, e2, h2, r2⟩ := ry
     subst e2
     cases (show v = _ from rb)
     obtain ⟨jts, w2, p2, z2⟩ := I.list h2
     exact .none_list p2.isList (qaj hu)
   | _ => simp [D.isData] at hy
 | bl i =>
   subst rx
   cases ra
   cases y with
   | non => subst ry; cases rb; exact .bool_none i
   | bl k => subst ry; cases rb; exact .bool_bool i k
   | int k => subst ry; obtain ⟨t, rfl⟩ := rb; exact .bool_int i k t
   | str k => subst ry; obtain ⟨t, rfl⟩ := rb; exact .bool_str i k t
   | tup ys =>
     obtain ⟨l2, us, e2, h2, r2⟩ := ry
     subst e2
     cases (show v = _ from rb)
     obtain ⟨jts, w2, p2, z2⟩ := I.tuple h2
     exact .bool_tuple i p2 (qaj hu)
   | lst ys =>
     obtain ⟨l2, us, e2, h2, r2⟩ := ry
     subst e2
     cases (show v = _ from rb)
     obtain ⟨jts, w2, p2, z2⟩ := I.list h2
     exact .bool_list i p2.isList (qaj hu)
   | _ => simp [D.isData] at hy
 | int i =>
   subst rx
   obtain ⟨t0, rfl⟩ := ra
   cases y with
   | non => subst ry; cases rb; exact .int_none i t0
   | bl k => subst ry; cases rb; exact .int_bool i t0 k
   | int k => subst ry; obtain ⟨t, rfl⟩ := rb; exact .int_int i t0 k t
   | str k => subst ry; obtain ⟨t, rfl⟩ := rb; exact .int_str i t0 k t
   | tup ys =>
     obtain ⟨l2, us, e2, h2, r2⟩ := ry
     subst e2
     cases (show v = _ from rb)
     obtain ⟨jts, w2, p2, z2⟩ := I.tuple h2
     exact .int_tuple i t0 p2 (qaj hu)
   | lst ys =>
     obtain ⟨l2, us, e2, h2, r2⟩ := ry
     subst e2
     cases (show v = _ from rb)
     obtain ⟨jts, w2, p2, z2⟩ := I.list h2
     exact .int_list i t0 p2.isList (qaj hu)
   | _ => simp [D.isData] at hy
 | str i =>
   subst rx
   obtain ⟨t0, rfl⟩ := ra
   cases y with
   | non => subst ry; cases rb; exact .str_none i t0
   | bl k => subst ry; cases rb; exact .str_bool i t0 k
   | int k => subst ry; obtain ⟨t, rfl⟩ := rb; exact .str_int i t0 k t
   | str k => subst ry; obtain ⟨t, rfl⟩ := rb; exact .str_str i t0 k t
   | tup ys =>
     obtain ⟨l2, us, e2, h2, r2⟩ := ry
     subst e2
     cases (show v = _ from rb)
     obtain ⟨jts, w2, p2, z2⟩ := I.tuple h2
     exact .str_tuple i t0 p2 (qaj hu)
   | lst ys =>
     obtain ⟨l2, us, e2, h2, r2⟩ := ry
     subst e2
     cases (show v = _ from rb)
     obtain ⟨jts, w2, p2, z2⟩ := I.list h2
     exact .str_list i t0 p2.isList (qaj hu)
   | _ => simp [D.isData] at hy
 | tup xs =>
   cases n with
   | zero => simp [D.isData] at hx
   | succ n =>
   obtain ⟨l, vs, e1, h1, r1⟩ := rx
   subst e1
   cases (show u = _ from ra)
   obtain ⟨its, w1, p1, z1⟩ := I.tuple h1
   have n1 : its.toArray.size = xs.length := by rw [<- r1.length, w1.length]; simp
   cases y with
   | non => subst ry; cases rb; exact .tuple_none p1 (qaj hu)
   | bl k => subst ry; cases rb; exact .tuple_bool k p1 (qaj hu)
   | int k => subst ry; obtain ⟨t, rfl⟩ := rb; exact .tuple_int k t p1 (qaj hu)
   | str k => subst ry; obtain ⟨t, rfl⟩ := rb; exact .tuple_str k t p1 (qaj hu)
   | tup ys =>
     obtain ⟨l2, us, e2, h2, r2⟩ := ry
     subst e2
     cases (show v = _ from rb)
     obtain ⟨jts, w2, p2, z2⟩ := I.tuple h2
     have n2 : jts.toArray.size = ys.length := by rw [<- r2.length, w2.length]; simp
     have he : ∀ (j : Nat) (j1 : j < its.toArray.size) (j2 : j < jts.toArray.size), SeqAt.EqAt A.in1 s its.toArray[j] jts.toArray[j] (qbE xs ys j) := λ j j1 j2 => by
       have q := qcz I n xs ys vs us its jts A.in1 hx hy r1 r2 w1 w2 (qck hu) j (by simpa using j1) (by simpa using j2)
       simpa using q
     show SeqAt.RcNeAt A s _ _ (!deqs xs ys)
     rw [<- qc0 xs ys, <- n1, <- n2]
     exact .tuples p1 p2 (qaj hu) he
   | lst ys =>
     obtain ⟨l2, us, e2, h2, r2⟩ := ry
     subst e2
     cases (show v = _ from rb)
     obtain ⟨jts, w2, p2, z2⟩ := I.list h2
     exact .tuple_list p1 p2.isList (qaj hu)
   | _ => simp [D.isData] at hy
 | lst xs =>
   cases n with
   | zero => simp [D.isData] at hx
   | succ n =>
   obtain ⟨l, vs, e1, h1, r1⟩ := rx
   subst e1
   cases (show u = _ from ra)
   obtain ⟨its, w1, p1, z1⟩ := I.list h1
   have n1 : its.toArray.size = xs.length := by rw [<- r1.length, w1.length]; simp
   cases y with
   | non => subst ry; cases rb; exact .list_none p1.isList (qaj hu)
   | bl k => subst ry; cases rb; exact .list_bool k p1.isList (qaj hu)
   | int k => subst ry; obtain ⟨t, rfl⟩ := rb; exact .list_int k t p1.isList (qaj hu)
   | str k => subst ry; obtain ⟨t, rfl⟩ := rb; exact .list_str k t p1.isList (qaj hu)
   | tup ys =>
     obtain ⟨l2, us, e2, h2, r2⟩ := ry
     subst e2
     cases (show v = _ from rb)
     obtain ⟨jts, w2, p2, z2⟩ := I.tuple h2
     exact .list_tuple p1.isList p2 (qaj hu)
   | lst ys =>
     obtain ⟨l2, us, e2, h2, r2⟩ := ry
     subst e2
     cases (show v = _ from rb)
     obtain ⟨jts, w2, p2, z2⟩ := I.list h2
     have n2 : jts.toArray.size = ys.length := by rw [<- r2.length, w2.length]; simp
     have he : ∀ (j : Nat) (j1 : j < its.toArray.size) (j2 : j < jts.toArray.size), SeqAt.EqAt A.in1 s its.toArray[j] jts.toArray[j] (qbE xs ys j) := λ j j1 j2 => by
       have q := qcz I n xs ys vs us its jts A.in1 hx hy r1 r2 w1 w2 (qck hu) j (by simpa using j1) (by simpa using j2)
       simpa using q
     show SeqAt.RcNeAt A s _ _ (!deqs xs ys)
     by_cases hsz : xs.length = ys.length
     · rw [<- qht hsz, <- n1]
       exact .lists p1.isList p2.isList (by omega) (qaj hu) he
     · rw [qg3 hsz]
       exact .lists_lengths p1.isList p2.isList (by rw [n1, n2]; simpa using hsz) (qaj hu)
   | _ => simp [D.isData] at hy
 | _ => simp [D.isData] at hx
def dEqN (n : Nat) (x y : D) (Q : D -> Prop) : Prop := x.isData n = true /\ y.isData n = true /\ Q (.bl (deq x y))
def dNeN (n : Nat) (x y : D) (Q : D -> Prop) : Prop := x.isData n = true /\ y.isData n = true /\ Q (.bl (!deq x y))
def rEqN (K : PySem.W.Frag) (n : Nat) : R2 := λ x y H Q => ∃ (H0 : Hp) (d e : D), Same H0 H /\ Rep K H0 d x /\ Rep K H0 e y /\ d.isData n = true /\ e.isData n = true /\ Q (.bl (deq d e)) H
def rNeN (K : PySem.W.Frag) (n : Nat) : R2 := λ x y H Q => ∃ (H0 : Hp) (d e : D), Same H0 H /\ Rep K H0 d x /\ Rep K H0 e y /\ d.isData n = true /\ e.isData n = true /\ Q (.bl (!deq d e)) H
theorem qlk {n : Nat} (hu : X.A.units + n < cLine) : OpR X (compareOp .Eq) (rEqN X.K n) := by
 intro pins s σ H x y v u Q I rx ry h
 obtain ⟨H0, d, e, sm, r1, r2, h1, h2, q⟩ := h
 exact qvd I h1 h2 (Rep.mono sm _ _ r1) (Rep.mono sm _ _ r2) rx ry hu _ _ _ _ ⟨.bl _, H, I, rfl, q⟩
theorem qtf {n : Nat} (hu : X.A.units + n < cLine) : OpR X (compareOp .NotEq) (rNeN X.K n) := by
 intro pins s σ H x y v u Q I rx ry h
 obtain ⟨H0, d, e, sm, r1, r2, h1, h2, q⟩ := h
 exact qBa I h1 h2 (Rep.mono sm _ _ r1) (Rep.mono sm _ _ r2) rx ry hu _ _ _ _ ⟨.bl _, H, I, rfl, q⟩
end
section
variable {X : Cx} {Ed : DX -> Prop} {E : XK} {K : PySem.W.Frag} {pos : Pos} {e a b c : Expr} {te ta tb : TE} {de da db : DE}
theorem qlV {n : Nat} : qa0 K (rEqN K n) (dEqN n) := λ H0 H x y dx dy sm rx ry Qd h Q q => ⟨H0, dx, dy, sm, rx, ry, h.1, h.2.1, q (.bl _) _ H0 H (.refl sm) rfl h.2.2⟩
theorem qwk {n : Nat} : qa0 K (rNeN K n) (dNeN n) := λ H0 H x y dx dy sm rx ry Qd h Q q => ⟨H0, dx, dy, sm, rx, ry, h.1, h.2.1, q (.bl _) _ H0 H (.refl sm) rfl h.2.2⟩
abbrev dEq := dEqN 150
abbrev dNe := dNeN 150
theorem qjR {k : Nat} (hr : Room k X.A) : X.A.units + 150 < cLine := by have := hr.un; omega
theorem e_eq {k : Nat} (hr : Room k X.A) (ha : JE X Ed E a ta da) (hb : JE X Ed E b tb db) : JE X Ed E (.Compare a [.Eq] [b] pos) (tOp (rEqN X.K 150) ta tb) (dOp dEq da db) := qh7 (qlk (qjR hr)) qlV ha hb (nomark _)
end
section
variable {X : Cx} {Ed : DX -> Prop} {E : XK} {K : PySem.W.Frag} {pos : Pos} {e a b c : Expr} {te ta tb tc : TE} {de da db dc : DE} {tt tu : TT} {dt du : DT} {tal : TA} {dal : DA} {es : List Expr}
def dB (de : DE) (ρ : Rho) (Q : Bool -> Prop) : Prop := de ρ λ x => match x with
 | .bl b => Q b
 | _ => False
theorem qfE (h : SimE K Ed E te de) : SimT K Ed E (tB te) (dB de) := λ B0 B1 A H0 H σ ρ R X Qd hd Q q =>
 h B0 B1 A H0 H σ ρ R X _ hd _ λ x v H1 H2 R1 g1 r1 h1 => by
   split at h1
   · exact ⟨_, r1, q _ H1 H2 R1 g1 h1⟩
   · exact h1.elim
theorem qbd (h : JE X Ed E e te de) (he : ∀ whole, isTrue e X.env whole = (do let v <- whole; standAt e.pos; holding [v] (truthy v)) := by intro _; rfl) : JT X Ed E e (tB te) (dB de) := ⟨pt_val h.pe he, qfE h.sim⟩
theorem qdm {op : CmpOp} {r : R2} {rd : D -> D -> (D -> Prop) -> Prop} (ho : OpR X (compareOp op) r) (sr : qa0 X.K r rd) (ha : JE X Ed E a ta da) (hb : JE X Ed E b tb db) (hm : behindInMarks op b = false) : JT X Ed E (.Compare a [op] [b] pos) (tB (tOp r ta tb)) (dB (dOp rd da db)) :=
 ⟨pt_cmpR ho ha.pe hb.pe hm, qfE (qft sr ha.sim hb.sim)⟩
def dAnd (t u : DT) (ρ : Rho) (Q : Bool -> Prop) : Prop := t ρ λ c => if c = true then u ρ Q else Q false
def dOr (t u : DT) (ρ : Rho) (Q : Bool -> Prop) : Prop := t ρ λ c => if c = true then Q true else u ρ Q
def dNot (t : DT) (ρ : Rho) (Q : Bool -> Prop) : Prop := t ρ λ c => Q (!c)
theorem qu4 (h1 : SimT K Ed E tt dt) (h2 : SimT K Ed E tu du) : SimT K Ed E (tAnd tt tu) (dAnd dt du) := λ B0 B1 A H0 H σ ρ R X Qd hd Q q =>
 h1 B0 B1 A H0 H σ ρ R X _ hd _ λ c H1 H2 R1 g1 k => by
   cases c with
   | true => exact h2 B0 B1 A H1 H2 σ ρ R1 X Qd k Q λ x H3 H4 R2 g2 k2 => q x H3 H4 R2 (g1.trans g2) k2
   | false => exact q false H1 H2 R1 g1 k
theorem qvj (h1 : SimT K Ed E tt dt) (h2 : SimT K Ed E tu du) : SimT K Ed E (tOr tt tu) (dOr dt du) := λ B0 B1 A H0 H σ ρ R X Qd hd Q q =>
 h1 B0 B1 A H0 H σ ρ R X _ hd _ λ c H1 H2 R1 g1 k => by
   cases c with
   | false => exact h2 B0 B1 A H1 H2 σ ρ R1 X Qd k Q λ x H3 H4 R2 g2 k2 => q x H3 H4 R2 (g1.trans g2) k2
   | true => exact q true H1 H2 R1 g1 k
theorem qBE (h1 : SimT K Ed E tt dt) : SimT K Ed E (tNot tt) (dNot dt) := λ B0 B1 A H0 H σ ρ R X Qd hd Q q =>
 h1 B0 B1 A H0 H σ ρ R X _ hd _ λ c H1 H2 R1 g1 k => q (!c) H1 H2 R1 g1 k
theorem qmq (ha : JT X Ed E a tt dt) : JW X Ed E (.BoolOp .And [a] pos) tt dt := ⟨pw_and1 ha.pe, ha.sim⟩
theorem qc7 (ha : JT X Ed E a tt dt) : JW X Ed E (.BoolOp .Or [a] pos) tt dt := ⟨pw_or1 ha.pe, ha.sim⟩
theorem w_and (ha : JT X Ed E a tt dt) (hb : JW X Ed E (.BoolOp .And (b :: es) pos) tu du) : JW X Ed E (.BoolOp .And (a :: b :: es) pos) (tAnd tt tu) (dAnd dt du) := ⟨pw_and ha.pe hb.pe, qu4 ha.sim hb.sim⟩
theorem w_or (ha : JT X Ed E a tt dt) (hb : JW X Ed E (.BoolOp .Or (b :: es) pos) tu du) : JW X Ed E (.BoolOp .Or (a :: b :: es) pos) (tOr tt tu) (dOr dt du) := ⟨pw_or ha.pe hb.pe, qvj ha.sim hb.sim⟩
theorem t_w (h : JW X Ed E e tt dt) : JT X Ed E e tt dt := ⟨h.pe.pt, h.sim⟩
theorem qb0 (ha : JT X Ed E a tt dt) : JT X Ed E (.UnaryOp .Not a pos) (tNot tt) (dNot dt) := ⟨pt_not ha.pe, qBE ha.sim⟩
def qfJ (da db : DE) (ρ : Rho) (Q : D -> Prop) : Prop := da ρ λ x => match x with
 | .bl c => if c = true then db ρ Q else Q (.bl false)
 | _ => False
def dOrV (da db : DE) (ρ : Rho) (Q : D -> Prop) : Prop := da ρ λ x => match x with
 | .bl c => if c = true then Q (.bl true) else db ρ Q
 | _ => False
def qq6 (da : DE) (ρ : Rho) (Q : D -> Prop) : Prop := da ρ λ x => match x with
 | .bl c => Q (.bl (!c))
 | _ => False
theorem qBM (h1 : SimE K Ed E ta da) (h2 : SimE K Ed E tb db) : SimE K Ed E (tAndV ta tb) (qfJ da db) := λ B0 B1 A H0 H σ ρ R X Qd hd Q q =>
 h1 B0 B1 A H0 H σ ρ R X _ hd _ λ x v H1 H2 R1 g1 r1 k => by
   split at k
   · rename_i c
     refine ⟨c, r1, ?_⟩
     cases c with
     | true => exact h2 B0 B1 A H1 H2 σ ρ R1 X Qd k Q λ x v H3 H4 R2 g2 r2 k2 => q x v H3 H4 R2 (g1.trans g2) r2 k2
     | false => exact q (.bl false) _ H1 H2 R1 g1 rfl k
   · exact k.elim
theorem qfR {op} (h : JE X Ed E a ta da) : JE X Ed E (.BoolOp op [a] pos) ta da := ⟨pe_one h.pe, h.sim⟩
theorem qeH (ha : JE X Ed E a ta da) (hb : JE X Ed E (.BoolOp .And (b :: es) pos) tb db) : JE X Ed E (.BoolOp .And (a :: b :: es) pos) (tAndV ta tb) (qfJ da db) := ⟨pe_and ha.pe hb.pe, qBM ha.sim hb.sim⟩
def dIf (t : DT) (da db : DE) (ρ : Rho) (Q : D -> Prop) : Prop := t ρ λ c => if c = true then da ρ Q else db ρ Q
theorem qt7 (h : SimT K Ed E tt dt) (h1 : SimE K Ed E ta da) (h2 : SimE K Ed E tb db) : SimE K Ed E (tIf tt ta tb) (dIf dt da db) := λ B0 B1 A H0 H σ ρ R X Qd hd Q q =>
 h B0 B1 A H0 H σ ρ R X _ hd _ λ c H1 H2 R1 g1 k => by
   cases c with
   | true => exact h1 B0 B1 A H1 H2 σ ρ R1 X Qd k Q λ x v H3 H4 R2 g2 r2 k2 => q x v H3 H4 R2 (g1.trans g2) r2 k2
   | false => exact h2 B0 B1 A H1 H2 σ ρ R1 X Qd k Q λ x v H3 H4 R2 g2 r2 k2 => q x v H3 H4 R2 (g1.trans g2) r2 k2
theorem e_if (hc : JT X Ed E c tt dt) (ha : JE X Ed E a ta da) (hb : JE X Ed E b tb db) : JE X Ed E (.IfExp c a b pos) (tIf tt ta tb) (dIf dt da db) := ⟨pe_ifExp hc.pe ha.pe hb.pe, qt7 hc.sim ha.sim hb.sim⟩
def dNil (_ : Rho) (Q : List D -> Prop) : Prop := Q []
def qbD (de : DE) (dr : DA) (ρ : Rho) (Q : List D -> Prop) : Prop := de ρ λ x => dr ρ λ xs => Q (x :: xs)
theorem qeT : SimA K Ed E tNil dNil := λ B0 B1 A H0 H σ ρ R X Qd hd Q q => q [] [] H0 H R (.refl R.ex) rfl hd
theorem qnE (h1 : SimE K Ed E te de) (h2 : SimA K Ed E tal dal) : SimA K Ed E (tCons te tal) (qbD de dal) := λ B0 B1 A H0 H σ ρ R X Qd hd Q q =>
 h1 B0 B1 A H0 H σ ρ R X _ hd _ λ x v H1 H2 R1 g1 r1 k => h2 B0 B1 A H1 H2 σ ρ R1 X _ k _ λ xs vs H3 H4 R2 g2 r2 k2 =>
   q (x :: xs) (v :: vs) H3 H4 R2 (g1.trans g2) ⟨v, vs, rfl, Rep.mono g2.g0 _ _ r1, r2⟩ k2
theorem qac : JA X Ed E [] tNil dNil := ⟨pa_nil, qeT⟩
theorem qaa (ha : JE X Ed E e te de) (hr : JA X Ed E es tal dal) (hs : starEach (e :: es) X.env = (false, eval e X.env) :: starEach es X.env := by rfl) : JA X Ed E (e :: es) (tCons te tal) (qbD de dal) := ⟨pa_cons ha.pe hr.pe hs, qnE ha.sim hr.sim⟩
def dTup (da : DA) (ρ : Rho) (Q : D -> Prop) : Prop := da ρ λ xs => xs.length <= 1000 /\ Q (.tup xs)
def dLst (da : DA) (ρ : Rho) (Q : D -> Prop) : Prop := da ρ λ xs => xs.length <= 1000 /\ Q (.lst xs)
theorem qiR {n : Nat} (h : n <= 1000) : n <= sizeLine := Nat.le_of_lt (small1000 h)
theorem qxc (h : SimA K Ed E tal dal) : SimE K Ed E (tTup tal) (dTup dal) := λ B0 B1 A H0 H σ ρ R X Qd hd Q q =>
 h B0 B1 A H0 H σ ρ R X _ hd _ λ xs vs H1 H2 R1 g1 r1 k => ⟨by rw [r1.length]; exact qiR k.1, λ p hp => by
   have g := Grow.new (o := .tup vs) R1.ex hp
   exact q (.tup xs) (.ref p) _ _ (R1.grow g) (g1.trans g) ⟨p, vs, rfl, .inl (.inl upd_same), Reps.mono g.g0 _ _ r1⟩ k.2⟩
theorem qyt (h : SimA K Ed E tal dal) : SimE K Ed E (tLst tal) (dLst dal) := λ B0 B1 A H0 H σ ρ R X Qd hd Q q =>
 h B0 B1 A H0 H σ ρ R X _ hd _ λ xs vs H1 H2 R1 g1 r1 k => ⟨by rw [r1.length]; exact qiR k.1, λ p hp => by
   have g := Grow.new (o := .lst vs) R1.ex hp
   exact q (.lst xs) (.ref p) _ _ (R1.grow g) (g1.trans g) ⟨p, vs, rfl, .inl (.inl upd_same), Reps.mono g.g0 _ _ r1⟩ k.2⟩
theorem qay {x1} (h : JA X Ed E es tal dal) : JE X Ed E (.Tuple es x1 pos) (tTup tal) (dTup dal) := ⟨pe_tup h.pe, qxc h.sim⟩
theorem qbp (h : JA X Ed E es tal dal) : JE X Ed E (.List es pos) (tLst tal) (dLst dal) := ⟨pe_lst h.pe, qyt h.sim⟩
def onS {α : Type} (o : Option α) (Q : α -> Prop) : Prop := match o with
 | some a => Q a
 | none => False
theorem qaB {α : Type} {o : Option α} {Q : α -> Prop} (h : onS o Q) : ∃ a, o = some a /\ Q a := by
 cases o with
 | none => exact h.elim
 | some a => exact ⟨a, rfl, h⟩
def dIx (x y : D) (Q : D -> Prop) : Prop := match x, y with
 | .tup xs, .int i => onS (atI xs i) Q
 | .lst xs, .int i => onS (atI xs i) Q
 | .lat _ xs, .int i => onS (atI xs i) Q
 | .str z, .int i => z.length <= sizeLine /\ onS (atI z.cps.toList i) λ c => Q (.str ⟨#[c]⟩)
 | _, _ => False
theorem qgi {H : Hp} {xs : List D} {vs : List V} {i : Int} {d : D} (r : Reps K H xs vs) (h : atI xs i = some d) : ∃ v, atI vs i = some v /\ Rep K H d v := by
 unfold atI at h ⊢
 rw [r.length]
 cases e : ixN xs.length i with
 | none => rw [e] at h; cases h
 | some j =>
   rw [e] at h
   exact r.get h
theorem s_ix : qa0 K (rIx K) dIx := by
 intro H0 H x y dx dy sm rx ry Qd h Q q
 unfold dIx at h
 split at h
 · rename_i xs i
   obtain ⟨d, hd, h⟩ := qaB h
   obtain ⟨a, vs, rfl, hs, r⟩ := rx
   obtain ⟨v, hv, rv⟩ := qgi r hd
   exact .inr (.inl ⟨a, vs, i, v, rfl, ry, qaC sm hs, hv, q d v H0 H (.refl sm) rv h⟩)
 · rename_i xs i
   obtain ⟨d, hd, h⟩ := qaB h
   obtain ⟨a, vs, rfl, hs, r⟩ := rx
   obtain ⟨v, hv, rv⟩ := qgi r hd
   exact .inl ⟨a, vs, i, v, rfl, ry, sm.seq hs, hv, q d v H0 H (.refl sm) rv h⟩
 · rename_i c xs i
   obtain ⟨d, hd, h⟩ := qaB h
   obtain ⟨rfl, vs, hs, r⟩ := rx
   obtain ⟨v, hv, rv⟩ := qgi r hd
   exact .inl ⟨c, vs, i, v, rfl, ry, sm.seq hs, hv, q d v H0 H (.refl sm) rv h⟩
 · rename_i z i
   obtain ⟨hz, h⟩ := h
   obtain ⟨c, hc, h⟩ := qaB h
   exact .inr (.inr ⟨z, i, c, rx, ry, hz, hc, q (.str ⟨#[c]⟩) _ H0 H (.refl sm) rfl h⟩)
 · exact h.elim
theorem e_ix (ha : JE X Ed E a ta da) (hb : JE X Ed E b tb db) (hs : PlainIx b := by exact λ _ _ => rfl) : JE X Ed E (.Subscript a b pos) (tOp (rIx X.K) ta tb) (dOp dIx da db) := ⟨pe_ix ix_seq ha.pe hb.pe hs, qft s_ix ha.sim hb.sim⟩
end
section
variable {X : Cx} {Ed : DX -> Prop} {E : XK} {K : PySem.W.Frag} {pos : Pos} {e a b c : Expr} {te ta tb tc : TE} {de da db dc : DE} {tt tu : TT} {dt du : DT} {tal : TA} {dal : DA} {es : List Expr} {st : Stmt} {sts : List Stmt} {ts us : TS} {ds dus : DS}
def qc4 (d : qao) (ρ : Rho) : Prop := d.nx ρ
def dSeq (t u : DS) (d : qao) (ρ : Rho) : Prop := t { d with nx := u d } ρ
def dBrk (d : qao) (ρ : Rho) : Prop := d.bk ρ
def dCnt (d : qao) (ρ : Rho) : Prop := d.ct ρ
def qhA (de : DE) (d : qao) (ρ : Rho) : Prop := de ρ λ _ => d.nx ρ
def dRet (de : DE) (d : qao) (ρ : Rho) : Prop := de ρ λ x => d.rt x ρ
def qrm (d : qao) (ρ : Rho) : Prop := d.rt .non ρ
def dIfS (c : DT) (t u : DS) (d : qao) (ρ : Rho) : Prop := c ρ λ b => if b = true then t d ρ else u d ρ
def qtF (_ : qao) (_ : Rho) : Prop := False
theorem EndsRel.next {B0 B1 : Hp} {d : qao} {D : Ends} {f : Rho -> Prop} {g : L2.St -> Hp -> Prop} (r : EndsRel K B0 B1 d D) (h : ∀ A H0 H σ ρ, RepS K B0 B1 A H0 H σ ρ -> f ρ -> g σ H) : EndsRel K B0 B1 { d with nx := f } { D with nx := g } := ⟨h, r.rt, r.bk, r.ct⟩
theorem qAJ : SimS K Ed E tNext qc4 := λ B0 B1 A H0 H σ ρ R X d D r h => r.nx A H0 H σ ρ R h
theorem quf (h1 : SimS K Ed E ts ds) (h2 : SimS K Ed E us dus) : SimS K Ed E (tSeq ts us) (dSeq ds dus) := λ B0 B1 A H0 H σ ρ R X d D r h =>
 h1 B0 B1 A H0 H σ ρ R X _ _ (r.next λ A' H0' H' σ' ρ' R' h' => h2 B0 B1 A' H0' H' σ' ρ' R' X d D r h') h
theorem qau : JB X Ed E [] tNext qc4 := ⟨pss_nil, qAJ⟩
theorem qaf (h1 : JS X Ed E st ts ds) (h2 : JB X Ed E sts us dus) : JB X Ed E (st :: sts) (tSeq ts us) (dSeq ds dus) := ⟨pss_cons h1.pe h2.pe, quf h1.sim h2.sim⟩
theorem qag (h1 : JS X Ed E st ts ds) : JB X Ed E [st] ts ds := ⟨pss_one h1.pe, h1.sim⟩
theorem qhP (he : JE X Ed E e te de) (hs : swapsWith e none pos.line X.env = pure false := by rfl) : JS X Ed E (.Expr e pos) (tDrop te) (qhA de) :=
 ⟨ps_expr he.pe hs, λ B0 B1 A H0 H σ ρ R X d D r h => he.sim B0 B1 A H0 H σ ρ R X _ h _ λ x v H1 H2 R1 g1 r1 k => r.nx A H1 H2 σ ρ R1 k⟩
theorem st_ret (he : JE X Ed E e te de) : JS X Ed E (.Return (some e) pos) (tRet te) (dRet de) :=
 ⟨ps_ret he.pe, λ B0 B1 A H0 H σ ρ R X d D r h => he.sim B0 B1 A H0 H σ ρ R X _ h _ λ x v H1 H2 R1 g1 r1 k => r.rt A H1 H2 σ ρ x v R1 r1 k⟩
theorem qat {x y : List Stmt} (hc : JT X Ed E c tt dt) (ha : JB X Ed E x ts ds) (hb : JB X Ed E y us dus) : JS X Ed E (.If c x y pos) (tIfS tt ts us) (dIfS dt ds dus) :=
 ⟨ps_if hc.pe ha.pe hb.pe, λ B0 B1 A H0 H σ ρ R X d D r h => hc.sim B0 B1 A H0 H σ ρ R X _ h _ λ b H1 H2 R1 g1 k => by
   cases b with
   | true => exact ha.sim B0 B1 A H1 H2 σ ρ R1 X d D r k
   | false => exact hb.sim B0 B1 A H1 H2 σ ρ R1 X d D r k⟩
theorem qeI : JS X Ed E st tNever qtF := ⟨ps_never, λ _ _ _ _ _ _ _ _ _ _ _ _ h => h.elim⟩
abbrev DG := D -> Rho -> (Rho -> Prop) -> Prop
abbrev DGs := List D -> Rho -> (Rho -> Prop) -> Prop
def SimG (K : PySem.W.Frag) (g : TG) (dg : DG) : Prop := ∀ B0 B1 A H0 H σ ρ x v, RepS K B0 B1 A H0 H σ ρ -> Rep K H0 x v -> ∀ Qd : Rho -> Prop, dg x ρ Qd -> ∀ Q : L2.St -> Hp -> Prop,
 (∀ A' σ' ρ', RepS K B0 B1 A' H0 H σ' ρ' -> (∀ i a, A' i = some a -> ∃ j, A j = some a) -> Qd ρ' -> Q σ' H) -> g v σ H Q
def qCB (K : PySem.W.Frag) (g : TGs) (dg : DGs) : Prop := ∀ B0 B1 A H0 H σ ρ xs vs, RepS K B0 B1 A H0 H σ ρ -> Reps K H0 xs vs -> ∀ Qd : Rho -> Prop, dg xs ρ Qd -> ∀ Q : L2.St -> Hp -> Prop,
 (∀ A' σ' ρ', RepS K B0 B1 A' H0 H σ' ρ' -> (∀ i a, A' i = some a -> ∃ j, A j = some a) -> Qd ρ' -> Q σ' H) -> g vs σ H Q
structure JG (X : Cx) (tg : Expr) (g : TG) (dg : DG) : Prop where
 pe : PG X tg g
 sim : SimG X.K g dg
structure JGs (X : Cx) (tg : List Expr) (g : TGs) (dg : DGs) : Prop where
 pe : PGs X tg g
 sim : qCB X.K g dg
def dName (i : Nat) (x : D) (ρ : Rho) (Q : Rho -> Prop) : Prop := Q (ρ.set i (some (.d x)))
def qbU (xs : List D) (ρ : Rho) (Q : Rho -> Prop) : Prop := match xs with
 | [] => Q ρ
 | _ => False
def qbS (t : DG) (u : DGs) (xs : List D) (ρ : Rho) (Q : Rho -> Prop) : Prop := match xs with
 | x :: r => t x ρ λ ρ' => u r ρ' Q
 | [] => False
def qco (t : DGs) (x : D) (ρ : Rho) (Q : Rho -> Prop) : Prop := match x with
 | .tup xs => t xs ρ Q
 | _ => False
theorem qgQ {i : Nat} : SimG K (gName i) (dName i) := λ B0 B1 A H0 H σ ρ x v R r Qd h Q q => q _ _ _ (R.setD i r) (λ j a e => ⟨j, (qb6 e).2⟩) h
theorem qam {x : Str} (i : Nat) (hN : X.N.Nodup) (hi : X.N[i]? = some x := by rfl) (hx : Loc X.env.scope x := by first | exact Or.inl rfl | exact Or.inr rfl) (hf : X.fn x = true ∨ X.env.scope.names.lookup x = some .local := by first | exact .inl rfl | exact .inr rfl | assumption) : JG X (.Name x pos) (gName i) (dName i) := ⟨pg_name hN hi hx hf, qgQ⟩
theorem qaT : JGs X [] gNil qbU := ⟨pgs_nil, λ B0 B1 A H0 H σ ρ xs vs R r Qd h Q q => by
 unfold qbU at h
 split at h
 · cases (show vs = _ from r)
   exact ⟨rfl, q A σ ρ R (λ i a e => ⟨i, e⟩) h⟩
 · exact h.elim⟩
theorem qas {g : TG} {dg : DG} {gs : TGs} {dgs : DGs} (h1 : JG X e g dg) (h2 : JGs X es gs dgs) (hs : (assignEach (e :: es) X.env).map (·.2) = assign e X.env :: (assignEach es X.env).map (·.2) := by rfl) : JGs X (e :: es) (gCons g gs) (qbS dg dgs) :=
 ⟨pgs_cons h1.pe h2.pe hs, λ B0 B1 A H0 H σ ρ xs vs R r Qd h Q q => by
   unfold qbS at h
   split at h
   · obtain ⟨v, vr, rfl, r1, r2⟩ := r
     exact ⟨v, vr, rfl, h1.sim B0 B1 A H0 H σ ρ _ v R r1 _ h _ λ A' σ' ρ' R' o' h' => h2.sim B0 B1 A' H0 H σ' ρ' _ vr R' r2 _ h' _ λ A2 σ2 ρ2 R2 o2 k2 =>
       q A2 σ2 ρ2 R2 (λ i a e => let ⟨j, z⟩ := o2 i a e; o' j a z) k2⟩
   · exact h.elim⟩
theorem qaS {gs : TGs} {dgs : DGs} {k : Nat} {n : Nat} (hc : X.calm = true) (h : JGs X es gs dgs) (hd : ∀ xs ρ Q, dgs xs ρ Q -> xs.length = n)
   (hn : (assignEach es X.env).length = n := by rfl) (hst : (assignEach es X.env).findIdx? (·.1) = none := by rfl) : JG X (.Tuple es k pos) (gTup X.K n gs) (qco dgs) := ⟨pg_tup hc h.pe hn hst, λ B0 B1 A H0 H σ ρ x v R r Qd hq Q q => by
 unfold qco at hq
 split at hq
 · obtain ⟨l, vs, rfl, hs, r1⟩ := r
   exact ⟨l, vs, rfl, qaC R.ex hs, by rw [r1.length]; exact hd _ _ _ hq, h.sim B0 B1 A H0 H σ ρ _ vs R r1 Qd hq Q q⟩
 · exact hq.elim⟩
theorem qs5 : ∀ xs ρ Q, qbU xs ρ Q -> xs.length = 0 := λ xs ρ Q h => by
 cases xs with
 | nil => rfl
 | cons x r => exact (show False from h).elim
def qj3 : List Nat -> DGs
 | [] => qbU
 | i :: r => qbS (dName i) (qj3 r)
theorem qaP : ∀ (l : List Nat) xs ρ Q, qj3 l xs ρ Q -> xs.length = l.length
 | [], xs, ρ, Q, h => qs5 xs ρ Q h
 | i :: r, [], ρ, Q, h => (show False from h).elim
 | i :: r, x :: xs, ρ, Q, h => congrArg (· + 1) (qaP r xs _ Q (show qj3 r xs (ρ.set i (some (.d x))) Q from h))
def dAsg (de : DE) (g : DG) (d : qao) (ρ : Rho) : Prop := de ρ λ x => g x ρ d.nx
theorem qgP {g : TG} {dg : DG} (h : SimE K Ed E te de) (hg : SimG K g dg) : SimS K Ed E (tAsg te g) (dAsg de dg) := λ B0 B1 A H0 H σ ρ R X d D r hd =>
 h B0 B1 A H0 H σ ρ R X _ hd _ λ x v H1 H2 R1 g1 r1 k => hg B0 B1 A H1 H2 σ ρ x v R1 r1 _ k _ λ A' σ' ρ' R' _ k' => r.nx A' H1 H2 σ' ρ' R' k'
theorem qyN {tg : Expr} {g : TG} {dg : DG} (he : JE X Ed E e te de) (hg : JG X tg g dg) (hs : swapsWithSole [tg] e pos.line X.env = pure false := by rfl) (hw : swappedStores [tg] e X.env = pure none := by rfl)
   (h1 : (assignEach [tg] X.env).map (·.2) = [assign tg X.env] := by rfl) : JS X Ed E (.Assign [tg] e pos) (tAsg te g) (dAsg de dg) := ⟨ps_asg he.pe hg.pe hs hw h1, qgP he.sim hg.sim⟩
theorem st_set {x : Str} {p2 : Pos} (i : Nat) (hN : X.N.Nodup) (he : JE X Ed E e te de) (hi : X.N[i]? = some x := by rfl) (hx : Loc X.env.scope x := by first | exact Or.inl rfl | exact Or.inr rfl) (hs : swapsWith e (some (.Name x p2)) pos.line X.env = pure false := by rfl)
   (hf : X.fn x = true ∨ X.env.scope.names.lookup x = some .local := by first | exact .inl rfl | exact .inr rfl | assumption) : JS X Ed E (.Assign [.Name x p2] e pos) (tAsg te (gName i)) (dAsg de (dName i)) := ⟨ps_set hN hi hx he.pe hs hf, qgP he.sim qgQ⟩
def dPar (i j : Nat) (da : DA) (d : qao) (ρ : Rho) : Prop := da ρ λ xs => match xs with
 | [x, y] => d.nx ((ρ.set i (some (.d x))).set j (some (.d y)))
 | _ => False
theorem qsm {i j : Nat} {x y : Str} {px py pt : Pos} {kt k2 pt2} (hc : X.calm = true) (hN : X.N.Nodup) (hi : X.N[i]? = some x) (hj : X.N[j]? = some y) (hij : i ≠ j)
   (hx : X.env.scope.names.lookup x = some .local) (hy : X.env.scope.names.lookup y = some .local) (ha : JA X Ed E [a, b] tal dal)
   (hw : swappedStores [.Tuple [.Name x px, .Name y py] kt pt] (.Tuple [a, b] k2 pt2) X.env = pure (some [x, y]))
   (hs : swapsWithSole [.Tuple [.Name x px, .Name y py] kt pt] (.Tuple [a, b] k2 pt2) pos.line X.env = pure false := by rfl) :
   JS X Ed E (.Assign [.Tuple [.Name x px, .Name y py] kt pt] (.Tuple [a, b] k2 pt2) pos) (tPar i j tal) (dPar i j dal) := ⟨ps_par hc hN hi hj hij hx hy ha.pe hw hs, λ B0 B1 A H0 H σ ρ R X d D r hd =>
 ha.sim B0 B1 A H0 H σ ρ R X _ hd _ λ xs vs H1 H2 R1 g1 r1 k => by
   split at k
   · obtain ⟨v, vr, rfl, q1, w, wr, rfl, q2, e3⟩ := r1
     cases (show wr = _ from e3)
     exact ⟨v, w, rfl, r.nx _ _ _ _ _ ((R1.setD i q1).setD j q2) k⟩
   · exact k.elim⟩
abbrev DI := Rho -> (List D -> Prop) -> Prop
def Walks (K : PySem.W.Frag) (J : It) (Hs : Hp) (xs : List D) : Prop :=
 ∀ (i : Nat) (H0 H : Hp), Same H0 H -> Same Hs H0 -> (∀ x, xs[i]? = some x -> J.go i H /\ ∀ v H', J.yld i H v H' -> ∃ H0', Grow H0 H H0' H' /\ Rep K H0' x v) /\ (xs[i]? = none -> J.stop i H)
def SimI (K : PySem.W.Frag) (Ed : DX -> Prop) (E : XK) (ti : TI) (di : DI) : Prop := ∀ B0 B1 A H0 H σ ρ, RepS K B0 B1 A H0 H σ ρ -> ExRel K B0 B1 Ed E -> ∀ Ld : List D -> Prop, di ρ Ld -> ∀ R : It -> Hp -> Prop,
 (∀ J xs H0' H', RepS K B0 B1 A H0' H' σ ρ -> Grow H0 H H0' H' -> Walks K J H0' xs -> Ld xs -> R J H') -> ti σ H R
structure JI (X : Cx) (Ed : DX -> Prop) (E : XK) (tg iter : Expr) (ti : TI) (di : DI) : Prop where
 pe : PI X tg iter ti
 sim : SimI X.K Ed E ti di
def qjZ (de : DE) (ρ : Rho) (L : List D -> Prop) : Prop := de ρ λ x => match x with
 | .lst xs => L xs
 | .tup xs => L xs
 | _ => False
def qqu (de : DE) (ρ : Rho) (L : List D -> Prop) : Prop := de ρ λ x => match x with
 | .lst xs => L xs
 | _ => False
def qpT (de : DE) (ρ : Rho) (L : List D -> Prop) : Prop := de ρ λ x => match x with
 | .tup xs => L xs
 | _ => False
theorem qsR {Hs : Hp} {l : Addr} {vs : List V} {xs : List D} (h : SqL K Hs l vs) (r : Reps K Hs xs vs) : Walks K (Itl K l) Hs xs := λ i H0 H sm s0 => by
 have hs := sm.seq (s0.seq h)
 refine ⟨λ x hx => ?_, λ hx => ⟨vs, hs, ?_⟩⟩
 · obtain ⟨v, hv, rv⟩ := r.get hx
   refine ⟨⟨vs, v, hs, hv⟩, λ u H' y => ?_⟩
   obtain ⟨rfl, y⟩ := y
   have e := y vs hs
   rw [hv] at e
   cases e
   exact ⟨H0, .refl sm, Rep.mono s0 _ _ rv⟩
 · rw [r.length]
   exact List.getElem?_eq_none_iff.mp hx
theorem qxy {Hs : Hp} {l : Addr} {vs : List V} {xs : List D} (h : SqT K Hs l vs) (r : Reps K Hs xs vs) : Walks K (Itt K l) Hs xs := λ i H0 H sm s0 => by
 have hs := qaC sm (qaC s0 h)
 refine ⟨λ x hx => ?_, λ hx => ⟨vs, hs, ?_⟩⟩
 · obtain ⟨v, hv, rv⟩ := r.get hx
   refine ⟨⟨vs, v, hs, hv⟩, λ u H' y => ?_⟩
   obtain ⟨rfl, y⟩ := y
   have e := y vs hs
   rw [hv] at e
   cases e
   exact ⟨H0, .refl sm, Rep.mono s0 _ _ rv⟩
 · rw [r.length]
   exact List.getElem?_eq_none_iff.mp hx
def qbu (lo : Int) (n : Nat) : List D := (List.range n).map λ (i : Nat) => D.int (lo + (i : Int))
theorem quU {Hs : Hp} {lo : Int} {n : Nat} : Walks K (Itr lo n) Hs (qbu lo n) := λ i H0 H sm s0 => by
 refine ⟨λ x hx => ?_, λ hx => ?_⟩
 · obtain ⟨hi, e⟩ := List.getElem?_eq_some_iff.mp hx
   have hi : i < n := by simpa [qbu] using hi
   refine ⟨hi, λ u H' y => ?_⟩
   obtain ⟨rfl, rfl⟩ := y
   refine ⟨H0, .refl sm, ?_⟩
   rw [<- e]
   simp [qbu, Rep]
 · have e := List.getElem?_eq_none_iff.mp hx
   show n <= i
   simpa [qbu] using e
def iSeq (K : PySem.W.Frag) (tl : TE) : TI := λ σ H R => tl σ H λ x H1 => (∃ a, x = .ref a /\ (∃ xs, SqL K H1 a xs) /\ R (Itl K a) H1) ∨ (∃ a, x = .ref a /\ (∃ xs, SqT K H1 a xs) /\ R (Itt K a) H1)
theorem qA8 {tg l : Expr} {tl : TE} (hl : PE X l tl) : PI X tg l (iSeq X.K tl) := by
 refine ⟨λ pins s σ H R I h => ?_⟩
 refine thn (hl.run pins s σ H _ I h) λ v s1 ⟨x, H1, I1, r1, q1⟩ => ?_
 rcases q1 with ⟨a, e, ⟨xs, hq⟩, q⟩ | ⟨a, e, ⟨xs, hq⟩, q⟩
 · subst e
   cases r1
   obtain ⟨its, rv, p, hz⟩ := I1.list hq
   refine wpAny_pyIter_list p.isList ⟨s1.heap.objs.size, [s1.heap.objs.size], _, _, H1, rfl, I1.kept (t' := s1.toks) λ b o e => Heap.get?_push_of_some _ e, turn_list a _, ⟨_, Heap.get?_push_size _ rfl, rfl, rfl⟩, λ b hb => ?_, q⟩
   obtain rfl : b = s1.heap.objs.size := by simpa using hb
   exact I1.fpOk (Nat.le_refl _) (I1.hok.fresh (Nat.le_refl _))
 · subst e
   cases r1
   obtain ⟨its, rv, p, hz⟩ := I1.tuple hq
   refine wpAny_pyIter_tuple (show s1.heap.IsTuple a its.toArray from p) ⟨s1.heap.objs.size, [s1.heap.objs.size], _, _, H1, rfl, I1.kept (t' := s1.toks) λ b o e => Heap.get?_push_of_some _ e, turn_tuple a _, ⟨_, Heap.get?_push_size _ rfl, rfl, rfl⟩, λ b hb => ?_, q⟩
   obtain rfl : b = s1.heap.objs.size := by simpa using hb
   exact I1.fpOk (Nat.le_refl _) (I1.hok.fresh (Nat.le_refl _))
theorem qaA {tg : Expr} (h : JE X Ed E e te de) : JI X Ed E tg e (iSeq X.K te) (qjZ de) := ⟨qA8 h.pe, λ B0 B1 A H0 H σ ρ R X Ld hd Q q => h.sim B0 B1 A H0 H σ ρ R X _ hd _ λ x v H1 H2 R1 g1 r1 k => by
 split at k
 · obtain ⟨l, vs, rfl, hs, r⟩ := r1
   exact .inl ⟨l, rfl, ⟨vs, R1.ex.seq hs⟩, q _ _ H1 H2 R1 g1 (qsR hs r) k⟩
 · obtain ⟨l, vs, rfl, hs, r⟩ := r1
   exact .inr ⟨l, rfl, ⟨vs, qaC R1.ex hs⟩, q _ _ H1 H2 R1 g1 (qxy hs r) k⟩
 · exact k.elim⟩
def qh4 (da : DA) (ρ : Rho) (L : List D -> Prop) : Prop := da ρ λ xs => match xs with
 | [.int n] => (-(2 ^ 62) <= n /\ n < 2 ^ 62) /\ L (qbu 0 n.toNat)
 | _ => False
def qmH (da : DA) (ρ : Rho) (L : List D -> Prop) : Prop := da ρ λ xs => match xs with
 | [.int i, .int j] => (-(2 ^ 62) <= i /\ i < 2 ^ 62 /\ -(2 ^ 62) <= j /\ j < 2 ^ 62) /\ L (qbu i (j - i).toNat)
 | _ => False
theorem qi5 {tg : Expr} {p : Pos} (hm : X.mg "range" = none) (ha : JA X Ed E [a] tal dal) (hg : Gl X "range" := by rfl) (hs : starEach [a] X.env = [(false, eval a X.env)] := by rfl) : JI X Ed E tg (.Call (.Name "range" p) [a] [] pos) (iRng1 tal) (qh4 dal) :=
 ⟨pi_range1 hg hm ha.pe hs, λ B0 B1 A H0 H σ ρ R X Ld hd Q q => ha.sim B0 B1 A H0 H σ ρ R X _ hd _ λ xs vs H1 H2 R1 g1 r1 k => by
   split at k
   · rename_i n
     obtain ⟨v, vr, rfl, q1, e3⟩ := r1
     cases (show vr = _ from e3)
     cases (show v = _ from q1)
     exact ⟨n, rfl, k.1.1, k.1.2, q _ _ H1 H2 R1 g1 quU k.2⟩
   · exact k.elim⟩
def qbN (g : DG) (tb : DS) (d : qao) : List D -> Rho -> Prop
 | [], ρ => d.nx ρ
 | x :: r, ρ => g x ρ λ ρ' => tb { d with nx := qbN g tb d r, ct := qbN g tb d r, bk := d.nx } ρ'
def dFor (di : DI) (g : DG) (tb : DS) (d : qao) (ρ : Rho) : Prop := di ρ λ xs => qbN g tb d xs ρ
theorem drop_at {α : Type} {xs : List α} {i : Nat} : (∃ x, xs[i]? = some x /\ xs.drop i = x :: xs.drop (i + 1)) ∨ (xs[i]? = none /\ xs.drop i = []) := by
 by_cases h : i < xs.length
 · exact .inl ⟨xs[i], List.getElem?_eq_getElem h, List.drop_eq_getElem_cons h⟩
 · exact .inr ⟨List.getElem?_eq_none (by omega), List.drop_eq_nil_of_le (by omega)⟩
theorem qzZ {ti : TI} {di : DI} {g : TG} {dg : DG} {tb : TS} {dtb : DS} (hi : SimI K Ed E ti di) (hg : SimG K g dg) (hb : SimS K Ed E tb dtb) : SimS K Ed E (tFor ti g tb) (dFor di dg dtb) := λ B0 B1 A H0 H σ ρ R X d D r hd =>
 hi B0 B1 A H0 H σ ρ R X _ hd _ λ J xs Hs0 Hs Rs gs wk hl => by
   obtain ⟨B1', Rb, smB, nB, oB, bk⟩ := Rs.rebase
   have hbn : ∀ p, B1' p = none -> B1 p = none := λ p hp => by
     by_cases ho : ∃ i, A i = some p
     · obtain ⟨i, hi⟩ := ho
       exact (Rs.own i p hi).2.1
     · by_cases hH : Hs p = none
       · exact Rs.gr.g1.free hH
       · rw [oB p hH (λ i z => ho ⟨i, z⟩)] at hp
         exact absurd hp hH
   have X' : ExRel K Hs0 B1' Ed E := X.grow smB bk
   -- the word: the rest of the walk
   refine ⟨λ i m σ' H' => m = xs.length - i /\ ∃ A' H0' ρ', RepS K Hs0 B1' A' H0' H' σ' ρ' /\ qbN dg dtb d (xs.drop i) ρ', ⟨xs.length, by simp, A, Hs0, ρ, Rb, by simpa using hl⟩, ?_⟩
   rintro i m σ' H' ⟨rfl, A', H0', ρ', R', hq⟩
   obtain ⟨hgo, hst⟩ := wk i H0' H' R'.ex R'.gr.g0
   rcases drop_at (xs := xs) (i := i) with ⟨x, hx, hdr⟩ | ⟨hx, hdr⟩
   · rw [hdr] at hq
     obtain ⟨go, yl⟩ := hgo x hx
     have hlt : i < xs.length := (List.getElem?_eq_some_iff.mp hx).1
     refine .inr ⟨go, λ σ2 H2 => ∃ A2 H02 ρ2, RepS K Hs0 B1' A2 H02 H2 σ2 ρ2 /\ qbN dg dtb d (xs.drop (i + 1)) ρ2, λ σ2 H2 n2 => ⟨xs.length - (i + 1), by omega, rfl, n2⟩, λ v Hn y => ?_⟩
     obtain ⟨H0n, gn, rn⟩ := yl v Hn y
     refine hg Hs0 B1' A' H0n Hn σ' ρ' x v (R'.grow gn) rn _ hq _ λ A2 σ2 ρ2 R2 _ k2 => ?_
     refine hb Hs0 B1' A2 H0n Hn σ2 ρ2 R2 X' { d with nx := qbN dg dtb d (xs.drop (i + 1)), ct := qbN dg dtb d (xs.drop (i + 1)), bk := d.nx } _ ⟨λ A3 H03 H3 σ3 ρ3 R3 k3 => ⟨A3, H03, ρ3, R3, k3⟩, λ A3 H03 H3 σ3 ρ3 z w R3 rz k3 => r.rt A3 H03 H3 σ3 ρ3 z w (R3.unbase bk hbn) rz k3, λ A3 H03 H3 σ3 ρ3 R3 k3 => r.nx A3 H03 H3 σ3 ρ3 (R3.unbase bk hbn) k3, λ A3 H03 H3 σ3 ρ3 R3 k3 => ⟨A3, H03, ρ3, R3, k3⟩⟩ k2
   · rw [hdr] at hq
     exact .inl ⟨hst hx, r.nx A' H0' H' σ' ρ' (R'.unbase bk hbn) hq⟩
theorem qbM {tg iter : Expr} {ti : TI} {di : DI} {g : TG} {dg : DG} {tb : TS} {dtb : DS} {body : List Stmt} (hp : PassesOwn (model X.prog X.w) X.A X.env X.xe) (hc : X.calm = true) (hi : JI X Ed E tg iter ti di) (hg : JG X tg g dg) (hb : JB X Ed E body tb dtb)
   (hs : ∀ x, foldedSetIterable iter X.env x = pure x := by intro _; rfl) : JS X Ed E (.For tg iter body [] pos) (tFor ti g tb) (dFor di dg dtb) := ⟨ps_for hp hc hi.pe hg.pe hb.pe hs, qzZ hi.sim hg.sim hb.sim⟩
theorem qbc {g : DG} {tb : DS} {d : qao} (Inv : List D -> Rho -> Prop) : ∀ (xs : List D) (ρ : Rho), Inv xs ρ -> (∀ x r ρ, Inv (x :: r) ρ -> (∀ N : Rho -> Prop, (∀ ρ', Inv r ρ' -> N ρ') -> g x ρ λ ρ' => tb { d with nx := N, ct := N, bk := d.nx } ρ')) -> (∀ ρ, Inv [] ρ -> d.nx ρ) -> qbN g tb d xs ρ
 | [], ρ, h, _, hd => hd ρ h
 | x :: r, ρ, h, hs, hd => hs x r ρ h _ λ ρ' h' => qbc Inv r ρ' h' hs hd
end
abbrev Wp := List D -> (D -> Prop) -> (DX -> Prop) -> Prop
def SpW (K : PySem.W.Frag) (wp : Wp) : Sp := λ vs H Q E => ∃ (H0 : Hp) (ds : List D) (Qd : D -> Prop) (Ed : DX -> Prop), Same H0 H /\ Reps K H0 ds vs /\ wp ds Qd Ed /\
 (∀ d v H0' H', Grow H0 H H0' H' -> Rep K H0' d v -> Qd d -> Q v H') /\ ExRel K H0 H Ed E
def qai : Nat -> List D -> Rho
 | 0, _ => []
 | n + 1, d :: ds => some (.d d) :: qai n ds
 | n + 1, [] => none :: qai n []
theorem qbB : ∀ (n : Nat) (ds : List D), (qai n ds).length = n
 | 0, _ => rfl
 | n + 1, d :: ds => congrArg (· + 1) (qbB n ds)
 | n + 1, [] => congrArg (· + 1) (qbB n [])
theorem qb4 : ∀ {n : Nat} {ds : List D} {i : Nat} {w : Option SV}, (qai n ds)[i]? = some w -> w = none ∨ ∃ d, ds[i]? = some d /\ w = some (.d d)
 | 0, _, i, w, h => by simp [qai] at h
 | n + 1, d :: ds, 0, w, h => by
   have h : some (some (SV.d d)) = some w := h
   cases h
   exact .inr ⟨d, rfl, rfl⟩
 | n + 1, d :: ds, i + 1, w, h => by
   rcases qb4 (n := n) (ds := ds) (i := i) (w := w) h with e | ⟨x, e1, e2⟩
   · exact .inl e
   · exact .inr ⟨x, by simpa using e1, e2⟩
 | n + 1, [], 0, w, h => by
   have h : some none = some w := h
   cases h
   exact .inl rfl
 | n + 1, [], i + 1, w, h => by
   rcases qb4 (n := n) (ds := []) (i := i) (w := w) h with e | ⟨x, e1, e2⟩
   · exact .inl e
   · simp at e1
section
variable {K : PySem.W.Frag} {B0 B1 H0 H : Hp}
omit [TbC] in
theorem qce {N : List Str} {vs : List V} {i : Nat} {v : V} (h : vs[i]? = some v) : (L2.start N vs)[i]? = some (some v) := by
 unfold L2.start
 have hi := (List.getElem?_eq_some_iff.mp h).1
 rw [List.getElem?_append_left (by simpa using hi), List.getElem?_map, h]
 rfl
theorem qe6 {N : List Str} {vs : List V} (h : vs.length <= N.length) : (L2.start N vs).length = N.length := by
 unfold L2.start
 rw [List.length_append, List.length_map, List.length_replicate]
 omega
theorem qhr {N : List Str} {vs : List V} {i : Nat} (h : vs.length <= N.length) (hi : i < N.length) : ∃ v, (L2.start N vs)[i]? = some v := ⟨_, List.getElem?_eq_getElem (by rw [qe6 h]; exact hi)⟩
theorem startS {N : List Str} {ds : List D} {vs : List V} (sm : Same H0 H) (r : Reps K H0 ds vs) (hl : ds.length <= N.length) (hz : N.length <= 1000) : RepS K H0 H (λ _ => none) H0 H (L2.start N vs) (qai N.length ds) := by
 have hv : vs.length <= N.length := by rw [r.length]; exact hl
 refine ⟨sm, .refl sm, by rw [qe6 hv, qbB], λ i w e => ?_, (λ _ _ _ h => nomatch h), (λ _ _ h => nomatch h), by rw [qbB]; exact hz, λ i x C fs q xs e => by
   rcases qb4 e with h | ⟨d, _, h⟩ <;> cases h⟩
 rcases qb4 e with rfl | ⟨d, e1, rfl⟩
 · have hi : i < N.length := by
     have := (List.getElem?_eq_some_iff.mp e).1
     rwa [qbB] at this
   obtain ⟨v, hv⟩ := qhr hv hi
   exact ⟨v, hv, rfl⟩
 · obtain ⟨v, hv, rv⟩ := r.get e1
   exact ⟨some v, qce hv, rfl, v, rfl, rv⟩
end
section
variable {P : Program} {w : World} {K : PySem.W.Frag} {mg : Str -> Option Value} {base : Heap}
structure FunX (K : PySem.W.Frag) (x qual : Str) (st : Stmt) (f : Addr) (fd : FuncData) : Prop where
 ex : ∃ (oc : Value) (od : Option Addr) (dV kV doc pm : Value) (an : Option Addr) (cdv ct : Value) (osl : Array (Option Value)),
   fd = PySem.W.fnOf x qual (defArgs st) (defBody st) (defScope st) dV kV doc pm an cdv ct /\ K.lookup f = some ⟨oc, od, .func fd, osl⟩ /\ PySem.W.codeIn K cdv qual = true
 kp : PySem.W.keepIn K (.ref f) = true
theorem FunX.okX {x qual : Str} {st : Stmt} {f : Addr} {fd : FuncData} {N ps : List Str} {k : Nat} {sp : Sp} (F : FunX K x qual st f fd) (S : FnScope N ps (defScope st)) (len : ∀ vs H Q E, sp vs H Q E -> vs.length = ps.length)
   (hbody : ∀ (cdv : Value) (A : Around) (outer : List Env) (s : Shared) (H : Hp) (vs : List V) (Q : VK) (E : XK), Room k (A.deeper (envOfC qual (defScope st) s.heap.objs.size f cdv)) -> sp vs H Q E ->
     ∃ t, PSs (cxOf (L2N.CX P w) P w K mg base N qual (defScope st) f cdv A outer s H E) (defBody st) t /\ t { nx := λ _ H' => Q .non H', rt := Q } (L2.start N vs) H) : FnOk P w K mg base (L2N.CX P w) (k + 1) f fd ps sp := by
 obtain ⟨oc, od, dV, kV, doc, pm, an, cdv, ct, osl, rfl, lk, hcd⟩ := F.ex
 exact fn_of lk hcd S len λ A outer s H vs Q E hr hsp => hbody cdv A outer s H vs Q E hr hsp
theorem qi8 {x qual : Str} {st : Stmt} {f : Addr} {oc dV : Value} {od an : Option Addr} {osl : Array (Option Value)} {kV doc pm cdv ct : Value} (l : K.lookup f = some ⟨oc, od, .func (PySem.W.fnOf x qual (defArgs st) (defBody st) (defScope st) dV kV doc pm an cdv ct), osl⟩)
   (c : PySem.W.codeIn K cdv qual = true) (k : PySem.W.keepIn K (.ref f) = true) : FunX K x qual st f (PySem.W.fnOf x qual (defArgs st) (defBody st) (defScope st) dV kV doc pm an cdv ct) := ⟨⟨oc, od, dV, kV, doc, pm, an, cdv, ct, osl, rfl, l, c⟩, k⟩
theorem qia {x qual : Str} {st : Stmt} {kV doc pm : Value} {an : Option Addr} {cdv ct : Value} {ps : List Str}
   (h : ∀ us : List Value, us.length = ps.length -> bindArgs (PySem.W.fnOf x qual (defArgs st) (defBody st) (defScope st) .none kV doc pm an cdv ct) ⟨us, []⟩ = pure (ps.zip us)) : Binds K (PySem.W.fnOf x qual (defArgs st) (defBody st) (defScope st) .none kV doc pm an cdv ct) ps [] := .all h
theorem qoT {x qual : Str} {st : Stmt} {kV doc pm : Value} {an : Option Addr} {cdv ct : Value} {ps : List Str} {T : Addr} {o : Obj} {its : List Value} {m : Nat} (n j : Nat) (lT : K.lookup T = some o) (oT : o.data = .seq its.toArray m) (hn : n + (its.length - j) = ps.length)
   (h : ∀ us : List Value, us.length = n -> ∃ k, bindArgs (PySem.W.fnOf x qual (defArgs st) (defBody st) (defScope st) (.ref T) kV doc pm an cdv ct) ⟨us, []⟩ = seqItems? (.ref T) >>= k /\ k (some its.toArray) = pure (ps.zip (us ++ its.drop j))) :
   Binds K (PySem.W.fnOf x qual (defArgs st) (defBody st) (defScope st) (.ref T) kV doc pm an cdv ct) ps (its.drop j) := λ s us X hlen => by
 have l2 : us.length = n := by
   rw [List.length_append, List.length_drop] at hlen
   omega
 obtain ⟨k, e1, e2⟩ := h us l2
 refine BindsTo.of_looks λ M => ?_
 rw [e1]
 exact looks_items X lT oT (.of_pure e2)
abbrev bx (P : Program) (w : World) (K : PySem.W.Frag) (mg : Str -> Option Value) (base : Heap) (N : List Str) (qual : Str) (st : Stmt) (f : Addr) (cdv : Value) (A : Around) (outer : List Env) (s : Shared) (H : Hp) (E : XK) : Cx :=
 cxOf (L2N.CX P w) P w K mg base N qual (defScope st) f cdv A outer s H E
theorem qaq {N : List Str} {qual : Str} {st : Stmt} {f : Addr} {cdv : Value} {A : Around} {outer : List Env} {s : Shared} {H : Hp} {E : XK} : Passes (L2N.CX P w) (bx P w K mg base N qual st f cdv A outer s H E) E :=
 L2N.passes_call (X := bx P w K mg base N qual st f cdv A outer s H E) (W := λ c d _ H => E c d H) (L2N.takes_of rfl rfl rfl rfl) λ _ _ _ _ h => h
theorem fn_ok {x qual : Str} {st : Stmt} {f : Addr} {fd : FuncData} {N ps : List Str} {k : Nat} {wp : Wp} (n : Nat) (hn : N.length = n) (F : FunX K x qual st f fd) (S : FnScope N ps (defScope st)) (len : ∀ ds Q Ed, wp ds Q Ed -> ds.length = ps.length)
   (body : ∀ (cdv : Value) (A : Around) (outer : List Env) (s : Shared) (H : Hp) (E : XK), Room k (A.deeper (envOfC qual (defScope st) s.heap.objs.size f cdv)) -> ∀ (ds : List D) (Qd : D -> Prop) (Ed : DX -> Prop), wp ds Qd Ed ->
     ∃ ts bs, JB (bx P w K mg base N qual st f cdv A outer s H E) Ed E (defBody st) ts bs /\ bs { nx := λ _ => Qd .non, rt := λ x _ => Qd x } (qai n ds)) (hz : n <= 1000 := by decide) : FnOk P w K mg base (L2N.CX P w) (k + 1) f fd ps (SpW K wp) := by
 have hpl : ps.length <= N.length := by
   have e := congrArg List.length S.pre
   rw [List.length_take] at e
   omega
 subst hn
 refine F.okX S (λ vs H Q E h => ?_) (λ cdv A outer s H vs Q E hr h => ?_)
 · obtain ⟨H0, ds, Qd, Ed, sm, r, hw, _⟩ := h
   rw [r.length]
   exact len ds Qd Ed hw
 · obtain ⟨H0, ds, Qd, Ed, sm, r, hw, q, x⟩ := h
   obtain ⟨ts, bs, jb, hb⟩ := body cdv A outer s H E hr ds Qd Ed hw
   refine ⟨ts, jb.pe, jb.sim H0 H _ H0 H _ _ (startS sm r (by rw [len ds Qd Ed hw]; exact hpl) hz) x { nx := λ _ => Qd .non, rt := λ x _ => Qd x } _ ⟨λ A H0' H' σ ρ R h => q .non .non H0' H' R.gr rfl h, λ A H0' H' σ ρ d v R rv h => q d v H0' H' R.gr rv h, λ _ _ _ _ _ _ h => h.elim, λ _ _ _ _ _ _ h => h.elim⟩ hb⟩
structure Callee (P : Program) (w : World) (K : PySem.W.Frag) (mg : Str -> Option Value) (base : Heap) (x : Str) (k : Nat) (wp : Wp) (dvs : List V) (dd : List D) : Prop where
 ex : ∃ (f : Addr) (fd : FuncData) (ps : List Str) (ds : List Value), mg x = some (.ref f) /\ PySem.W.keepIn K (.ref f) = true /\ FnOk P w K mg base (L2N.CX P w) k f fd ps (SpW K wp) /\ Binds K fd ps ds /\ Vals dvs ds /\ ∀ H, Reps K H dd dvs
end
section
variable {X : Cx} {Ed : DX -> Prop} {E : XK} {K : PySem.W.Frag} {pos p : Pos} {e a b c o : Expr} {te ta tb tc : TE} {de da db dc : DE} {tal : TA} {dal : DA} {es : List Expr} {wp : Wp} {k : Nat} {x : Str}
def dCall (wp : Wp) (Ed : DX -> Prop) (da : DA) (ρ : Rho) (Q : D -> Prop) : Prop := da ρ λ ds => wp ds Q Ed
def qeW (wp : Wp) (dd : List D) (Ed : DX -> Prop) (da : DA) (ρ : Rho) (Q : D -> Prop) : Prop := da ρ λ ds => wp (ds ++ dd) Q Ed
theorem qdQ {B0 B1 H0 H : Hp} {A : Nat -> Option Addr} {σ : L2.St} {ρ : Rho} {ds : List D} {vs : List V} {Qd : D -> Prop} {Q : VK} (R : RepS K B0 B1 A H0 H σ ρ) (x : ExRel K B0 B1 Ed E) (r : Reps K H0 ds vs) (h : wp ds Qd Ed)
   (q : ∀ x v H0' H', RepS K B0 B1 A H0' H' σ ρ -> Grow H0 H H0' H' -> Rep K H0' x v -> Qd x -> Q v H') : SpW K wp vs H Q E :=
 ⟨H0, ds, Qd, Ed, R.ex, r, h, λ d v H0' H' g rv hd => q d v H0' H' (R.grow g) g rv hd, x.grow R.ex λ _ _ g => R.gr.trans g⟩
theorem qzT {dvs : List V} {dd : List D} (hd : ∀ H, Reps K H dd dvs) (ha : SimA K Ed E tal dal) : SimE K Ed E (tCall (SpW K wp) dvs E tal) (qeW wp dd Ed dal) := λ B0 B1 A H0 H σ ρ R X Qd h Q q =>
 ha B0 B1 A H0 H σ ρ R X _ h _ λ ds vs H1 H2 R1 g1 r1 k => qdQ R1 X (r1.append (hd _)) k λ x v H3 H4 R2 g2 r2 k2 => q x v H3 H4 R2 (g1.trans g2) r2 k2
theorem qCG (ha : SimA K Ed E tal dal) : SimE K Ed E (tCall (SpW K wp) [] E tal) (dCall wp Ed dal) := λ B0 B1 A H0 H σ ρ R X Qd h Q q =>
 ha B0 B1 A H0 H σ ρ R X _ h _ λ ds vs H1 H2 R1 g1 r1 k => by
   rw [List.append_nil]
   exact qdQ R1 X r1 k λ x v H3 H4 R2 g2 r2 k2 => q x v H3 H4 R2 (g1.trans g2) r2 k2
theorem qan (F : Callee X.prog X.w X.K X.mg X.base x k wp [] []) (hr : Room k X.A) (hx : Passes (L2N.CX X.prog X.w) X E) (ha : JA X Ed E (e :: es) tal dal) (hg : Gl X x := by rfl) (hdb : (x == ("__debug__" : Str)) = false := by decide)
   (he : starEach (e :: es) X.env = (false, eval e X.env) :: starEach es X.env := by rfl) (hpl : (backTo pos (starEach es X.env)).any (·.1) = false := by rfl) : JE X Ed E (.Call (.Name x p) (e :: es) [] pos) (tCall (SpW X.K wp) [] E tal) (dCall wp Ed dal) := by
 obtain ⟨f, fd, ps, ds, h1, h2, h3, h4, h5, h6⟩ := F.ex
 exact ⟨pe_call h3 hr hg h1 h2 h4 h5 hx ha.pe hdb he hpl, qCG ha.sim⟩
theorem qhL {dvs : List V} {dd : List D} (F : Callee X.prog X.w X.K X.mg X.base x k wp dvs dd) (hr : Room k X.A) (hx : Passes (L2N.CX X.prog X.w) X E) (hg : Gl X x := by rfl) (hdb : (x == ("__debug__" : Str)) = false := by decide) :
   JE X Ed E (.Call (.Name x p) [] [] pos) (tCall (SpW X.K wp) dvs E tNil) (qeW wp dd Ed dNil) := by
 obtain ⟨f, fd, ps, ds, h1, h2, h3, h4, h5, h6⟩ := F.ex
 exact ⟨pe_call0 h3 hr hg h1 h2 h4 h5 hx hdb, qzT h6 qeT⟩
def dCB (rd : List D -> (D -> Prop) -> Prop) (da : DA) (ρ : Rho) (Q : D -> Prop) : Prop := da ρ λ ds => rd ds Q
theorem qm2 {r : List V -> Hp -> VK -> Prop} {rd : List D -> (D -> Prop) -> Prop} (sr : qbn K r rd) (ha : SimA K Ed E tal dal) : SimE K Ed E (tCB r tal) (dCB rd dal) := λ B0 B1 A H0 H σ ρ R X Qd h Q q =>
 ha B0 B1 A H0 H σ ρ R X _ h _ λ ds vs H1 H2 R1 g1 r1 k => sr H1 H2 vs ds R1.ex r1 Qd k Q λ z v H3 H4 g3 r3 k3 => q z v H3 H4 (R1.grow g3) (g1.trans g3) r3 k3
theorem qcT {id : String} {r : List V -> Hp -> VK -> Prop} {rd : List D -> (D -> Prop) -> Prop} (hc : CallR X (.builtin id) r) (sr : qbn X.K r rd) (hm : X.mg x = none) (ha : JA X Ed E (e :: es) tal dal) (hv : bootBuiltins x = some (.builtin id) := by decide +kernel) (hg : Gl X x := by rfl) (hn : x ≠ "__name__" := by decide) (hdb : (x == ("__debug__" : Str)) = false := by decide)
   (he : starEach (e :: es) X.env = (false, eval e X.env) :: starEach es X.env := by rfl) (hpl : (backTo pos (starEach es X.env)).any (·.1) = false := by rfl) : JE X Ed E (.Call (.Name x p) (e :: es) [] pos) (tCB r tal) (dCB rd dal) :=
 ⟨pe_callB hc hg hm hv ha.pe hn hdb he hpl, qm2 sr ha.sim⟩
theorem qjM {T : String} {r : List V -> Hp -> VK -> Prop} {rd : List D -> (D -> Prop) -> Prop} (hc : CallR X (.type T) r) (sr : qbn X.K r rd) (hm : X.mg x = none) (ha : JA X Ed E (e :: es) tal dal) (hv : bootBuiltins x = some (.type T) := by decide +kernel) (hg : Gl X x := by rfl) (hn : x ≠ "__name__" := by decide) (hdb : (x == ("__debug__" : Str)) = false := by decide)
   (he : starEach (e :: es) X.env = (false, eval e X.env) :: starEach es X.env := by rfl) (hpl : (backTo pos (starEach es X.env)).any (·.1) = false := by rfl) : JE X Ed E (.Call (.Name x p) (e :: es) [] pos) (tCB r tal) (dCB rd dal) :=
 ⟨pe_callTy hc hg hm hv ha.pe hn hdb he hpl, qm2 sr ha.sim⟩
def fget (f : Str) : List (Str × D) -> Option D
 | [] => none
 | (g, d) :: r => if f = g then some d else fget f r
theorem qgh (f : Str) : ∀ fs : List (Str × D), fget f fs = fs.lookup f
 | [] => rfl
 | (g, d) :: r => by
   unfold fget
   by_cases h : f = g
   · subst h
     rw [if_pos rfl, List.lookup_cons_self]
   · have hb : (f == g) = false := by simpa using h
     rw [if_neg h, qgh f r]
     simp only [List.lookup, hb]
def fput (f : Str) (v : D) : List (Str × D) -> List (Str × D)
 | [] => [(f, v)]
 | (g, x) :: r => if g = f then (g, v) :: r else (g, x) :: fput f v r
theorem qmp {H : Hp} {f : Str} {d : D} {v : V} (rv : Rep K H d v) : ∀ {fs : List (Str × D)} {vs : List (Str × V)}, Repf K H fs vs -> Repf K H (fput f d fs) (putF f v vs)
 | [], vs, h => by
   cases (show vs = _ from h)
   exact ⟨v, [], rfl, rv, rfl⟩
 | (g, x) :: r, vs, ⟨u, ur, e, h1, h2⟩ => by
   subst e
   unfold fput putF
   by_cases hg : g = f
   · rw [if_pos hg, if_pos hg]
     exact ⟨v, ur, rfl, rv, h2⟩
   · rw [if_neg hg, if_neg hg]
     exact ⟨u, _, rfl, h1, qmp rv h2⟩
def dFld (C : Addr) (f : Str) (da : DE) (ρ : Rho) (Q : D -> Prop) : Prop := da ρ λ o => match o with
 | .ins C' fs => C' = C /\ onS (fget f fs) Q
 | _ => False
theorem qss {C : Addr} {f : Str} (c : Cls K C) (n : NoAttr K C f) (ha : SimE K Ed E ta da) : SimE K Ed E (tFld K ta f) (dFld C f da) := λ B0 B1 A H0 H σ ρ R X Qd h Q q =>
 ha B0 B1 A H0 H σ ρ R X _ h _ λ o v H1 H2 R1 g1 r1 k => by
   split at k
   · obtain ⟨rfl, k⟩ := k
     obtain ⟨d, hd, k⟩ := qaB k
     obtain ⟨l, dx, fvs, rfl, hl, rf⟩ := r1
     rw [qgh] at hd
     obtain ⟨u, hu, ru⟩ := rf.get hd
     exact ⟨l, _, dx, fvs, u, rfl, R1.ex _ _ hl, c, n, hu, q d u H1 H2 R1 g1 ru k⟩
   · exact k.elim
theorem quP {C : Addr} {f : Str} (c : Cls X.K C) (n : NoAttr X.K C f) (ha : JE X Ed E e ta da) (hb : attributeBase e f X.env (eval e X.env) = eval e X.env := by rfl) : JE X Ed E (.Attribute e f pos) (tFld X.K ta f) (dFld C f da) := ⟨pe_fld ha.pe hb, qss c n ha.sim⟩
def qe2 (i : Nat) (C : Addr) (f : Str) (ρ : Rho) (Q : D -> Prop) : Prop := match lk i ρ with
 | some (.ins _ C' fs) => C' = C /\ onS (fget f fs) Q
 | _ => False
theorem qrt {C : Addr} {f y : Str} {p2 : Pos} (i : Nat) (c : Cls X.K C) (n : NoAttr X.K C f) (hN : X.N[i]? = some y := by rfl) (hv : Vis X.env.scope y := by first | exact Or.inl rfl | exact Or.inr (Or.inl rfl) | exact Or.inr (Or.inr rfl)) (hd : (y == ("__debug__" : Str)) = false := by decide)
   (hcd : (y == ("__classdict__" : Str)) = false := by decide) (hb : attributeBase (.Name y p2) f X.env (eval (.Name y p2) X.env) = eval (.Name y p2) X.env := by rfl) : JE X Ed E (.Attribute (.Name y p2) f pos) (tFld X.K (tVar i) f) (qe2 i C f) :=
 ⟨pe_fld (pe_var hN hv hd hcd) hb, λ B0 B1 A H0 H σ ρ R X Qd h Q q => by
   unfold qe2 at h
   split at h
   · rename_i x C' fs e
     obtain ⟨rfl, h⟩ := h
     obtain ⟨d, hd, h⟩ := qaB h
     obtain ⟨l, ho, e1, e2, n0, nb, hh, rr⟩ := R.ownAt (qbF e) (λ _ z => nomatch z)
     obtain ⟨_, dx, fvs, rfl, rf⟩ := rr
     rw [qgh] at hd
     obtain ⟨u, hu, ru⟩ := rf.get hd
     exact ⟨.ref l, e1, l, _, dx, fvs, u, rfl, hh, c, n, hu, q d u H0 H R (.refl R.ex) ru h⟩
   · exact h.elim⟩
def qi3 (i : Nat) (C : Addr) (f : Str) (de : DE) (d : qao) (ρ : Rho) : Prop := de ρ λ y => match lk i ρ with
 | some (.ins x C' fs) => C' = C /\ fs.length < 1000 /\ d.nx (ρ.set i (some (.ins x C (fput f y fs))))
 | _ => False
theorem qra {H : Hp} : ∀ {fs : List (Str × D)} {vs : List (Str × V)}, Repf K H fs vs -> vs.length = fs.length
 | [], vs, h => by cases (show vs = _ from h); rfl
 | (g, x) :: r, vs, ⟨u, ur, e, _, h2⟩ => by subst e; exact congrArg (· + 1) (qra h2)
theorem qh0 {C : Addr} {f y : Str} {p2 p3 : Pos} (i : Nat) (c : Cls X.K C) (n : NoAttr X.K C f) (he : JE X Ed E e te de) (hN : X.N[i]? = some y := by rfl) (hv : Vis X.env.scope y := by first | exact Or.inl rfl | exact Or.inr (Or.inl rfl) | exact Or.inr (Or.inr rfl)) (hd : (y == ("__debug__" : Str)) = false := by decide)
   (hcd : (y == ("__classdict__" : Str)) = false := by decide) (hs : swapsWith e (some (.Attribute (.Name y p2) f p3)) pos.line X.env = pure false := by rfl) : JS X Ed E (.Assign [.Attribute (.Name y p2) f p3] e pos) (sFld X.K (tVar i) te f) (qi3 i C f de) :=
 ⟨ps_fld (pe_var hN hv hd hcd) he.pe hs, λ B0 B1 A H0 H σ ρ R X d D r h => he.sim B0 B1 A H0 H σ ρ R X _ h _ λ y v H1 H2 R1 g1 r1 k => by
   split at k
   · rename_i x C' fs e
     obtain ⟨rfl, hl, k⟩ := k
     obtain ⟨l, ho, e1, e2, n0, nb, hh, rr⟩ := R1.ownAt (qbF e) (λ _ z => nomatch z)
     obtain ⟨rfl, dx, fvs, rfl, rf⟩ := rr
     have hi : i < ρ.length := (List.getElem?_eq_some_iff.mp (qbF e)).1
     refine ⟨.ref x, e1, x, _, dx, fvs, rfl, hh, c, n, by rw [qra rf]; exact hl, r.nx _ H1 _ σ _ (R1.updOwn (w := .ins x C' (fput f y fs)) hi e1 e2 ⟨rfl, dx, _, rfl, qmp r1 rf⟩) k⟩
   · exact k.elim⟩
def qkE (C : Addr) (m : Str) (wp : Wp) (dd : List D) (Ed : DX -> Prop) (da : DE) (dal : DA) (ρ : Rho) (Q : D -> Prop) : Prop := da ρ λ o => match o with
 | .ins C' fs => C' = C /\ fget m fs = none /\ dal ρ λ ds => wp (.ins C' fs :: (ds ++ dd)) Q Ed
 | _ => False
abbrev WpI := List D -> (List (Str × D) -> Prop) -> (DX -> Prop) -> Prop
def wo (H : Hp) (x : Addr) : Hp := λ p => if p = x then none else H p
theorem qcq {H : Hp} {x : Addr} : wo H x x = none := if_pos rfl
theorem qbK {H : Hp} {x p : Addr} (h : p ≠ x) : wo H x p = H p := if_neg h
theorem wo_sub {H : Hp} {x : Addr} : Same (wo H x) H := λ b o e => by
 by_cases hb : b = x
 · subst hb
   rw [qcq] at e
   cases e
 · rw [qbK hb] at e
   exact e
def SpI (K : PySem.W.Frag) (C : Addr) (wp : WpI) : Sp := λ vs H Q E => ∃ (x dx : Addr) (ws : List V) (H0 : Hp) (ds : List D) (Qf : List (Str × D) -> Prop) (Ed : DX -> Prop), vs = .ref x :: ws /\ H x = some (.ins C dx []) /\ H0 x = none /\ Same H0 H /\ Reps K H0 ds ws /\ wp ds Qf Ed /\
 (∀ fs dx' fvs H0' H', Grow H0 (wo H x) H0' H' -> H0' x = none -> H' x = some (.ins C dx' fvs) -> Repf K H0' fs fvs -> Qf fs -> Q .non H') /\ ExRel K H0 (wo H x) Ed E
structure Maker (P : Program) (w : World) (K : PySem.W.Frag) (mg : Str -> Option Value) (base : Heap) (x : Str) (C : Addr) (k : Nat) (wp : WpI) (dvs : List V) (dd : List D) : Prop where
 ex : ∃ (f : Addr) (fd : FuncData) (ps : List Str) (ds : List Value), mg x = some (.ref C) /\ Mk K C f /\ FnOk P w K mg base (L2N.CX P w) k f fd ps (SpI K C wp) /\ Binds K fd ps ds /\ Vals dvs ds /\ ∀ H, Reps K H dd dvs
def qfg (C : Addr) (wp : WpI) (dd : List D) (Ed : DX -> Prop) (da : DA) (ρ : Rho) (Q : D -> Prop) : Prop := da ρ λ ds => wp (ds ++ dd) (λ fs => Q (.ins C fs)) Ed
theorem qsE {C : Addr} {wp : WpI} {dvs : List V} {dd : List D} (hd : ∀ H, Reps K H dd dvs) (ha : SimA K Ed E tal dal) : SimE K Ed E (tMake C (SpI K C wp) dvs E tal) (qfg C wp dd Ed dal) := λ B0 B1 A H0 H σ ρ R X Qd h Q q =>
 ha B0 B1 A H0 H σ ρ R X _ h _ λ ds vs H1 H2 R1 g1 r1 k => λ x dx nx ndx nex => by
   have n0 : H1 x = none := R1.ex.free nx
   have sub : Same H2 (wo (upd (upd H2 dx (.own x)) x (.ins C dx [])) x) := λ b o e => by
     have bx : b ≠ x := ne_of_none e nx
     rw [qbK bx, upd_ne bx, upd_ne (ne_of_none e ndx)]
     exact e
   have sm2 : Same H1 (upd (upd H2 dx (.own x)) x (.ins C dx [])) := (R1.ex.trans sub).trans wo_sub
   refine ⟨x, dx, vs ++ dvs, H1, ds ++ dd, _, Ed, rfl, upd_same, n0, sm2, r1.append (hd _), k, λ fs dx' fvs H0' H' g n' hx' rf hq => ⟨rfl, ?_⟩, X.grow (R1.ex.trans sub) λ H0' H' g => ?_⟩
   · have gx : Grow H1 H2 (upd H0' x (.ins C dx' fvs)) H' := ⟨g.g0.trans (same_upd n'), sub.ext.trans g.g1, λ b o e => by
         by_cases hb : b = x
         · subst hb
           rw [upd_same] at e
           cases e
           exact hx'
         · rw [upd_ne hb] at e
           exact g.g2 b o e, λ p hp => by
         have px : p ≠ x := λ z => hp (by rw [z]; exact nx)
         rw [upd_ne px]
         exact g.nw p (ne_none_of sub.ext hp), λ t => qcn (g.tb (qb3 t sub))⟩
     exact q (.ins C fs) (.ref x) _ H' (R1.grow gx) (g1.trans gx) ⟨x, dx', fvs, rfl, upd_same, Repf.mono (same_upd n') _ _ rf⟩ hq
   · exact R1.gr.trans ⟨g.g0, sub.ext.trans g.g1, g.g2, λ p hp => g.nw p (ne_none_of sub.ext hp), λ t => g.tb (qb3 t sub)⟩
end
section
variable {P : Program} {w : World} {K : PySem.W.Frag} {mg : Str -> Option Value} {base : Heap}
theorem qxe {x qual : Str} {st : Stmt} {f C : Addr} {fd : FuncData} {N ps : List Str} {k : Nat} {wp : WpI} (n : Nat) (hn : N.length - 1 = n) (F : FunX K x qual st f fd) (S : FnScope N ps (defScope st)) (len : ∀ ds Q Ed, wp ds Q Ed -> ds.length + 1 = ps.length)
   (body : ∀ (cdv : Value) (A : Around) (outer : List Env) (s : Shared) (H : Hp) (E : XK), Room k (A.deeper (envOfC qual (defScope st) s.heap.objs.size f cdv)) -> ∀ (x : Addr) (ds : List D) (Qf : List (Str × D) -> Prop) (Ed : DX -> Prop), wp ds Qf Ed ->
     ∃ ts bs, JB (bx P w K mg base N qual st f cdv A outer s H E) Ed E (defBody st) ts bs /\ bs { nx := λ ρ => (match lk 0 ρ with | some (.ins x' C' fs) => x' = x /\ C' = C /\ Qf fs | _ => False), rt := λ _ _ => False } (some (.ins x C []) :: qai n ds)) (hz : n <= 999 := by decide) :
   FnOk P w K mg base (L2N.CX P w) (k + 1) f fd ps (SpI K C wp) := by
 have hpl : ps.length <= N.length := by
   have e := congrArg List.length S.pre
   rw [List.length_take] at e
   omega
 subst hn
 refine F.okX S (λ vs H Q E h => ?_) (λ cdv A outer s H vs Q E hr h => ?_)
 · obtain ⟨x, dx, ws, H0, ds, Qf, Ed, rfl, _, _, sm, r, hw, _⟩ := h
   show ws.length + 1 = _
   rw [r.length]
   exact len ds Qf Ed hw
 · obtain ⟨x, dx, ws, H0, ds, Qf, Ed, rfl, hx, n0, sm, r, hw, q, xr⟩ := h
   obtain ⟨ts, bs, jb, hb⟩ := body cdv A outer s H E hr x ds Qf Ed hw
   have hl := len ds Qf Ed hw
   have hN : 0 < N.length := by omega
   have smw : Same H0 (wo H x) := λ b o e => by
     rw [qbK (λ z => by rw [z, n0] at e; cases e)]
     exact sm b o e
   have hv : (V.ref x :: ws).length <= N.length := by
     show ws.length + 1 <= _
     rw [r.length]
     omega
   have R : RepS K H0 (wo H x) (λ i => if i = 0 then some x else none) H0 H (L2.start N (.ref x :: ws)) (some (.ins x C []) :: qai (N.length - 1) ds) := by
     refine ⟨sm, ⟨.refl _, wo_sub.ext, sm, λ _ _ => rfl, λ t => qb3 t wo_sub⟩, by rw [qe6 hv]; show N.length = (qai (N.length - 1) ds).length + 1; rw [qbB]; omega, λ i w e => ?_, λ i j a h1 h2 => ?_, λ i a h => ?_, (by show (qai (N.length - 1) ds).length + 1 <= 1000; rw [qbB]; omega), λ i x C fs q xs e => ?_⟩
     · cases i with
       | zero =>
         have e : some (some (SV.ins x C [])) = some w := e
         cases e
         exact ⟨_, qce rfl, x, _, rfl, rfl, n0, qcq, hx, rfl, dx, [], rfl, rfl⟩
       | succ i =>
         have e : (qai (N.length - 1) ds)[i]? = some w := by simpa using e
         rcases qb4 e with rfl | ⟨d, e1, rfl⟩
         · have hi : i + 1 < N.length := by
             have := (List.getElem?_eq_some_iff.mp e).1
             rw [qbB] at this
             omega
           obtain ⟨v, hv⟩ := qhr hv hi
           exact ⟨v, hv, rfl⟩
         · obtain ⟨v, hv', rv⟩ := r.get e1
           exact ⟨some v, qce (by simpa using hv'), rfl, v, rfl, rv⟩
     · by_cases hi : i = 0
       · by_cases hj : j = 0
         · rw [hi, hj]
         · rw [if_neg hj] at h2
           cases h2
       · rw [if_neg hi] at h1
         cases h1
     · by_cases hi : i = 0
       · rw [if_pos hi] at h
         cases h
         exact ⟨n0, qcq, _, hx, qvk⟩
       · rw [if_neg hi] at h
         cases h
     · cases i with
       | zero => cases e
       | succ i =>
         have e : (qai (N.length - 1) ds)[i]? = some (some (SV.pg x C fs q xs)) := by simpa using e
         rcases qb4 e with h | ⟨d, _, h⟩ <;> cases h
   refine ⟨ts, jb.pe, jb.sim H0 (wo H x) _ H0 H _ _ R xr { nx := λ ρ => (match lk 0 ρ with | some (.ins x' C' fs) => x' = x /\ C' = C /\ Qf fs | _ => False), rt := λ _ _ => False } _ ⟨λ A H0' H' σ ρ R' h => ?_, λ _ _ _ _ _ _ _ _ _ h => h.elim, λ _ _ _ _ _ _ h => h.elim, λ _ _ _ _ _ _ h => h.elim⟩ hb⟩
   dsimp only at h
   split at h
   · rename_i x' C' fs e
     obtain ⟨rfl, rfl, h⟩ := h
     obtain ⟨a, o, e1, e2, m0, mb, hh, rr⟩ := R'.ownAt (qbF e) (λ _ z => nomatch z)
     obtain ⟨rfl, dx', fvs, rfl, rf⟩ := rr
     exact q fs dx' fvs H0' H' R'.gr m0 hh rf h
   · exact h.elim
end
section
variable {X : Cx} {Ed : DX -> Prop} {E : XK} {K : PySem.W.Frag} {pos p : Pos} {e a b c o e2 : Expr} {te ta tb tc : TE} {de da db dc : DE} {tal : TA} {dal : DA} {es : List Expr} {k : Nat} {x : Str} {tt : TT} {dt : DT}
theorem one_of {H : Hp} {d : D} {vs : List V} (h : Reps K H [d] vs) : ∃ v, vs = [v] /\ Rep K H d v := by
 obtain ⟨v, r, e, h1, h2⟩ := h
 cases (show r = _ from h2)
 exact ⟨v, e, h1⟩
theorem qe1 {H : Hp} {d d2 : D} {vs : List V} (h : Reps K H [d, d2] vs) : ∃ v u, vs = [v, u] /\ Rep K H d v /\ Rep K H d2 u := by
 obtain ⟨v, r, e, h1, h2⟩ := h
 obtain ⟨u, e2, h3⟩ := one_of h2
 subst e2
 exact ⟨v, u, e, h1, h3⟩
def tyD : D -> Option String
 | .non => some "NoneType"
 | .bl _ => some "bool"
 | .int _ => some "int"
 | .str _ => some "str"
 | .tup _ => some "tuple"
 | .lst _ => some "list"
 | _ => none
theorem qor {H0 H : Hp} {d : D} {v : V} {n : String} (sm : Same H0 H) (r : Rep K H0 d v) (h : tyD d = some n) : TyX K H v (.type n) := by
 cases d with
 | non => cases h; subst r; exact .base .non
 | bl b => cases h; subst r; exact .base (.bl b)
 | int b => cases h; subst r; exact .base (.int b)
 | str b => cases h; subst r; exact .base (.str b)
 | tup xs =>
   cases h
   obtain ⟨l, vs, rfl, hs, _⟩ := r
   rcases qaC sm hs with (h | ⟨o, h⟩) | ⟨o, its, n, h1, h2, _⟩
   · exact .base (.tup h)
   · exact .fTuple h
   · exact .kTuple h1 h2
 | lst xs =>
   cases h
   obtain ⟨l, vs, rfl, hs, _⟩ := r
   rcases sm.seq hs with (h | ⟨o, h⟩) | ⟨o, its, n, h1, h2, _⟩
   · exact .base (.lst h)
   · exact .base (.frz h)
   · exact .kList h1 h2
 | _ => cases h
def dIsi (ds : List D) (Q : D -> Prop) : Prop := match ds with
 | [x, .ty n] => onS (tyD x) λ m => onS (kitB m n) λ b => Q (.bl b)
 | _ => False
theorem qsn : qbn K (rIsi K) dIsi := by
 intro H0 H xs ds sm r Qd h Q q
 unfold dIsi at h
 split at h
 · rename_i d n
   obtain ⟨m, hm, h⟩ := qaB h
   obtain ⟨b, hb, h⟩ := qaB h
   obtain ⟨v, u, rfl, h1, h2⟩ := qe1 r
   cases (show u = _ from h2)
   exact ⟨v, .ty n, _, _, b, rfl, .ty n, qor sm h1 hm, kit_ty hb, q (.bl b) _ H0 H (.refl sm) rfl h⟩
 · exact h.elim
theorem qa8 (hm : X.mg "isinstance" = none) (ha : JA X Ed E (e :: es) tal dal) (hg : Gl X "isinstance" := by rfl) (he : starEach (e :: es) X.env = (false, eval e X.env) :: starEach es X.env := by rfl) (hpl : (backTo pos (starEach es X.env)).any (·.1) = false := by rfl) :
   JE X Ed E (.Call (.Name "isinstance" p) (e :: es) [] pos) (tCB (rIsi X.K) tal) (dCB dIsi dal) := qcT call_isi qsn hm ha (by decide +kernel) hg (by decide) (by decide) he hpl
def qcX (m : String) : List D -> Option Bool
 | [] => some false
 | .ty n :: r => match kitB m n, qcX m r with
   | some a, some b => some (a || b)
   | _, _ => none
 | _ => none
theorem qob {m : String} {H : Hp} : ∀ {cs : List D} {vs : List V} {b : Bool}, Reps K H cs vs -> qcX m cs = some b -> ∃ us, Paired ClsV vs us /\ PySem.W.kitAny K (.type m) us = some b
 | [], vs, b, r, h => by
   cases (show vs = _ from r)
   exact ⟨[], .nil, by rw [<- h]; rfl⟩
 | d :: cs, vs, b, ⟨v, r, e, h1, h2⟩, h => by
   subst e
   cases d with
   | ty n =>
     cases (show v = _ from h1)
     unfold qcX at h
     split at h
     · rename_i b1 b2 hk hr
       cases h
       obtain ⟨us, p, e⟩ := qob h2 hr
       refine ⟨.type n :: us, .cons (.ty n) p, kitAny_cons (b := b1) (kit_ty hk) (λ z => ?_) λ z => ?_⟩
       · subst z
         rw [e]
         rfl
       · subst z
         rfl
     · cases h
   | _ => cases h
def qe9 (ds : List D) (Q : D -> Prop) : Prop := match ds with
 | [x, .tup cs] => onS (tyD x) λ m => onS (qcX m cs) λ b => Q (.bl b)
 | _ => False
def dAbs (ds : List D) (Q : D -> Prop) : Prop := match ds with
 | [.int i] => Q (.int (if i < 0 then -i else i))
 | _ => False
theorem qv2 : qbn K (λ xs H Q => ∃ i, xs = [.int i] /\ Q (.int (if i < 0 then -i else i)) H) dAbs := by
 intro H0 H xs ds sm r Qd h Q q
 unfold dAbs at h
 split at h
 · rename_i i
   obtain ⟨v, rfl, h1⟩ := one_of r
   cases (show v = _ from h1)
   exact ⟨i, rfl, q (.int _) _ H0 H (.refl sm) rfl h⟩
 · exact h.elim
theorem qcg (hm : X.mg "abs" = none) (ha : JA X Ed E (e :: es) tal dal) (hg : Gl X "abs" := by rfl) (he : starEach (e :: es) X.env = (false, eval e X.env) :: starEach es X.env := by rfl) (hpl : (backTo pos (starEach es X.env)).any (·.1) = false := by rfl) :
   JE X Ed E (.Call (.Name "abs" p) (e :: es) [] pos) (tCB (λ xs H Q => ∃ i, xs = [.int i] /\ Q (.int (if i < 0 then -i else i)) H) tal) (dCB dAbs dal) := qcT call_abs qv2 hm ha (by decide +kernel) hg (by decide) (by decide) he hpl
def qdW (ds : List D) (Q : D -> Prop) : Prop := match ds with
 | [.int i] => Q (.int i)
 | [.bl b] => Q (.int (if b then 1 else 0))
 | _ => False
def qlH : List V -> Hp -> VK -> Prop := λ xs H Q => (∃ i, xs = [.int i] /\ Q (.int i) H) ∨ ∃ k, xs = [.bl k] /\ Q (.int (if k then 1 else 0)) H
theorem qCk : qbn K qlH qdW := by
 intro H0 H xs ds sm r Qd h Q q
 unfold qdW at h
 split at h
 · rename_i i
   obtain ⟨v, rfl, h1⟩ := one_of r
   cases (show v = _ from h1)
   exact .inl ⟨i, rfl, q (.int _) _ H0 H (.refl sm) rfl h⟩
 · rename_i i
   obtain ⟨v, rfl, h1⟩ := one_of r
   cases (show v = _ from h1)
   exact .inr ⟨i, rfl, q (.int _) _ H0 H (.refl sm) rfl h⟩
 · exact h.elim
theorem qbY (hm : X.mg "int" = none) (ha : JA X Ed E (e :: es) tal dal) (hg : Gl X "int" := by rfl) (he : starEach (e :: es) X.env = (false, eval e X.env) :: starEach es X.env := by rfl) (hpl : (backTo pos (starEach es X.env)).any (·.1) = false := by rfl) :
   JE X Ed E (.Call (.Name "int" p) (e :: es) [] pos) (tCB qlH tal) (dCB qdW dal) := qjM call_int1 qCk hm ha (by decide +kernel) hg (by decide) (by decide) he hpl
def dLen (ds : List D) (Q : D -> Prop) : Prop := match ds with
 | [.lst xs] => Q (.int xs.length)
 | [.tup xs] => Q (.int xs.length)
 | [.lat _ xs] => Q (.int xs.length)
 | [.str z] => z.length <= sizeLine /\ Q (.int z.length)
 | _ => False
def rLen (K : PySem.W.Frag) : List V -> Hp -> VK -> Prop := λ xs H Q => (∃ p ys, xs = [.ref p] /\ (SqL K H p ys ∨ SqT K H p ys) /\ Q (.int ys.length) H) ∨ (∃ z, xs = [.str z] /\ z.length <= sizeLine /\ Q (.int z.length) H)
theorem qzU : qbn K (rLen K) dLen := by
 intro H0 H xs ds sm r Qd h Q q
 unfold dLen at h
 split at h
 · rename_i ys
   obtain ⟨v, rfl, l, vs, rfl, hs, rr⟩ := one_of r
   exact .inl ⟨l, vs, rfl, .inl (sm.seq hs), by rw [rr.length]; exact q (.int _) _ H0 H (.refl sm) rfl h⟩
 · rename_i ys
   obtain ⟨v, rfl, l, vs, rfl, hs, rr⟩ := one_of r
   exact .inl ⟨l, vs, rfl, .inr (qaC sm hs), by rw [rr.length]; exact q (.int _) _ H0 H (.refl sm) rfl h⟩
 · rename_i c ys
   obtain ⟨v, rfl, rfl, vs, hs, rr⟩ := one_of r
   exact .inl ⟨c, vs, rfl, .inl (sm.seq hs), by rw [rr.length]; exact q (.int _) _ H0 H (.refl sm) rfl h⟩
 · rename_i z
   obtain ⟨v, rfl, h1⟩ := one_of r
   cases (show v = _ from h1)
   exact .inr ⟨z, rfl, h.1, q (.int _) _ H0 H (.refl sm) rfl h.2⟩
 · exact h.elim
theorem qb7 (hm : X.mg "len" = none) (ha : JA X Ed E (e :: es) tal dal) (hg : Gl X "len" := by rfl) (he : starEach (e :: es) X.env = (false, eval e X.env) :: starEach es X.env := by rfl) (hpl : (backTo pos (starEach es X.env)).any (·.1) = false := by rfl) :
   JE X Ed E (.Call (.Name "len" p) (e :: es) [] pos) (tCB (rLen X.K) tal) (dCB dLen dal) := qcT (call_len_seq.or call_len_str) qzU hm ha (by decide +kernel) hg (by decide) (by decide) he hpl
def qdE (ds : List D) (Q : D -> Prop) : Prop := match ds with
 | [.lst xs] => Q (.lst xs)
 | [.tup xs] => Q (.lst xs)
 | _ => False
def qkN (K : PySem.W.Frag) : List V -> Hp -> VK -> Prop := λ xs H Q => ∃ p ys, xs = [.ref p] /\ (SqL K H p ys ∨ SqT K H p ys) /\ ∀ l, H l = none -> Q (.ref l) (upd H l (.lst ys))
theorem qyI : qbn K (qkN K) qdE := by
 intro H0 H xs ds sm r Qd h Q q
 unfold qdE at h
 split at h
 · rename_i ys
   obtain ⟨v, rfl, l, vs, rfl, hs, rr⟩ := one_of r
   refine ⟨l, vs, rfl, .inl (sm.seq hs), λ n hn => ?_⟩
   have g := Grow.new (o := .lst vs) sm hn
   exact q (.lst ys) _ _ _ g ⟨n, vs, rfl, .inl (.inl upd_same), Reps.mono g.g0 _ _ rr⟩ h
 · rename_i ys
   obtain ⟨v, rfl, l, vs, rfl, hs, rr⟩ := one_of r
   refine ⟨l, vs, rfl, .inr (qaC sm hs), λ n hn => ?_⟩
   have g := Grow.new (o := .lst vs) sm hn
   exact q (.lst ys) _ _ _ g ⟨n, vs, rfl, .inl (.inl upd_same), Reps.mono g.g0 _ _ rr⟩ h
 · exact h.elim
theorem quv (hm : X.mg "list" = none) (ha : JA X Ed E (e :: es) tal dal) (hg : Gl X "list" := by rfl) (he : starEach (e :: es) X.env = (false, eval e X.env) :: starEach es X.env := by rfl) (hpl : (backTo pos (starEach es X.env)).any (·.1) = false := by rfl) :
   JE X Ed E (.Call (.Name "list" p) (e :: es) [] pos) (tCB (qkN X.K) tal) (dCB qdE dal) := qjM call_list_of qyI hm ha (by decide +kernel) hg (by decide) (by decide) he hpl
def qeh (ds : List D) (Q : D -> Prop) : Prop := match ds with
 | [.lst xs] => Q (.tup xs)
 | [.tup xs] => Q (.tup xs)
 | _ => False
def qqw (K : PySem.W.Frag) : List V -> Hp -> VK -> Prop := λ xs H Q => ∃ p ys, xs = [.ref p] /\ ((SqL K H p ys /\ ∀ l, H l = none -> Q (.ref l) (upd H l (.tup ys))) ∨ (SqT K H p ys /\ Q (.ref p) H))
theorem qsp : qbn K (qqw K) qeh := by
 intro H0 H xs ds sm r Qd h Q q
 unfold qeh at h
 split at h
 · rename_i ys
   obtain ⟨v, rfl, l, vs, rfl, hs, rr⟩ := one_of r
   refine ⟨l, vs, rfl, .inl ⟨sm.seq hs, λ n hn => ?_⟩⟩
   have g := Grow.new (o := .tup vs) sm hn
   exact q (.tup ys) _ _ _ g ⟨n, vs, rfl, .inl (.inl upd_same), Reps.mono g.g0 _ _ rr⟩ h
 · rename_i ys
   obtain ⟨v, rfl, l, vs, rfl, hs, rr⟩ := one_of r
   exact ⟨l, vs, rfl, .inr ⟨qaC sm hs, q (.tup ys) _ H0 H (.refl sm) ⟨l, vs, rfl, hs, rr⟩ h⟩⟩
 · exact h.elim
theorem qf3 (hm : X.mg "tuple" = none) (ha : JA X Ed E (e :: es) tal dal) (hg : Gl X "tuple" := by rfl) (he : starEach (e :: es) X.env = (false, eval e X.env) :: starEach es X.env := by rfl) (hpl : (backTo pos (starEach es X.env)).any (·.1) = false := by rfl) :
   JE X Ed E (.Call (.Name "tuple" p) (e :: es) [] pos) (tCB (qqw X.K) tal) (dCB qeh dal) := qjM call_tuple_of qsp hm ha (by decide +kernel) hg (by decide) (by decide) he hpl
def bools : List D -> Option (List Bool)
 | [] => some []
 | .bl b :: r => (bools r).map (b :: ·)
 | _ => none
def intL : List D -> Option (List Int)
 | [] => some []
 | .int b :: r => (intL r).map (b :: ·)
 | _ => none
theorem qrc {H : Hp} : ∀ {xs : List D} {vs : List V} {bs : List Bool}, Reps K H xs vs -> bools xs = some bs -> vs = bs.map V.bl
 | [], vs, bs, r, h => by
   cases h
   exact r
 | d :: xs, vs, bs, ⟨v, vr, e, h1, h2⟩, h => by
   subst e
   cases d with
   | bl b =>
     cases (show v = _ from h1)
     unfold bools at h
     cases hb : bools xs with
     | none => rw [hb] at h; cases h
     | some cs =>
       rw [hb] at h
       cases h
       rw [qrc h2 hb]
       rfl
   | _ => cases h
theorem qjo {H : Hp} : ∀ {xs : List D} {vs : List V} {bs : List Int}, Reps K H xs vs -> intL xs = some bs -> vs = bs.map V.int
 | [], vs, bs, r, h => by
   cases h
   exact r
 | d :: xs, vs, bs, ⟨v, vr, e, h1, h2⟩, h => by
   subst e
   cases d with
   | int b =>
     cases (show v = _ from h1)
     unfold intL at h
     cases hb : intL xs with
     | none => rw [hb] at h; cases h
     | some cs =>
       rw [hb] at h
       cases h
       rw [qjo h2 hb]
       rfl
   | _ => cases h
def qde (ds : List D) (Q : D -> Prop) : Prop := match ds with
 | [.lst xs] => onS (bools xs) λ bs => Q (.bl (bs.all id))
 | _ => False
def qpg (ds : List D) (Q : D -> Prop) : Prop := match ds with
 | [.lst xs] => onS (bools xs) λ bs => Q (.bl (bs.any id))
 | _ => False
def dSum (ds : List D) (Q : D -> Prop) : Prop := match ds with
 | [.lst xs] => onS (intL xs) λ bs => Q (.int bs.sum)
 | _ => False
theorem qvt : qbn K (rAll K) qde := by
 intro H0 H xs ds sm r Qd h Q q
 unfold qde at h
 split at h
 · obtain ⟨bs, hb, h⟩ := qaB h
   obtain ⟨v, rfl, l, vs, rfl, hs, rr⟩ := one_of r
   rw [qrc rr hb] at hs
   exact ⟨l, bs, rfl, sm.seq hs, q (.bl _) _ H0 H (.refl sm) rfl h⟩
 · exact h.elim
theorem qAZ : qbn K (rSum K) dSum := by
 intro H0 H xs ds sm r Qd h Q q
 unfold dSum at h
 split at h
 · obtain ⟨bs, hb, h⟩ := qaB h
   obtain ⟨v, rfl, l, vs, rfl, hs, rr⟩ := one_of r
   rw [qjo rr hb] at hs
   exact ⟨l, bs, rfl, sm.seq hs, q (.int _) _ H0 H (.refl sm) rfl h⟩
 · exact h.elim
theorem qh6 (hc : X.calm = true) (hm : X.mg "all" = none) (ha : JA X Ed E (e :: es) tal dal) (hg : Gl X "all" := by rfl) (he : starEach (e :: es) X.env = (false, eval e X.env) :: starEach es X.env := by rfl) (hpl : (backTo pos (starEach es X.env)).any (·.1) = false := by rfl) :
   JE X Ed E (.Call (.Name "all" p) (e :: es) [] pos) (tCB (rAll X.K) tal) (dCB qde dal) := qcT (cr_all hc) qvt hm ha (by decide +kernel) hg (by decide) (by decide) he hpl
theorem qxV (hc : X.calm = true) (hm : X.mg "sum" = none) (ha : JA X Ed E (e :: es) tal dal) (hg : Gl X "sum" := by rfl) (he : starEach (e :: es) X.env = (false, eval e X.env) :: starEach es X.env := by rfl) (hpl : (backTo pos (starEach es X.env)).any (·.1) = false := by rfl) :
   JE X Ed E (.Call (.Name "sum" p) (e :: es) [] pos) (tCB (rSum X.K) tal) (dCB dSum dal) := qcT (cr_sum hc) qAZ hm ha (by decide +kernel) hg (by decide) (by decide) he hpl
abbrev DO := Rho -> (Option Int -> Prop) -> Prop
def SimO (K : PySem.W.Frag) (Ed : DX -> Prop) (E : XK) (to : TO) (d : DO) : Prop := ∀ B0 B1 A H0 H σ ρ, RepS K B0 B1 A H0 H σ ρ -> ExRel K B0 B1 Ed E -> ∀ Qd : Option Int -> Prop, d ρ Qd -> ∀ Q : Option Int -> Hp -> Prop,
 (∀ x H0' H', RepS K B0 B1 A H0' H' σ ρ -> Grow H0 H H0' H' -> Qd x -> Q x H') -> to σ H Q
structure JO (X : Cx) (Ed : DX -> Prop) (E : XK) (e : Option Expr) (to : TO) (d : DO) : Prop where
 pe : PO X e to
 sim : SimO X.K Ed E to d
def qid (_ : Rho) (Q : Option Int -> Prop) : Prop := Q none
def qiX (de : DE) (ρ : Rho) (Q : Option Int -> Prop) : Prop := de ρ λ x => match x with
 | .int i => Q (some i)
 | _ => False
theorem qdO : JO X Ed E none tNoPart qid := ⟨po_none, λ B0 B1 A H0 H σ ρ R X Qd h Q q => q none H0 H R (.refl R.ex) h⟩
theorem qct (h : JE X Ed E e te de) : JO X Ed E (some e) (tPart te) (qiX de) := ⟨po_some h.pe, λ B0 B1 A H0 H σ ρ R X Qd hd Q q => h.sim B0 B1 A H0 H σ ρ R X _ hd _ λ x v H1 H2 R1 g1 r1 k => by
 split at k
 · exact ⟨_, r1, q _ H1 H2 R1 g1 k⟩
 · exact k.elim⟩
def cutD {α : Type} (xs : List α) (lo hi : Option Int) : List α := (xs.drop (HT.sIx xs.length 0 lo)).take (HT.sIx xs.length xs.length hi - HT.sIx xs.length 0 lo)
theorem qwX {H : Hp} {xs : List D} {vs : List V} (r : Reps K H xs vs) (lo hi : Option Int) : Reps K H (cutD xs lo hi) (cutV vs lo hi) := by
 unfold cutD cutV
 rw [r.length]
 exact Reps.take _ (Reps.drop _ r)
def dSlL (x : D) (lo hi : Option Int) (Q : D -> Prop) : Prop := match x with
 | .lst xs => Q (.lst (cutD xs lo hi))
 | _ => False
def dSl (r : D -> Option Int -> Option Int -> (D -> Prop) -> Prop) (de : DE) (dl dh : DO) (ρ : Rho) (Q : D -> Prop) : Prop := de ρ λ x => dl ρ λ l => dh ρ λ h => r x l h Q
def qiH (K : PySem.W.Frag) (r : V -> Option Int -> Option Int -> Hp -> VK -> Prop) (rd : D -> Option Int -> Option Int -> (D -> Prop) -> Prop) : Prop := ∀ (H0 H : Hp) (x : V) (d : D) (lo hi : Option Int), Same H0 H -> Rep K H0 d x -> ∀ Qd : D -> Prop, rd d lo hi Qd -> ∀ Q : VK,
 (∀ z v H0' H', Grow H0 H H0' H' -> Rep K H0' z v -> Qd z -> Q v H') -> r x lo hi H Q
theorem qyJ : qiH K (rSlL K) dSlL := by
 intro H0 H x d lo hi sm r Qd h Q q
 unfold dSlL at h
 split at h
 · rename_i xs
   obtain ⟨l, vs, rfl, hs, rr⟩ := r
   refine ⟨l, vs, rfl, sm.seq hs, λ n hn => ?_⟩
   have g := Grow.new (o := .lst (cutV vs lo hi)) sm hn
   exact q (.lst _) _ _ _ g ⟨n, _, rfl, .inl (.inl upd_same), Reps.mono g.g0 _ _ (qwX rr lo hi)⟩ h
 · exact h.elim
theorem qqc {r : V -> Option Int -> Option Int -> Hp -> VK -> Prop} {rd : D -> Option Int -> Option Int -> (D -> Prop) -> Prop} {lo hi : Option Expr} {tl th : TO} {dl dh : DO} {p2 : Pos} (hr : SlR X r) (sr : qiH X.K r rd) (he : JE X Ed E e te de) (hl : JO X Ed E lo tl dl) (hu : JO X Ed E hi th dh) :
   JE X Ed E (.Subscript e (.Slice lo hi none p2) pos) (tSl r te tl th) (dSl rd de dl dh) := ⟨pe_slice hr he.pe hl.pe hu.pe, λ B0 B1 A H0 H σ ρ R X Qd h Q q =>
 he.sim B0 B1 A H0 H σ ρ R X _ h _ λ x v H1 H2 R1 g1 r1 k => hl.sim B0 B1 A H1 H2 σ ρ R1 X _ k _ λ l H3 H4 R2 g2 k2 => hu.sim B0 B1 A H3 H4 σ ρ R2 X _ k2 _ λ u H5 H6 R3 g3 k3 =>
   sr H5 H6 v x l u R3.ex (Rep.mono g3.g0 _ _ (Rep.mono g2.g0 _ _ r1)) Qd k3 Q λ z w H7 H8 g4 r4 k4 => q z w H7 H8 (R3.grow g4) (((g1.trans g2).trans g3).trans g4) r4 k4⟩
theorem qka {lo hi : Option Expr} {tl th : TO} {dl dh : DO} {p2 : Pos} (he : JE X Ed E e te de) (hl : JO X Ed E lo tl dl) (hu : JO X Ed E hi th dh) : JE X Ed E (.Subscript e (.Slice lo hi none p2) pos) (tSl (rSlL X.K) te tl th) (dSl dSlL de dl dh) := qqc sl_list qyJ he hl hu
def qak (ρ : Rho) : List Nat -> Rho
 | [] => ρ
 | v :: vs => (qak ρ vs).set v none
def dTs1 (_ : Rho) (Q : Bool -> Prop) : Prop := Q true
structure JTs (X : Cx) (Ed : DX -> Prop) (E : XK) (ifs : List Expr) (tt : TT) (dt : DT) : Prop where
 pe : PTs X ifs tt
 sim : SimT X.K Ed E tt dt
theorem qaK : JTs X Ed E [] tYes dTs1 := ⟨pts_nil, λ B0 B1 A H0 H σ ρ R X Qd hd Q q => q true H0 H R (.refl R.ex) hd⟩
theorem qil (h : JT X Ed E c tt dt) : JTs X Ed E [c] tt dt := ⟨pts_one h.pe, h.sim⟩
def qaG (g : DG) (tt : DT) (te : DE) : List D -> List D -> Rho -> (D -> Prop) -> Prop
 | [], acc, _, Q => Q (.lst acc)
 | x :: r, acc, ρ, Q => g x ρ λ ρ' => tt ρ' λ b => if b = true then te ρ' λ y => acc.length < 100000 /\ qaG g tt te r (acc ++ [y]) ρ Q else qaG g tt te r acc ρ Q
def qcm (di : DI) (g : DG) (tt : DT) (te : DE) (vs : List Nat) (ρ : Rho) (Q : D -> Prop) : Prop := di ρ λ xs => qaG g tt te xs [] (qak ρ vs) Q
def OwnG (g : TG) (vs : List Nat) : Prop := ∀ (x : V) (σ : L2.St) (H : Hp) (Q Q' : L2.St -> Hp -> Prop), g x σ H Q -> (∀ σ', Q σ' H -> wipe σ' vs = wipe σ vs -> Q' σ' H) -> g x σ H Q'
theorem qfK {σ : L2.St} : ∀ (vs : List Nat) (j : Nat), (L2.wipe σ vs)[j]? = if j ∈ vs /\ j < σ.length then some none else σ[j]?
 | [], j => by simp [L2.wipe]
 | v :: vs, j => by
   have ih := qfK (σ := σ) vs j
   unfold L2.wipe
   by_cases hj : v = j
   · subst hj
     by_cases hl : v < σ.length
     · rw [List.getElem?_set_self (by rw [wipe_length]; exact hl), if_pos ⟨List.mem_cons_self, hl⟩]
     · rw [List.getElem?_eq_none (by simp [wipe_length]; omega), if_neg (λ z => hl z.2), List.getElem?_eq_none (by omega)]
   · rw [List.getElem?_set_ne hj, ih]
     have e : (j ∈ v :: vs /\ j < σ.length) <-> (j ∈ vs /\ j < σ.length) := by
       rw [List.mem_cons]
       exact ⟨λ ⟨a, b⟩ => ⟨a.elim (λ z => absurd z.symm hj) id, b⟩, λ ⟨a, b⟩ => ⟨.inr a, b⟩⟩
     simp only [e]
theorem qmN {σ τ : L2.St} {vs : List Nat} (hl : σ.length = τ.length) (h : ∀ j, j ∉ vs -> σ[j]? = τ[j]?) : L2.wipe σ vs = L2.wipe τ vs := by
 apply List.ext_getElem?
 intro j
 rw [qfK, qfK, hl]
 by_cases hj : j ∈ vs /\ j < τ.length
 · rw [if_pos hj, if_pos hj]
 · rw [if_neg hj, if_neg hj]
   by_cases hm : j ∈ vs
   · have : ¬ j < τ.length := λ z => hj ⟨hm, z⟩
     rw [List.getElem?_eq_none (by omega), List.getElem?_eq_none (by omega)]
   · exact h j hm
theorem qz2 {σ : L2.St} {vs : List Nat} {i : Nat} {x : Option V} (hi : i ∈ vs) : L2.wipe (σ.set i x) vs = L2.wipe σ vs := qmN (by simp) λ j hj => by
 rw [List.getElem?_set_ne (λ z => hj (by rw [<- z]; exact hi))]
theorem qhD {σ : L2.St} {vs : List Nat} : L2.wipe (L2.wipe σ vs) vs = L2.wipe σ vs := qmN (wipe_length σ vs) λ j hj => by
 rw [qfK, if_neg (λ z => hj z.1)]
theorem qbe {i : Nat} {vs : List Nat} (hi : i ∈ vs := by decide) : OwnG (gName i) vs := λ x σ H Q Q' h q => q _ h (qz2 hi)
def qcU (g : TGs) (vs : List Nat) : Prop := ∀ (xs : List V) (σ : L2.St) (H : Hp) (Q Q' : L2.St -> Hp -> Prop), g xs σ H Q -> (∀ σ', Q σ' H -> wipe σ' vs = wipe σ vs -> Q' σ' H) -> g xs σ H Q'
theorem qbj {vs : List Nat} : qcU gNil vs := λ xs σ H Q Q' h q => ⟨h.1, q σ h.2 rfl⟩
theorem qCD {g : TG} {gs : TGs} {vs : List Nat} (h1 : OwnG g vs) (h2 : qcU gs vs) (kp : ∀ x σ H Q, g x σ H Q -> ∃ σ', Q σ' H /\ ∀ Q', Q' σ' H -> g x σ H Q') : qcU (gCons g gs) vs := λ xs σ H Q Q' h q => by
 obtain ⟨v, r, e, h⟩ := h
 obtain ⟨σ', k, back⟩ := kp _ _ _ _ h
 refine ⟨v, r, e, h1 v σ H _ _ h λ σ1 k1 e1 => h2 r σ1 H Q Q' k1 λ σ2 k2 e2 => q σ2 k2 (e2.trans e1)⟩
theorem qbr {K : PySem.W.Frag} {n : Nat} {gs : TGs} {vs : List Nat} (h : qcU gs vs) : OwnG (gTup K n gs) vs := λ x σ H Q Q' ⟨a, xs, e, hs, hl, k⟩ q => ⟨a, xs, e, hs, hl, h xs σ H Q Q' k q⟩
theorem qsv {i : Nat} : ∀ x σ H Q, gName i x σ H Q -> ∃ σ', Q σ' H /\ ∀ Q' : L2.St -> Hp -> Prop, Q' σ' H -> gName i x σ H Q' := λ x σ H Q h => ⟨_, h, λ Q' h => h⟩
theorem qaF {i : Nat} {gs : TGs} {vs : List Nat} (h2 : qcU gs vs) (hi : i ∈ vs := by decide) : qcU (gCons (gName i) gs) vs := qCD (qbe hi) h2 qsv
theorem RepS.wipe {B0 B1 H0 H : Hp} {σ : L2.St} {ρ : Rho} : ∀ {A : Nat -> Option Addr} (vs : List Nat), RepS K B0 B1 A H0 H σ ρ -> ∃ A', RepS K B0 B1 A' H0 H (L2.wipe σ vs) (qak ρ vs) /\ ∀ i a, A' i = some a -> A i = some a
 | A, [], R => ⟨A, R, λ _ _ h => h⟩
 | A, v :: vs, R => by
   obtain ⟨A', R', h⟩ := RepS.wipe vs R
   exact ⟨clr A' v, R'.setNone v, λ i a e => h i a (qb6 e).2⟩
theorem RepS.other {B0 B1 H0 H : Hp} {A : Nat -> Option Addr} {σ : L2.St} {ρ : Rho} {q : Addr} {ob : HO} (R : RepS K B0 B1 A H0 H σ ρ) (n0 : H0 q = none) (nb : B1 q = none) (na : ∀ i, A i ≠ some q) (np : H q = none ∨ ∃ o, H q = some o /\ qbv q o) : RepS K B0 B1 A H0 (upd H q ob) σ ρ := by
 have ne : ∀ j b, A j = some b -> b ≠ q := λ j b h e => by
   subst e
   exact na j h
 refine ⟨qbi R.ex n0, ⟨R.gr.g0, qc6 R.gr.g1 nb, qbi R.ex n0, R.gr.nw, λ t => qgc (R.gr.tb t) λ p => by
   by_cases hp : p = q
   · subst hp
     exact .inr np
   · exact .inl (upd_ne hp)⟩, R.len, λ j x e => ?_, R.inj, λ j b h => ?_, R.sz, λ j x C fs q2 xs e => ?_⟩
 · obtain ⟨v, e1, s⟩ := R.slot j x e
   refine ⟨v, e1, ?_⟩
   cases x with
   | none => exact s
   | some x =>
     cases x with
     | d y => exact s
     | lst x2 xs =>
       obtain ⟨b, o', e2, e3, n, b1, ho, r⟩ := s
       exact ⟨b, o', e2, e3, n, b1, by rw [upd_ne (ne j b e3)]; exact ho, r⟩
     | ins x2 C fs =>
       obtain ⟨b, o', e2, e3, n, b1, ho, r⟩ := s
       exact ⟨b, o', e2, e3, n, b1, by rw [upd_ne (ne j b e3)]; exact ho, r⟩
     | dk x2 kvs =>
       obtain ⟨b, o', e2, e3, n, b1, ho, r⟩ := s
       exact ⟨b, o', e2, e3, n, b1, by rw [upd_ne (ne j b e3)]; exact ho, r⟩
     | dt x2 w2 kvs =>
       obtain ⟨b, o', e2, e3, n, b1, ho, r⟩ := s
       exact ⟨b, o', e2, e3, n, b1, by rw [upd_ne (ne j b e3)]; exact ho, r⟩
     | pg x2 C2 fs2 q2 xs2 =>
       obtain ⟨b, o', e2, e3, n, b1, ho, r⟩ := s
       exact ⟨b, o', e2, e3, n, b1, by rw [upd_ne (ne j b e3)]; exact ho, r⟩
 · obtain ⟨q1, q2, o2, q3, q4⟩ := R.own j b h
   exact ⟨q1, q2, o2, by rw [upd_ne (ne j b h)]; exact q3, q4⟩
 · obtain ⟨h1, us, h2, h3⟩ := R.nest j x C fs q2 xs e
   exact ⟨h1, us, by rw [upd_ne (ne _ _ h1)]; exact h2, h3⟩
theorem RepS.freeA {B0 B1 H0 H : Hp} {A : Nat -> Option Addr} {σ : L2.St} {ρ : Rho} {q : Addr} (R : RepS K B0 B1 A H0 H σ ρ) (h : H q = none) (i : Nat) : A i ≠ some q := λ z => by
 obtain ⟨_, _, o, e, _⟩ := R.own i q z
 rw [h] at e
 cases e
theorem qna {ti : TI} {di : DI} {g : TG} {dg : DG} {vs : List Nat} (hi : SimI K Ed E ti di) (hg : SimG K g dg) (og : OwnG g vs) (ht : SimT K (λ _ => False) E0 tt dt) (he : SimE K (λ _ => False) E0 te de) : SimE K Ed E (tLc ti g tt te vs) (qcm di dg dt de vs) := λ B0 B1 A H0 H σ ρ R X Qd h Q q =>
 hi B0 B1 A H0 H σ ρ R X _ h _ λ J xs Hs0 Hs Rs gs wk hl => λ Dl hD => by
   obtain ⟨Aw, Rw, hw⟩ := Rs.wipe vs
   have nbD : B1 Dl = none := Rs.gr.g1.free hD
   have naD : ∀ i, Aw i ≠ some Dl := λ i z => Rw.freeA hD i z
   -- what stands at each turn
   refine ⟨λ i m H' => m = xs.length - i /\ ∃ H0' acc us, RepS K B0 B1 Aw H0' H' (L2.wipe σ vs) (qak ρ vs) /\ Grow Hs0 Hs H0' H' /\ H0' Dl = none /\ H' Dl = some (.lst us) /\ Reps K H0' acc us /\ qaG dg dt de (xs.drop i) acc (qak ρ vs) Qd,
     ⟨xs.length, by simp, Hs0, [], [], Rw.other (Rw.ex.free hD) nbD naD (.inl hD), ⟨.refl _, (same_upd hD).ext, qbi Rw.ex (Rw.ex.free hD), λ _ _ => rfl, λ t => qc5 t hD⟩, Rw.ex.free hD, upd_same, rfl, by simpa using hl⟩, ?_⟩
   rintro i m H' ⟨rfl, H0', acc, us, R', g', n', hD', ra, hq⟩
   obtain ⟨hgo, hst⟩ := wk i H0' H' R'.ex g'.g0
   rcases drop_at (xs := xs) (i := i) with ⟨x, hx, hdr⟩ | ⟨hx, hdr⟩
   · rw [hdr] at hq
     obtain ⟨go, yl⟩ := hgo x hx
     have hlt : i < xs.length := (List.getElem?_eq_some_iff.mp hx).1
     refine .inr ⟨go, λ H2 => ∃ H02 acc us, RepS K B0 B1 Aw H02 H2 (L2.wipe σ vs) (qak ρ vs) /\ Grow Hs0 Hs H02 H2 /\ H02 Dl = none /\ H2 Dl = some (.lst us) /\ Reps K H02 acc us /\ qaG dg dt de (xs.drop (i + 1)) acc (qak ρ vs) Qd, λ H2 n2 => ⟨xs.length - (i + 1), by omega, rfl, n2⟩, λ v Hn y => ?_⟩
     obtain ⟨H0n, gn, rn⟩ := yl v Hn y
     have hDn : H' Dl ≠ none := by rw [hD']; exact λ z => nomatch z
     refine og v _ Hn (λ σ2 H2 => tt σ2 H2 λ b H3 => if b = true then te σ2 H3 λ y H4 => ∃ acc, H4 Dl = some (.lst acc) /\ acc.length < sizeLine /\ (∃ H02 acc' us, RepS K B0 B1 Aw H02 (upd H4 Dl (.lst (acc ++ [y]))) (L2.wipe σ vs) (qak ρ vs) /\ Grow Hs0 Hs H02 (upd H4 Dl (.lst (acc ++ [y]))) /\ H02 Dl = none /\ (upd H4 Dl (.lst (acc ++ [y]))) Dl = some (.lst us) /\ Reps K H02 acc' us /\ qaG dg dt de (xs.drop (i + 1)) acc' (qak ρ vs) Qd)
       else ∃ H02 acc us, RepS K B0 B1 Aw H02 H3 (L2.wipe σ vs) (qak ρ vs) /\ Grow Hs0 Hs H02 H3 /\ H02 Dl = none /\ H3 Dl = some (.lst us) /\ Reps K H02 acc us /\ qaG dg dt de (xs.drop (i + 1)) acc (qak ρ vs) Qd) _ (hg B0 B1 Aw H0n Hn (L2.wipe σ vs) (qak ρ vs) x v (R'.grow gn) rn _ hq _ λ A2 σ2 ρ2 R2 o2 k2 => ?_) λ σ2 k2 e2 => ⟨e2.trans qhD, k2⟩
     refine ht B0 B1 A2 H0n Hn σ2 ρ2 R2 X.td0 _ k2 _ λ b H3 H4 R3 g3 k3 => ?_
     have gn3 := gn.trans g3
     cases b with
     | false => exact ⟨H3, acc, us, R'.grow gn3, g'.trans gn3, (gn3.nw Dl hDn).trans n', gn3.g1.at hD', Reps.mono gn3.g0 _ _ ra, k3⟩
     | true =>
       refine he B0 B1 A2 H3 H4 σ2 ρ2 R3 X.td0 _ k3 _ λ y u H5 H6 R4 g4 r4 k4 => ?_
       have gn4 := gn3.trans g4
       have n5 : H5 Dl = none := (gn4.nw Dl hDn).trans n'
       have rs := R'.grow gn4
       refine ⟨us, gn4.g1.at hD', by rw [ra.length]; exact Nat.lt_of_lt_of_le k4.1 (by decide), H5, acc ++ [y], us ++ [u], rs.other n5 nbD naD (.inr ⟨_, gn4.g1.at hD', qcW⟩), ?_, n5, upd_same, (Reps.mono gn4.g0 _ _ ra).append ⟨u, [], rfl, r4, rfl⟩, k4.2⟩
       have gg := g'.trans gn4
       exact ⟨gg.g0, qc6 gg.g1 hD, qbi gg.g2 n5, gg.nw, λ t => qdA (gg.tb t) (gn4.g1.at hD') qcW⟩
   · rw [hdr] at hq
     refine .inl ⟨hst hx, ?_⟩
     have gx : Grow Hs0 Hs (upd H0' Dl (.lst us)) H' := ⟨g'.g0.trans (same_upd n'), g'.g1, λ b o e => by
         by_cases hb : b = Dl
         · subst hb
           rw [upd_same] at e
           cases e
           exact hD'
         · rw [upd_ne hb] at e
           exact g'.g2 b o e, λ p hp => by
         have px : p ≠ Dl := λ z => hp (by rw [z]; exact hD)
         rw [upd_ne px]
         exact g'.nw p hp, λ t => qcn (g'.tb t)⟩
     exact q (.lst acc) (.ref Dl) _ H' (Rs.grow gx) (gs.trans gx) ⟨Dl, us, rfl, .inl (.inl upd_same), Reps.mono (same_upd n') _ _ ra⟩ hq
end
open RZ (ItzT iZipA pi_zipA)
section
variable {X : Cx} {Ed : DX -> Prop} {E : XK} {K : PySem.W.Frag} {pos p : Pos} {e a b c o e2 tg iter elt : Expr} {te ta tb tc : TE} {de da db dc : DE} {tal : TA} {dal : DA} {es ifs : List Expr} {k : Nat} {x : Str} {tt : TT} {dt : DT} {ti : TI} {di : DI} {g : TG} {dg : DG} {scope : Scope} {own : List (Str × Nat)}
theorem qaY (hc : X.calm = true) (hN : X.N.Nodup) (hi : JI X Ed E tg iter ti di) (ok : BlkOk X.N X.env.scope scope own) (og : OwnG g (own.map (·.2)))
   (hg : ∀ (s : Shared) (H : Hp) (C : Addr) (cl : List (Str × Addr)) (fp : List Addr), JG (X.blk s H scope (compEnvC scope cl C X.env) fp) tg g dg)
   (ht : ∀ (s : Shared) (H : Hp) (C : Addr) (cl : List (Str × Addr)) (fp : List Addr), JTs (X.blk s H scope (compEnvC scope cl C X.env) fp) (λ _ => False) E0 ifs tt dt)
   (he : ∀ (s : Shared) (H : Hp) (C : Addr) (cl : List (Str × Addr)) (fp : List Addr), JE (X.blk s H scope (compEnvC scope cl C X.env) fp) (λ _ => False) E0 elt te de) (hs : ∀ x, foldedSetIterable iter X.env x = pure x := by intro _; rfl) :
   JE X Ed E (.ListComp elt [⟨tg, iter, ifs, 0⟩] scope pos) (tLc ti g tt te (own.map (·.2))) (qcm di dg dt de (own.map (·.2))) :=
 ⟨pe_lc hc hN hi.pe ok (λ s H C cl fp => (hg s H C cl fp).pe) (λ s H C cl fp => (ht s H C cl fp).pe) (λ s H C cl fp => (he s H C cl fp).pe) hs,
   qna hi.sim (hg X.s_0 X.H_0 0 [] []).sim og (ht X.s_0 X.H_0 0 [] []).sim (he X.s_0 X.H_0 0 [] []).sim⟩
theorem qem {i : Nat} {y : Str} {py spos : Pos} (hc : X.calm = true) (hN : X.N.Nodup) (hy : X.N[i]? = some y) (hyl : X.env.scope.names.lookup y = some .local)
   (hsw : swapsWith (.ListComp elt [⟨tg, iter, ifs, 0⟩] scope pos) (some (.Name y py)) spos.line X.env = pure true) (hi : JI X Ed E tg iter ti di) (ok : BlkOk X.N X.env.scope scope own) (og : OwnG g (own.map (·.2)))
   (hg : ∀ (s : Shared) (H : Hp) (C : Addr) (cl : List (Str × Addr)) (fp : List Addr), JG (X.blk s H scope (compEnvC scope cl C X.env) fp) tg g dg)
   (ht : ∀ (s : Shared) (H : Hp) (C : Addr) (cl : List (Str × Addr)) (fp : List Addr), JTs (X.blk s H scope (compEnvC scope cl C X.env) fp) (λ _ => False) E0 ifs tt dt)
   (he : ∀ (s : Shared) (H : Hp) (C : Addr) (cl : List (Str × Addr)) (fp : List Addr), JE (X.blk s H scope (compEnvC scope cl C X.env) fp) (λ _ => False) E0 elt te de) (hs : ∀ x, foldedSetIterable iter X.env x = pure x := by intro _; rfl) :
   JS X Ed E (.Assign [.Name y py] (.ListComp elt [⟨tg, iter, ifs, 0⟩] scope pos) spos) (tAsg (tLc ti g tt te (own.map (·.2))) (gName i)) (dAsg (qcm di dg dt de (own.map (·.2))) (dName i)) :=
 ⟨ps_setLc hc hN hy hyl hsw hi.pe ok (λ s H C cl fp => (hg s H C cl fp).pe) (λ s H C cl fp => (ht s H C cl fp).pe) (λ s H C cl fp => (he s H C cl fp).pe) hs,
   qgP (qna hi.sim (hg X.s_0 X.H_0 0 [] []).sim og (ht X.s_0 X.H_0 0 [] []).sim (he X.s_0 X.H_0 0 [] []).sim) qgQ⟩
def zipD : List D -> List D -> List D
 | x :: xs, y :: ys => .tup [x, y] :: zipD xs ys
 | _, _ => []
theorem qiZ : ∀ {xs ys : List D} {i : Nat}, (zipD xs ys)[i]? = match xs[i]?, ys[i]? with | some x, some y => some (.tup [x, y]) | _, _ => none
 | [], _, i => by simp [zipD]
 | _ :: _, [], i => by simp [zipD]
 | x :: xs, y :: ys, 0 => by simp [zipD]
 | x :: xs, y :: ys, i + 1 => by
   have := qiZ (xs := xs) (ys := ys) (i := i)
   simpa [zipD] using this
def dZip (da : DA) (ρ : Rho) (L : List D -> Prop) : Prop := da ρ λ ds => match ds with
 | [.lst xs, .lst ys] => L (zipD xs ys)
 | [.tup xs, .tup ys] => L (zipD xs ys)
 | _ => False
theorem qtK {Hs : Hp} {l l' : Addr} {vs us : List V} {xs ys : List D} (h : SqL K Hs l vs) (h' : SqL K Hs l' us) (r : Reps K Hs xs vs) (r' : Reps K Hs ys us) : Walks K (Itz K l l') Hs (zipD xs ys) := λ i H0 H sm s0 => by
 have hs := sm.seq (s0.seq h)
 have hs' := sm.seq (s0.seq h')
 rw [qiZ]
 refine ⟨λ z hz => ?_, λ hz => ?_⟩
 · cases e1 : xs[i]? with
   | none => rw [e1] at hz; cases hz
   | some x =>
     cases e2 : ys[i]? with
     | none => rw [e1, e2] at hz; cases hz
     | some y =>
       rw [e1, e2] at hz
       cases hz
       obtain ⟨v, hv, rv⟩ := r.get e1
       obtain ⟨u, hu, ru⟩ := r'.get e2
       refine ⟨⟨vs, us, v, u, hs, hs', hv, hu⟩, λ w H' q => ?_⟩
       obtain ⟨T, x', y', rfl, nT, rfl, f1, f2⟩ := q
       have ex := f1 vs hs
       have ey := f2 us hs'
       rw [hv] at ex
       rw [hu] at ey
       cases ex
       cases ey
       have gr := Grow.new (o := .tup [v, u]) sm nT
       exact ⟨_, gr, T, [v, u], rfl, .inl (.inl upd_same), v, [u], rfl, Rep.mono gr.g0 _ _ (Rep.mono s0 _ _ rv), u, [], rfl, Rep.mono gr.g0 _ _ (Rep.mono s0 _ _ ru), rfl⟩
 · refine ⟨vs, us, hs, hs', ?_⟩
   rw [r.length, r'.length]
   cases e1 : xs[i]? with
   | none => exact .inl (List.getElem?_eq_none_iff.mp e1)
   | some x =>
     cases e2 : ys[i]? with
     | none => exact .inr (List.getElem?_eq_none_iff.mp e2)
     | some y => rw [e1, e2] at hz; cases hz
theorem quC {Hs : Hp} {l l' : Addr} {vs us : List V} {xs ys : List D} (h : SqT K Hs l vs) (h' : SqT K Hs l' us) (r : Reps K Hs xs vs) (r' : Reps K Hs ys us) : Walks K (ItzT K l l') Hs (zipD xs ys) := λ i H0 H sm s0 => by
 have hs := qaC sm (qaC s0 h)
 have hs' := qaC sm (qaC s0 h')
 rw [qiZ]
 refine ⟨λ z hz => ?_, λ hz => ?_⟩
 · cases e1 : xs[i]? with
   | none => rw [e1] at hz; cases hz
   | some x =>
     cases e2 : ys[i]? with
     | none => rw [e1, e2] at hz; cases hz
     | some y =>
       rw [e1, e2] at hz
       cases hz
       obtain ⟨v, hv, rv⟩ := r.get e1
       obtain ⟨u, hu, ru⟩ := r'.get e2
       refine ⟨⟨vs, us, v, u, hs, hs', hv, hu⟩, λ w H' q => ?_⟩
       obtain ⟨T, x', y', rfl, nT, rfl, f1, f2⟩ := q
       have ex := f1 vs hs
       have ey := f2 us hs'
       rw [hv] at ex
       rw [hu] at ey
       cases ex
       cases ey
       have gr := Grow.new (o := .tup [v, u]) sm nT
       exact ⟨_, gr, T, [v, u], rfl, .inl (.inl upd_same), v, [u], rfl, Rep.mono gr.g0 _ _ (Rep.mono s0 _ _ rv), u, [], rfl, Rep.mono gr.g0 _ _ (Rep.mono s0 _ _ ru), rfl⟩
 · refine ⟨vs, us, hs, hs', ?_⟩
   rw [r.length, r'.length]
   cases e1 : xs[i]? with
   | none => exact .inl (List.getElem?_eq_none_iff.mp e1)
   | some x =>
     cases e2 : ys[i]? with
     | none => exact .inr (List.getElem?_eq_none_iff.mp e2)
     | some y => rw [e1, e2] at hz; cases hz
theorem qsz {tpos : Pos} {elts : List Expr} {kk : Nat} (hm : X.mg "zip" = none) (ha : JA X Ed E [e, e2] tal dal) (hg : Gl X "zip" := by rfl) (hs : starEach [e, e2] X.env = (false, eval e X.env) :: starEach [e2] X.env := by rfl) (hpl : (backTo pos (starEach [e2] X.env)).any (·.1) = false := by rfl) :
   JI X Ed E (.Tuple elts kk tpos) (.Call (.Name "zip" p) [e, e2] [] pos) (iZipA X.K tal) (dZip dal) := ⟨pi_zipA hg hm ha.pe hs hpl, λ B0 B1 A H0 H σ ρ R X Ld hd Q q => ha.sim B0 B1 A H0 H σ ρ R X _ hd _ λ ds vs H1 H2 R1 g1 r1 k => by
 split at k
 · obtain ⟨v, u, rfl, ⟨l, vs, rfl, hs, r⟩, ⟨l', us, rfl, hs', r'⟩⟩ := qe1 r1
   exact ⟨l, l', vs, us, rfl, .inl ⟨R1.ex.seq hs, R1.ex.seq hs', q _ _ H1 H2 R1 g1 (qtK hs hs' r r') k⟩⟩
 · obtain ⟨v, u, rfl, ⟨l, vs, rfl, hs, r⟩, ⟨l', us, rfl, hs', r'⟩⟩ := qe1 r1
   exact ⟨l, l', vs, us, rfl, .inr ⟨qaC R1.ex hs, qaC R1.ex hs', q _ _ H1 H2 R1 g1 (quC hs hs' r r') k⟩⟩
 · exact k.elim⟩
def qfk : Nat -> List D -> List D
 | _, [] => []
 | n, x :: xs => .tup [.int (n : Int), x] :: qfk (n + 1) xs
def qoe (da : DA) (ρ : Rho) (L : List D -> Prop) : Prop := da ρ λ ds => match ds with
 | [.lst xs] => L (qfk 0 xs)
 | _ => False
def signs (z : Str) : List D := z.cps.toList.map λ c => .str ⟨#[c]⟩
def qgA (de : DE) (ρ : Rho) (L : List D -> Prop) : Prop := de ρ λ x => match x with
 | .str z => L (signs z)
 | _ => False
theorem qoo (h : JE X Ed E e te de) : JI X Ed E tg e (iStr te) (qgA de) := ⟨pi_str h.pe, λ B0 B1 A H0 H σ ρ R X Ld hd Q q => h.sim B0 B1 A H0 H σ ρ R X _ hd _ λ x v H1 H2 R1 g1 r1 k => by
 split at k
 · rename_i z
   cases (show v = _ from r1)
   refine ⟨z, rfl, q _ _ H1 H2 R1 g1 (λ i H0' H' sm s0 => ⟨λ d hd => ?_, λ hd => ?_⟩) k⟩
   · have hi : i < z.cps.size := by
       have := (List.getElem?_eq_some_iff.mp hd).1
       simpa [signs] using this
     refine ⟨hi, λ v H'' y => ?_⟩
     obtain ⟨rfl, c, hc, rfl⟩ := y
     refine ⟨H0', .refl sm, ?_⟩
     have e : (signs z)[i]? = some (.str ⟨#[c]⟩) := by
       unfold signs
       rw [List.getElem?_map]
       have : z.cps.toList[i]? = some c := by simpa using hc
       rw [this]
       rfl
     rw [e] at hd
     cases hd
     rfl
   · have := List.getElem?_eq_none_iff.mp hd
     show z.cps.size <= i
     simpa [signs] using this
 · exact k.elim⟩
end
end DL
namespace DL
variable [TbC]
open PySem PySem.Spec PyProof.Rows L2
section
variable {X : Cx} {Ed : DX -> Prop} {E : XK} {K : PySem.W.Frag} {pos p : Pos} {e a b c o e2 tg iter elt : Expr} {te ta tb tc : TE} {de da db dc : DE} {tal : TA} {dal : DA} {es ifs : List Expr} {k : Nat} {x : Str} {tt : TT} {dt : DT} {st : Stmt} {sts : List Stmt} {ts us : TS} {ds dus : DS}
theorem qqK (hm : X.mg "isinstance" = none) (h1 : JE X Ed E e te de) {x1 : Nat} {p2 : Pos} (h2 : JA X Ed E es tal dal) (hg : Gl X "isinstance" := by rfl) (he : starEach [e, .Tuple es x1 p2] X.env = (false, eval e X.env) :: starEach [.Tuple es x1 p2] X.env := by rfl) (hpl : (backTo pos (starEach [.Tuple es x1 p2] X.env)).any (·.1) = false := by rfl) :
   JE X Ed E (.Call (.Name "isinstance" p) [e, .Tuple es x1 p2] [] pos) (tCB (rIsiT X.K) (tCons te (tCons (tTup tal) tNil))) (dCB qe9 (qbD de (qbD (dTup dal) dNil))) := by
 refine ⟨pe_callB call_isiT hg hm (by decide +kernel) (qaa h1 (qaa (qay h2) qac) he).pe (by decide) (by decide) he hpl, ?_⟩
 intro B0 B1 A H0 H σ ρ R X Qd h Q q
 refine h1.sim B0 B1 A H0 H σ ρ R X _ h _ λ d v H1 H2 R1 g1 r1 k => ?_
 refine h2.sim B0 B1 A H1 H2 σ ρ R1 X _ k _ λ cs vs H3 H4 R2 g2 r2 k2 => ⟨by rw [r2.length]; exact qiR k2.1, λ t ht => ?_⟩
 have k2 := k2.2
 dsimp only [qe9, dNil] at k2
 obtain ⟨m, hm', k2⟩ := qaB k2
 obtain ⟨b, hb, k2⟩ := qaB k2
 have g := Grow.new (o := .tup vs) R2.ex ht
 obtain ⟨us, pu, ku⟩ := qob (K := _) r2 hb
 have R3 := R2.grow g
 exact ⟨v, t, vs, _, us, b, rfl, upd_same, pu, qor R3.ex (Rep.mono g.g0 _ _ (Rep.mono g2.g0 _ _ r1)) hm', ku, q (.bl b) _ _ _ R3 ((g1.trans g2).trans g) rfl k2⟩
def qnt (i : Nat) (da : DA) (d : qao) (ρ : Rho) : Prop := da ρ λ xs => xs.length <= 1000 /\ i < ρ.length /\ ∀ a, d.nx (ρ.set i (some (.lst a xs)))
def qow (i : Nat) (da : DE) (d : qao) (ρ : Rho) : Prop := da ρ λ x => match x with
 | .lst xs => i < ρ.length /\ ∀ a, d.nx (ρ.set i (some (.lst a xs)))
 | .tup xs => i < ρ.length /\ ∀ a, d.nx (ρ.set i (some (.lst a xs)))
 | _ => False
def qhB (i : Nat) (de dk : DE) (d : qao) (ρ : Rho) : Prop := de ρ λ v => match lk i ρ with
 | some (.lst a xs) => dk ρ λ z => (match z with
   | .int j => onS (ixN xs.length j) λ m => d.nx (ρ.set i (some (.lst a (xs.set m v))))
   | _ => False)
 | _ => False
theorem qhQ {i : Nat} {ρ : Rho} {w : SV} (h : lk i ρ = some w) : i < ρ.length := (List.getElem?_eq_some_iff.mp (qbF h)).1
theorem RepS.qa7 {B0 B1 H0 H : Hp} {A : Nat -> Option Addr} {σ : L2.St} {ρ : Rho} (R : RepS K B0 B1 A H0 H σ ρ) {i : Nat} {q : Addr} {xs : List D} (h : lk i ρ = some (.lst q xs)) : σ[i]? = some (some (.ref q)) /\ A i = some q /\ ∃ vs, H q = some (.lst vs) /\ Reps K H0 xs vs := by
 obtain ⟨l, ho, e1, e2, n0, nb, hh, rr⟩ := R.ownAt (qbF h) (λ _ z => nomatch z)
 obtain ⟨rfl, vs, rfl, rf⟩ := rr
 exact ⟨e1, e2, vs, hh, rf⟩
theorem qcM {y : Str} {p2 p3 : Pos} (i : Nat) (he : JE X Ed E e te de) (hk : JE X Ed E b tb db) (hN : X.N[i]? = some y := by rfl) (hv : Vis X.env.scope y := by first | exact Or.inl rfl | exact Or.inr (Or.inl rfl) | exact Or.inr (Or.inr rfl)) (hd : (y == ("__debug__" : Str)) = false := by decide)
   (hcd : (y == ("__classdict__" : Str)) = false := by decide)
   (ha : ∀ v, assign (.Subscript (.Name y p2) b p3) X.env v = (do
     let ov <- holding [v] (eval (.Name y p2) X.env)
     let iv <- holding [v, ov] (eval b X.env)
     standAt p3
     holding [v, ov, iv] (setItem ov iv v)
     release [v, ov, iv] []) := by intro _; rfl) (hs : swapsWithSole [.Subscript (.Name y p2) b p3] e pos.line X.env = pure false := by rfl) (hw : swappedStores [.Subscript (.Name y p2) b p3] e X.env = pure none := by rfl)
   (h1 : (assignEach [.Subscript (.Name y p2) b p3] X.env).map (·.2) = [assign (.Subscript (.Name y p2) b p3) X.env] := by rfl) : JS X Ed E (.Assign [.Subscript (.Name y p2) b p3] e pos) (tAsg te (gSub (tVar i) tb rSetL)) (qhB i de db) :=
 ⟨ps_asg he.pe (pg_sub (pe_var hN hv hd hcd) hk.pe set_list ha) hs hw h1, λ B0 B1 A H0 H σ ρ R X d D r h => he.sim B0 B1 A H0 H σ ρ R X _ h _ λ z v H1 H2 R1 g1 r1 k => by
   split at k
   · rename_i q xs e
     refine ⟨.ref q, (R1.qa7 e).1, hk.sim B0 B1 A H1 H2 σ ρ R1 X _ k _ λ w u H3 H4 R2 g2 r2 k2 => ?_⟩
     split at k2
     · rename_i j
       obtain ⟨m, hm, k2⟩ := qaB k2
       obtain ⟨e1, e2, vs, hh, rr⟩ := R2.qa7 e
       cases (show u = _ from r2)
       exact ⟨q, vs, j, m, rfl, rfl, hh, by rw [rr.length]; exact hm, r.nx _ _ _ _ _ (R2.updOwn (w := .lst q (xs.set m z)) (qhQ e) e1 e2 ⟨rfl, _, rfl, Reps.set (Rep.mono g2.g0 _ _ r1) m rr⟩) k2⟩
     · exact k2.elim
   · exact k.elim⟩
def dIxO (i : Nat) (dk : DE) (ρ : Rho) (Q : D -> Prop) : Prop := match lk i ρ with
 | some (.lst _ xs) => dk ρ λ z => (match z with
   | .int j => onS (atI xs j) Q
   | _ => False)
 | _ => False
theorem qa3 {y : Str} {p2 : Pos} (i : Nat) (hk : JE X Ed E b tb db) (hN : X.N[i]? = some y := by rfl) (hv : Vis X.env.scope y := by first | exact Or.inl rfl | exact Or.inr (Or.inl rfl) | exact Or.inr (Or.inr rfl)) (hd : (y == ("__debug__" : Str)) = false := by decide)
   (hcd : (y == ("__classdict__" : Str)) = false := by decide) (hs : PlainIx b := by exact λ _ _ => rfl) : JE X Ed E (.Subscript (.Name y p2) b pos) (tOp (rIx X.K) (tVar i) tb) (dIxO i db) :=
 ⟨pe_ix ix_seq (pe_var hN hv hd hcd) hk.pe hs, λ B0 B1 A H0 H σ ρ R X Qd h Q q => by
   unfold dIxO at h
   split at h
   · rename_i l xs e
     refine ⟨.ref l, (R.qa7 e).1, hk.sim B0 B1 A H0 H σ ρ R X _ h _ λ w u H3 H4 R2 g2 r2 k2 => ?_⟩
     split at k2
     · rename_i j
       obtain ⟨d, hd', k2⟩ := qaB k2
       obtain ⟨e1, e2, vs, hh, rr⟩ := R2.qa7 e
       cases (show u = _ from r2)
       obtain ⟨v, hv', rv⟩ := qgi rr hd'
       exact .inl ⟨l, vs, j, v, rfl, rfl, .inl (.inl hh), hv', q d v _ _ R2 g2 rv k2⟩
     · exact k2.elim
   · exact h.elim⟩
def dApp (i : Nat) (de : DE) (d : qao) (ρ : Rho) : Prop := match lk i ρ with
 | some (.lst a xs) => de ρ λ y => xs.length < 100000 /\ d.nx (ρ.set i (some (.lst a (xs ++ [y]))))
 | _ => False
def qrz (i : Nat) (ρ : Rho) (Q : D -> Prop) : Prop := match lk i ρ with
 | some (.lst _ xs) => Q (.int xs.length)
 | _ => False
def dFrz (i : Nat) (ds : DS) (d : qao) (ρ : Rho) : Prop := match lk i ρ with
 | some (.lst _ xs) => ds d (ρ.set i (some (.d (.lst xs))))
 | some (.ins _ C fs) => ds d (ρ.set i (some (.d (.ins C fs))))
 | some (.dk _ kvs) => ds d (ρ.set i (some (.d (.dk kvs))))
 | some (.dt _ w kvs) => ds d (ρ.set i (some (.d (.dt w kvs))))
 | _ => False
end
abbrev WpO := List D -> List D -> (List D -> D -> Prop) -> (DX -> Prop) -> Prop
def SpO (K : PySem.W.Frag) (wp : WpO) : Sp := λ vs H Q E => ∃ (q : Addr) (ws us : List V) (H0 : Hp) (xs ds : List D) (Qf : List D -> D -> Prop) (Ed : DX -> Prop), vs = .ref q :: ws /\ H q = some (.lst us) /\ H0 q = none /\ Same H0 H /\ Reps K H0 xs us /\ Reps K H0 ds ws /\ wp xs ds Qf Ed /\
 (∀ xs' us' d v H0' H', Grow H0 (wo H q) H0' H' -> H0' q = none -> H' q = some (.lst us') -> Reps K H0' xs' us' -> Rep K H0' d v -> Qf xs' d -> Q v H') /\ ExRel K H0 (wo H q) Ed E
section
variable {P : Program} {w : World} {K : PySem.W.Frag} {mg : Str -> Option Value} {base : Heap}
theorem qr8 {x qual : Str} {st : Stmt} {f : Addr} {fd : FuncData} {N ps : List Str} {k : Nat} {wp : WpO} (n : Nat) (hn : N.length - 1 = n) (F : FunX K x qual st f fd) (S : FnScope N ps (defScope st)) (len : ∀ xs ds Q Ed, wp xs ds Q Ed -> ds.length + 1 = ps.length)
   (body : ∀ (cdv : Value) (A : Around) (outer : List Env) (s : Shared) (H : Hp) (E : XK), Room k (A.deeper (envOfC qual (defScope st) s.heap.objs.size f cdv)) -> ∀ (q : Addr) (xs ds : List D) (Qf : List D -> D -> Prop) (Ed : DX -> Prop), wp xs ds Qf Ed ->
     ∃ ts bs, JB (bx P w K mg base N qual st f cdv A outer s H E) Ed E (defBody st) ts bs /\ bs { nx := λ _ => False, rt := λ d ρ => (match lk 0 ρ with | some (.lst q' xs') => q' = q /\ Qf xs' d | _ => False) } (some (.lst q xs) :: qai n ds)) (hz : n <= 999 := by decide) :
   FnOk P w K mg base (L2N.CX P w) (k + 1) f fd ps (SpO K wp) := by
 have hpl : ps.length <= N.length := by
   have e := congrArg List.length S.pre
   rw [List.length_take] at e
   omega
 subst hn
 refine F.okX S (λ vs H Q E h => ?_) (λ cdv A outer s H vs Q E hr h => ?_)
 · obtain ⟨q, ws, us, H0, xs, ds, Qf, Ed, rfl, _, _, sm, r, r', hw, _⟩ := h
   show ws.length + 1 = _
   rw [r'.length]
   exact len xs ds Qf Ed hw
 · obtain ⟨q, ws, us, H0, xs, ds, Qf, Ed, rfl, hx, n0, sm, r, r', hw, kq, xr⟩ := h
   obtain ⟨ts, bs, jb, hb⟩ := body cdv A outer s H E hr q xs ds Qf Ed hw
   have hl := len xs ds Qf Ed hw
   have hN : 0 < N.length := by omega
   have hv : (V.ref q :: ws).length <= N.length := by
     show ws.length + 1 <= _
     rw [r'.length]
     omega
   have R : RepS K H0 (wo H q) (λ i => if i = 0 then some q else none) H0 H (L2.start N (.ref q :: ws)) (some (.lst q xs) :: qai (N.length - 1) ds) := by
     refine ⟨sm, ⟨.refl _, wo_sub.ext, sm, λ _ _ => rfl, λ t => qb3 t wo_sub⟩, by rw [qe6 hv]; show N.length = (qai (N.length - 1) ds).length + 1; rw [qbB]; omega, λ i w e => ?_, λ i j a h1 h2 => ?_, λ i a h => ?_, (by show (qai (N.length - 1) ds).length + 1 <= 1000; rw [qbB]; omega), λ i x C fs q xs e => ?_⟩
     · cases i with
       | zero =>
         have e : some (some (SV.lst q xs)) = some w := e
         cases e
         exact ⟨_, qce rfl, q, _, rfl, rfl, n0, qcq, hx, rfl, us, rfl, r⟩
       | succ i =>
         have e : (qai (N.length - 1) ds)[i]? = some w := by simpa using e
         rcases qb4 e with rfl | ⟨d, e1, rfl⟩
         · have hi : i + 1 < N.length := by
             have := (List.getElem?_eq_some_iff.mp e).1
             rw [qbB] at this
             omega
           obtain ⟨v, hv⟩ := qhr hv hi
           exact ⟨v, hv, rfl⟩
         · obtain ⟨v, hv', rv⟩ := r'.get e1
           exact ⟨some v, qce (by simpa using hv'), rfl, v, rfl, rv⟩
     · by_cases hi : i = 0
       · by_cases hj : j = 0
         · rw [hi, hj]
         · rw [if_neg hj] at h2
           cases h2
       · rw [if_neg hi] at h1
         cases h1
     · by_cases hi : i = 0
       · rw [if_pos hi] at h
         cases h
         exact ⟨n0, qcq, _, hx, qcW⟩
       · rw [if_neg hi] at h
         cases h
     · cases i with
       | zero => cases e
       | succ i =>
         have e : (qai (N.length - 1) ds)[i]? = some (some (SV.pg x C fs q xs)) := by simpa using e
         rcases qb4 e with h | ⟨d, _, h⟩ <;> cases h
   refine ⟨ts, jb.pe, jb.sim H0 (wo H q) _ H0 H _ _ R xr { nx := λ _ => False, rt := λ d ρ => (match lk 0 ρ with | some (.lst q' xs') => q' = q /\ Qf xs' d | _ => False) } _ ⟨λ _ _ _ _ _ _ h => h.elim, λ A H0' H' σ ρ d v R' rv h => ?_, λ _ _ _ _ _ _ h => h.elim, λ _ _ _ _ _ _ h => h.elim⟩ hb⟩
   dsimp only at h
   split at h
   · rename_i q' xs' e
     obtain ⟨rfl, h⟩ := h
     obtain ⟨e1, e2, vs, hh, rr⟩ := R'.qa7 e
     exact kq xs' vs d v H0' H' R'.gr (R'.own 0 _ e2).1 hh rr rv h
   · exact h.elim
end
section
variable {P : Program} {w : World} {K : PySem.W.Frag} {mg : Str -> Option Value} {base : Heap} {H : Hp} {h : Heap} {b c : Addr} {m : Nat}
theorem qsa {x : Addr} : bagO b c m ≠ .own x := λ z => by
 unfold bagO at z
 cases z
theorem qBJ {xs : List V} : bagO b c m ≠ .tup xs := λ z => by
 unfold bagO at z
 cases z
theorem qq8 (x : qd7 h b c m) : ObjOk P w H h b (bagO b c m) := by
 obtain ⟨i, g, s, n, t1, t2, t3, t4, z, e, q⟩ := x.ex
 refine ⟨x, ⟨_, e⟩, λ h1 h2 hb hk => ?_⟩
 obtain ⟨i, g, s, n, t1, t2, t3, t4, z, e, q⟩ := hb.ex
 exact ⟨⟨i, g, s, n, t1, t2, t3, t4, z, hk _ e, q⟩⟩
def bagV (c : Addr) (i g s n : Int) : List V := [.ref c, .int i, .int g, .int s, .int n]
theorem qt9 {i g s n : Int} {t1 t2 t3 t4 : Tok} : Vals (bagV c i g s n) [.ref c, .int i t1, .int g t2, .int s t3, .int n t4] := .cons rfl (.cons ⟨_, rfl⟩ (.cons ⟨_, rfl⟩ (.cons ⟨_, rfl⟩ (.cons ⟨_, rfl⟩ .nil))))
theorem qja {o : HO} (hok : HOk P w H h) (hb : ObjOk P w (upd H b o) h b o) (n1 : ∀ x, H b ≠ some (.own x)) (n2 : ∀ xs, H b ≠ some (.tup xs)) : HOk P w (upd H b o) h := λ a u e => by
 by_cases ha : a = b
 · subst ha
   rw [upd_same] at e
   cases e
   exact hb
 · rw [upd_ne ha] at e
   refine (hok a u e).stay (λ _ _ _ q => q) (λ p q => ?_) λ p xs q => ?_
   · rw [upd_ne (λ z => n1 a (by rw [<- z]; exact q))]
     exact q
   · rw [upd_ne (λ z => n2 xs (by rw [<- z]; exact q))]
     exact q
theorem qBz {fs : List Addr} {H1' : Hp} {h' : Heap} {o o1 o2 : HO} (hH : H b = some o) (u : Un fs [] (upd H b o1) H1' h h') (hn : ∀ z, H b ≠ some (.tup z)) (hf : ∀ z y, H b ≠ some (.frz z y)) (ht : ∀ z, H b ≠ some (.tbl z)) : Un fs [] H (upd H1' b o2) h h' := by
 have ne : ∀ a, H a = none -> a ≠ b := λ a n e => by rw [e, hH] at n; cases n
 refine ⟨λ a o' q n hb hx => u.keep a o' q (by rw [upd_ne (ne a n)]; exact n) hb hx, λ a o' q n hb hx => u.slot a o' q (by rw [upd_ne (ne a n)]; exact n) hb hx, λ a o' q n hx => ?_, u.there, λ a xs q => ?_, λ a o' y q => ?_, λ a ps q => ?_⟩
 · rw [upd_ne (ne a n)]
   exact u.free a o' q (by rw [upd_ne (ne a n)]; exact n) hx
 · have ab : a ≠ b := λ e => hn xs (by rw [<- e]; exact q)
   rw [upd_ne ab]
   exact u.tups a xs (by rw [upd_ne ab]; exact q)
 · have ab : a ≠ b := λ e => hf o' y (by rw [<- e]; exact q)
   rw [upd_ne ab]
   exact u.frzs a o' y (by rw [upd_ne ab]; exact q)
 · have ab : a ≠ b := λ e => ht ps (by rw [<- e]; exact q)
   rw [upd_ne ab]
   exact u.tbls a ps (by rw [upd_ne ab]; exact q)
def bagD (c : Addr) (ns : List Int) (i g s n : Int) : List D := [.lat c (ns.map D.int), .int i, .int g, .int s, .int n]
def qCq : WpO := λ xs ds Q _ => ∃ (c : Addr) (ns : List Int) (i g s n m : Int), xs = bagD c ns i g s n /\ ds = [.int m] /\ ns.length <= 63 /\ 0 <= i /\ i <= (ns.length : Int) /\ 0 <= g /\ 0 <= s /\ s < 2147483587 /\ 0 < m /\ m < 2 ^ 64 /\
 ∀ i' g' s' n' d, 0 <= i' -> i' <= (ns.length : Int) -> 0 <= g' -> 0 <= s' -> s' < 2147483587 -> 0 <= d -> d < m -> Q (bagD c ns i' g' s' n') (.int d)
def qbb : Wp := λ ds Q _ => match ds with
 | [.bag, .int m] => (0 < m /\ m < 2 ^ 64) /\ ∀ d, 0 <= d -> d < m -> Q (.int d)
 | _ => False
theorem ints_rep : ∀ {ns : List Int}, Reps K H (ns.map D.int) (ns.map V.int)
 | [] => rfl
 | n :: r => ⟨.int n, _, rfl, rfl, ints_rep⟩
theorem ints_vals {H : Hp} : ∀ {ns : List Int} {vs : List V}, Reps K H (ns.map D.int) vs -> vs = ns.map V.int
 | [], vs, h => h
 | n :: r, vs, ⟨v, vr, e, h1, h2⟩ => by
   subst e
   cases (show v = _ from h1)
   rw [ints_vals h2]
   rfl
theorem qzn {k : Nat} {f : Addr} {fd : FuncData} {ps : List Str} (F : FnOk P w K mg base (L2N.CX P w) k f fd ps (SpO K qCq)) (hl : ps.length = 2) : FnOk P w K mg base (L2N.CX P w) k f fd ps (SpW K qbb) := by
 refine ⟨λ vs H Q E hs => ?_, λ A outer s H args us vs Q E hr he hb hv hs => ?_⟩
 · obtain ⟨H0, ds, Qd, Ed, sm, r, hw, _⟩ := hs
   rw [r.length, hl]
   unfold qbb at hw
   split at hw
   · rfl
   · exact hw.elim
 · obtain ⟨H0, ds, Qd, Ed, sm, r, hw, q, X9⟩ := hs
   unfold qbb at hw
   split at hw
   · rename_i m
     obtain ⟨⟨m0, m1⟩, hw⟩ := hw
     obtain ⟨v, u, rfl, ⟨b, rfl, c, ns, hb0, hc0, hn⟩, hu⟩ := qe1 r
     cases (show u = _ from hu)
     have hbH := sm _ _ hb0
     have hcH := sm _ _ hc0
     have hbag : qd7 s.heap b c ns.length := (show ObjOk P w H s.heap b (bagO b c ns.length) from he.hok b _ hbH).1
     obtain ⟨i, g, sd, n, t1, t2, t3, t4, z, eb, i0, i1, g0, s0, s1⟩ := hbag.ex
     have hcb : c ≠ b := λ e => by
       rw [e, hbH] at hcH
       cases hcH
     have no1 : ∀ x, H b ≠ some (.own x) := λ x e => by rw [hbH] at e; exact qsa (Option.some.inj e)
     have no2 : ∀ xs, H b ≠ some (.tup xs) := λ x e => by rw [hbH] at e; exact qBJ (Option.some.inj e)
     have nb : base.get? b = none := by
       cases e : base.get? b with
       | none => rfl
       | some o =>
         rw [(he.bs b o e).2] at hbH
         cases hbH
     have he1 : Env0 P w K mg base A outer s (upd H b (.lst (bagV c i g sd n))) := by
       refine ⟨he.frames, he.mod, λ a o e => ⟨(he.bs a o e).1, ?_⟩, he.bsz, he.funs, λ a ha => ?_, qja he.hok ⟨by show 5 <= sizeLine; decide, _, z, qt9, eb⟩ no1 no2, he.bare⟩
       · rw [upd_ne (λ z => by rw [z, nb] at e; cases e)]
         exact (he.bs a o e).2
       · have := he.frf a ha
         rw [upd_ne (λ z => by rw [z, hbH] at this; cases this)]
         exact this
     have sm1 : Same (wo H0 b) (upd H b (.lst (bagV c i g sd n))) := λ a o e => by
       have ab : a ≠ b := λ z => by rw [z, qcq] at e; cases e
       rw [upd_ne ab]
       rw [qbK ab] at e
       exact sm a o e
     have td1 : TD (wo H0 b) (wo (upd H b (.lst (bagV c i g sd n))) b) := qgc (qyH X9.td wo_sub) λ p => by
       by_cases hp : p = b
       · subst hp
         exact .inr (.inr ⟨_, hbH, qtj⟩)
       · exact .inl (by rw [qbK hp, upd_ne hp])
     refine codeAny_mono (F.run A outer s _ args us _ (λ v H1' => ∃ d i' g' s' n', v = .int d /\ 0 <= d /\ d < m /\ H1' b = some (.lst (bagV c i' g' s' n')) /\ 0 <= i' /\ i' <= (ns.length : Int) /\ 0 <= g' /\ 0 <= s' /\ s' < 2147483587 /\ ∃ H0', Grow (wo H0 b) (wo (upd H b (.lst (bagV c i g sd n))) b) H0' H1' /\ H0' b = none) (λ _ _ _ => False) hr he1 hb hv
       ⟨b, [.int m], bagV c i g sd n, wo H0 b, bagD c ns i g sd n, [.int m], λ xs' d' => ∃ d i' g' s' n', xs' = bagD c ns i' g' s' n' /\ d' = .int d /\ 0 <= d /\ d < m /\ 0 <= i' /\ i' <= (ns.length : Int) /\ 0 <= g' /\ 0 <= s' /\ s' < 2147483587, λ _ => False, rfl, upd_same, qcq, sm1,
         ⟨.ref c, _, rfl, ⟨rfl, _, .inl (.inl (by rw [qbK hcb]; exact hc0)), ints_rep⟩, .int i, _, rfl, rfl, .int g, _, rfl, rfl, .int sd, _, rfl, rfl, .int n, _, rfl, rfl, rfl⟩,
         ⟨.int m, [], rfl, rfl, rfl⟩, ⟨c, ns, i, g, sd, n, m, rfl, rfl, hn, i0, i1, g0, s0, s1, m0, m1, λ i' g' s' n' d a1 a2 a3 a4 a5 a6 a7 => ⟨d, i', g', s', n', rfl, rfl, a6, a7, a1, a2, a3, a4, a5⟩⟩, λ xs' us' d v H0' H' gr n' hq rx rv hQ => ?_, ExRel.none td1⟩) λ r s' hq => ?_
     · obtain ⟨d, i', g', s', n', rfl, rfl, a6, a7, a1, a2, a3, a4, a5⟩ := hQ
       obtain ⟨v1, r1, rfl, ⟨rfl, _⟩, v2, r2, rfl, e2, v3, r3, rfl, e3, v4, r4, rfl, e4, v5, r5, rfl, e5, e6⟩ := rx
       cases (show v2 = _ from e2)
       cases (show v3 = _ from e3)
       cases (show v4 = _ from e4)
       cases (show v5 = _ from e5)
       cases (show r5 = _ from e6)
       cases (show v = _ from rv)
       exact ⟨d, i', g', s', n', rfl, a6, a7, hq, a1, a2, a3, a4, a5, H0', gr, by assumption⟩
     · cases r with
       | error e =>
         obtain ⟨_, _, _, _, _, _, _, _, _, _, _, _, z⟩ := hq
         exact z.elim
       | ok fl =>
         cases fl with
         | ret u =>
           obtain ⟨v, H1', os, bare, un, hok, rv, d, i', g', s2, n', rfl, d0, d1, hb1, a1, a2, a3, a4, a5, H0', gr, n0'⟩ := hq
           obtain ⟨_, its, zn, vals, eits⟩ := (show ObjOk P w H1' s'.heap b (.lst (bagV c i' g' s2 n')) from hok b _ hb1)
           have hbag' : qd7 s'.heap b c ns.length := by
             cases vals with
             | cons q1 p1 => cases p1 with
               | cons q2 p2 => cases p2 with
                 | cons q3 p3 => cases p3 with
                   | cons q4 p4 => cases p4 with
                     | cons q5 p5 =>
                       cases p5
                       obtain ⟨u2, rfl⟩ := q2
                       obtain ⟨u3, rfl⟩ := q3
                       obtain ⟨u4, rfl⟩ := q4
                       obtain ⟨u5, rfl⟩ := q5
                       cases (show _ = Value.ref c from q1)
                       exact ⟨⟨i', g', s2, n', u2, u3, u4, u5, zn, eits, a1, a2, a3, a4, a5⟩⟩
           have hok' : HOk P w (upd H1' b (bagO b c ns.length)) s'.heap := qja hok (qq8 hbag') (λ x e => by rw [hb1] at e; cases e) (λ x e => by rw [hb1] at e; cases e)
           have un' : Un (frs outer) [] H (upd H1' b (bagO b c ns.length)) s.heap s'.heap := qBz hbH un no2 (λ z y e => by rw [hbH] at e; unfold bagO at e; cases e) (λ z e => by rw [hbH] at e; unfold bagO at e; cases e)
           have g2 : Grow H0 H (upd H0' b (bagO b c ns.length)) (upd H1' b (bagO b c ns.length)) := by
             refine ⟨λ a o e => ?_, λ a o e => ?_, qiV gr.g2, λ a ha => ?_, λ _ => qdA (qcn (gr.tb td1) (λ ps z => by unfold bagO at z; cases z)) hb1 qcW⟩
             · by_cases hab : a = b
               · subst hab
                 rw [hb0] at e
                 rw [upd_same]
                 exact e
               · rw [upd_ne hab]
                 exact gr.g0 a o (by rw [qbK hab]; exact e)
             · by_cases hab : a = b
               · subst hab
                 rw [hbH] at e
                 rw [upd_same]
                 exact .inl e
               · rw [upd_ne hab]
                 exact gr.g1 a o (by rw [qbK hab, upd_ne hab]; exact e)
             · by_cases hab : a = b
               · subst hab
                 rw [upd_same, hb0]
               · rw [upd_ne hab, gr.nw a (by rw [qbK hab, upd_ne hab]; exact ha), qbK hab]
           exact ⟨.int d, _, os, bare, un', hok', rv, q (.int d) (.int d) _ _ g2 rfl (hw d d0 d1)⟩
         | next => exact False.elim hq
         | brk => exact False.elim hq
         | cont => exact False.elim hq
   · exact hw.elim
def qto (K : PySem.W.Frag) : Sp := λ vs H Q _ => ∃ (a : Addr) (ns : List Int), vs = [.ref a] /\ SqL K H a (ns.map V.int) /\ ∀ (p c : Addr) (H' : Hp), Same H H' -> H p = none -> H c = none -> H' c = some (.lst ((ns.take 63).map V.int)) -> H' p = some (.lst (bagV c 0 0 10032 0)) -> Q (.ref p) H'
def qeZ : Wp := λ ds Q _ => ∃ ns : List Int, ds = [.lst (ns.map D.int)] /\ Q .bag
theorem qrT {fs : List Addr} {H1' : Hp} {h' : Heap} {o2 : HO} (u : Un fs [] H H1' h h') (hb : H b = none) (hn : ∀ ob, h.get? b ≠ some ob) : Un fs [] H (upd H1' b o2) h h' := by
 refine ⟨u.keep, u.slot, λ a o' q n hx => ?_, u.there, λ a xs q => ?_, λ a o' y q => ?_, λ a ps q => ?_⟩
 · rw [upd_ne (λ e => hn o' (by rw [<- e]; exact q))]
   exact u.free a o' q n hx
 · rw [upd_ne (λ e => by rw [e, hb] at q; cases q)]
   exact u.tups a xs q
 · rw [upd_ne (λ e => by rw [e, hb] at q; cases q)]
   exact u.frzs a o' y q
 · rw [upd_ne (λ e => by rw [e, hb] at q; cases q)]
   exact u.tbls a ps q
theorem qyL {k : Nat} {f : Addr} {fd : FuncData} {ps : List Str} (F : FnOk P w K mg base (L2N.CX P w) k f fd ps (qto K)) (hl : ps.length = 1) : FnOk P w K mg base (L2N.CX P w) k f fd ps (SpW K qeZ) := by
 refine ⟨λ vs H Q E hs => ?_, λ A outer s H args us vs Q E hr he hb hv hs => ?_⟩
 · obtain ⟨H0, ds, Qd, Ed, sm, r, ⟨ns, rfl, _⟩, _⟩ := hs
   rw [r.length, hl]
   rfl
 · obtain ⟨H0, ds, Qd, Ed, sm, r, ⟨ns, rfl, hw⟩, q, _⟩ := hs
   obtain ⟨v, rfl, a, ws, rfl, ha, ra⟩ := one_of r
   cases ints_vals ra
   refine codeAny_mono (F.run A outer s H args us _ (λ v H' => ∃ p c, v = .ref p /\ Same H H' /\ H p = none /\ H c = none /\ H' c = some (.lst ((ns.take 63).map V.int)) /\ H' p = some (.lst (bagV c 0 0 10032 0))) (λ _ _ _ => False) hr he hb hv ⟨a, ns, rfl, sm.seq ha, λ p c H' s1 n1 n2 h1 h2 => ⟨p, c, rfl, s1, n1, n2, h1, h2⟩⟩) λ r s' hq => ?_
   cases r with
   | error e =>
     obtain ⟨_, _, _, _, _, _, _, _, _, _, _, _, z⟩ := hq
     exact z.elim
   | ok fl =>
     cases fl with
     | ret u =>
       obtain ⟨v, H1', os, bare, un, hok, rv, p, c, rfl, s1, np, hcH, hc, hp⟩ := hq
       obtain ⟨_, its, zn, vals, eits⟩ := (show ObjOk P w H1' s'.heap p (.lst (bagV c 0 0 10032 0)) from hok p _ hp)
       have hlen : ((ns.take 63).length : Nat) <= 63 := by rw [List.length_take]; omega
       have hcp : c ≠ p := λ e => by
         rw [e, hp] at hc
         have := Option.some.inj hc
         injection this with this
         have := congrArg List.head? this
         cases hq : (ns.take 63) with
         | nil => rw [hq] at this; cases this
         | cons x r => rw [hq] at this; cases this
       have hbag' : qd7 s'.heap p c (ns.take 63).length := by
         cases vals with
         | cons q1 p1 => cases p1 with
           | cons q2 p2 => cases p2 with
             | cons q3 p3 => cases p3 with
               | cons q4 p4 => cases p4 with
                 | cons q5 p5 =>
                   cases p5
                   obtain ⟨u2, rfl⟩ := q2
                   obtain ⟨u3, rfl⟩ := q3
                   obtain ⟨u4, rfl⟩ := q4
                   obtain ⟨u5, rfl⟩ := q5
                   cases (show _ = Value.ref c from q1)
                   exact ⟨⟨0, 0, 10032, 0, u2, u3, u4, u5, zn, eits, by omega, by omega, by omega, by omega, by omega⟩⟩
       have hok' : HOk P w (upd H1' p (bagO p c (ns.take 63).length)) s'.heap := qja hok (qq8 hbag') (λ x e => by rw [hp] at e; cases e) (λ x e => by rw [hp] at e; cases e)
       -- the new place is not of the old heap, or is not tracked there
       have hH : ∀ o, s.heap.get? p = some o -> H1' p = none := λ o e => un.free p o e np (by simp)
       have hnp : ∀ o, s.heap.get? p ≠ some o := λ o e => by
         have := hH o e
         rw [hp] at this
         cases this
       have n0 : H0 p = none := sm.free np
       have g2 : Grow H0 H (upd (upd H0 c (.lst ((ns.take 63).map V.int))) p (bagO p c (ns.take 63).length)) (upd H1' p (bagO p c (ns.take 63).length)) := by
         have sq : Same H (upd H1' p (bagO p c (ns.take 63).length)) := λ x o e => by
           rw [upd_ne (ne_of_none e np)]
           exact s1 x o e
         refine ⟨(same_upd (sm.free hcH)).trans (same_upd (by rw [upd_ne (λ z => hcp z.symm)]; exact n0)), sq.ext, qiV λ x o e => ?_, λ x hx => ?_, λ t => qb3 (qcn (qcn t) (λ ps z => by unfold bagO at z; cases z)) sq⟩
         · by_cases hx : x = c
           · subst hx
             rw [upd_same] at e
             cases e
             exact hc
           · rw [upd_ne hx] at e
             exact s1 x o (sm x o e)
         · have xp : x ≠ p := λ z => hx (by rw [z]; exact np)
           have xc : x ≠ c := λ z => hx (by rw [z]; exact hcH)
           rw [upd_ne xp, upd_ne xc]
       refine ⟨.ref p, _, os, bare, qrT un np hnp, hok', rv, ?_⟩
       · exact q .bag (.ref p) _ _ g2 ⟨p, rfl, c, ns.take 63, upd_same, by rw [upd_ne hcp, upd_same], hlen⟩ hw
     | next => exact False.elim hq
     | brk => exact False.elim hq
     | cont => exact False.elim hq
end
section
variable {X : Cx} {Ed : DX -> Prop} {E : XK} {K : PySem.W.Frag} {pos p : Pos} {e a b c o e2 tg iter elt : Expr} {te ta tb tc : TE} {de da db dc : DE} {tal : TA} {dal : DA} {es ifs : List Expr} {k : Nat} {x : Str} {tt : TT} {dt : DT} {st : Stmt} {sts : List Stmt} {ts us : TS} {ds dus : DS}
theorem t_eq (hr : Room k X.A) (ha : JE X Ed E a ta da) (hb : JE X Ed E b tb db) : JT X Ed E (.Compare a [.Eq] [b] pos) (tB (tOp (rEqN X.K 150) ta tb)) (dB (dOp dEq da db)) := qdm (qlk (qjR hr)) qlV ha hb (nomark _)
theorem t_ne (hr : Room k X.A) (ha : JE X Ed E a ta da) (hb : JE X Ed E b tb db) : JT X Ed E (.Compare a [.NotEq] [b] pos) (tB (tOp (rNeN X.K 150) ta tb)) (dB (dOp dNe da db)) := qdm (qtf (qjR hr)) qwk ha hb (nomark _)
theorem t_lt (ha : JE X Ed E a ta da) (hb : JE X Ed E b tb db) : JT X Ed E (.Compare a [.Lt] [b] pos) (tB (tOp (rI0 λ i j => .bl (decide (i < j))) ta tb)) (dB (dOp dLt da db)) := qdm op_lt (s_I0 λ _ _ _ => rfl) ha hb (nomark _)
theorem t_gt (ha : JE X Ed E a ta da) (hb : JE X Ed E b tb db) : JT X Ed E (.Compare a [.Gt] [b] pos) (tB (tOp (rI0 λ i j => .bl (decide (j < i))) ta tb)) (dB (dOp dGt da db)) := qdm op_gt (s_I0 λ _ _ _ => rfl) ha hb (nomark _)
theorem t_ge (ha : JE X Ed E a ta da) (hb : JE X Ed E b tb db) : JT X Ed E (.Compare a [.GtE] [b] pos) (tB (tOp (rI0 λ i j => .bl (decide (j <= i))) ta tb)) (dB (dOp dGe da db)) := qdm op_ge (s_I0 λ _ _ _ => rfl) ha hb (nomark _)
def qcJ : D -> Bool
 | .non => true
 | _ => false
def dIsN (da : DE) (ρ : Rho) (Q : D -> Prop) : Prop := da ρ λ x => Q (.bl (qcJ x))
def qqX (da : DE) (ρ : Rho) (Q : D -> Prop) : Prop := da ρ λ x => Q (.bl (!qcJ x))
theorem qy6 {H : Hp} {d : D} {v : V} (r : Rep K H d v) : decide (v = .non) = qcJ d := by
 cases d with
 | non => cases (show v = _ from r); rfl
 | bl b => cases (show v = _ from r); rfl
 | int b => cases (show v = _ from r); rfl
 | str b => cases (show v = _ from r); rfl
 | ty b => cases (show v = _ from r); rfl
 | cls b => cases (show v = _ from r); rfl
 | tup xs => obtain ⟨l, vs, rfl, _⟩ := r; rfl
 | lst xs => obtain ⟨l, vs, rfl, _⟩ := r; rfl
 | ins C fs => obtain ⟨l, dx, vs, rfl, _⟩ := r; rfl
 | bag => obtain ⟨l, rfl, _⟩ := r; rfl
 | lat c xs => obtain ⟨rfl, _⟩ := r; rfl
 | dk _ => obtain ⟨l, vs, rfl, _⟩ := r; rfl
 | dt _ _ => obtain ⟨l, vs, rfl, _⟩ := r; rfl
theorem qkt (h : SimE K Ed E ta da) : SimE K Ed E (tIsN ta) (dIsN da) := λ B0 B1 A H0 H σ ρ R X Qd hd Q q => h B0 B1 A H0 H σ ρ R X _ hd _ λ x v H1 H2 R1 g1 r1 k => by
 rw [qy6 r1]
 exact q (.bl _) _ H1 H2 R1 g1 rfl k
theorem qpb {j : Nat} {p2 : Pos} (ha : JE X Ed E a ta da) : JE X Ed E (.Compare a [.Is] [.Constant .none j p2] pos) (tIsN ta) (dIsN da) := ⟨pe_cmp (pc_isN ha.pe) rfl, qkt ha.sim⟩
theorem qpp {j : Nat} {p2 : Pos} (ha : JE X Ed E a ta da) : JT X Ed E (.Compare a [.Is] [.Constant .none j p2] pos) (tB (tIsN ta)) (dB (dIsN da)) := ⟨pt_cmp (pc_isN ha.pe) rfl, qfE (qkt ha.sim)⟩
theorem qlo {r r' : R2} {rd rd' : D -> D -> (D -> Prop) -> Prop} (s1 : qa0 K r rd) (s2 : qa0 K r' rd') (ha : SimE K Ed E ta da) (hb : SimE K Ed E tb db) (hc : SimE K Ed E tc dc) (hbl : ∀ x y Q, rd x y Q -> rd x y λ z => Q z /\ ∃ k, z = .bl k) : SimE K Ed E (tChain r r' ta tb tc) (qcp rd rd' da db dc) := λ B0 B1 A H0 H σ ρ R X Qd h Q q =>
 ha B0 B1 A H0 H σ ρ R X _ h _ λ x v H1 H2 R1 g1 r1 h1 => hb B0 B1 A H1 H2 σ ρ R1 X _ h1 _ λ y u H3 H4 R2 g2 r2 h2 => s1 H3 H4 v u x y R2.ex (Rep.mono g2.g0 _ _ r1) r2 _ h2 _ λ z w H5 H6 g3 r3 h3 => by
   have R3 := R2.grow g3
   split at h3
   · cases (show w = _ from r3)
     exact ⟨true, rfl, hc B0 B1 A H5 H6 σ ρ R3 X _ h3 _ λ t m H7 H8 R4 g4 r4 h4 => s2 H7 H8 u m y t R4.ex (Rep.mono g4.g0 _ _ (Rep.mono g3.g0 _ _ r2)) r4 _ h4 _ λ z2 w2 H9 H10 g5 r5 h5 => q z2 w2 H9 H10 (R4.grow g5) ((((g1.trans g2).trans g3).trans g4).trans g5) r5 h5⟩
   · cases (show w = _ from r3)
     exact ⟨false, rfl, q (.bl false) _ H5 H6 R3 ((g1.trans g2).trans g3) rfl h3⟩
   · exact h3.elim
theorem qso {g : Int -> Int -> Bool} : ∀ x y Q, dI0 (λ i j => .bl (g i j)) x y Q -> dI0 (λ i j => .bl (g i j)) x y λ z => Q z /\ ∃ k, z = .bl k := λ x y Q h => by
 unfold dI0 at h ⊢
 split at h
 · exact ⟨h, _, rfl⟩
 · exact h.elim
theorem qzr (ha : JE X Ed E a ta da) (hb : JE X Ed E b tb db) (hc : JE X Ed E c tc dc) (hp : PT X (.Compare a [.LtE, .LtE] [b, c] pos) (tB (tChain (rI0 λ i j => .bl (decide (i <= j))) (rI0 λ i j => .bl (decide (i <= j))) ta tb tc))) : JT X Ed E (.Compare a [.LtE, .LtE] [b, c] pos) (tB (tChain (rI0 λ i j => .bl (decide (i <= j))) (rI0 λ i j => .bl (decide (i <= j))) ta tb tc)) (dB (qcp (dI0 λ i j => .bl (decide (i <= j))) (dI0 λ i j => .bl (decide (i <= j))) da db dc)) :=
 ⟨hp, qfE (qlo (s_I0 λ _ _ _ => rfl) (s_I0 λ _ _ _ => rfl) ha.sim hb.sim hc.sim qso)⟩
end
theorem b_ty {X : Cx} {Ed : DX -> Prop} {E : XK} {pos : Pos} (n : String) {x : Str} (hm : X.mg x = none) (hv : bootBuiltins x = some (.type n) := by decide +kernel) (hg : Gl X x := by rfl) (hn : x ≠ "__name__" := by decide) (hd : (x == ("__debug__" : Str)) = false := by decide) : JE X Ed E (.Name x pos) (tC (.ty n)) (dC (.ty n)) := qvc hg hm hv rfl (λ _ => rfl) hn hd
section
variable {X : Cx} {Ed : DX -> Prop} {E : XK} {K : PySem.W.Frag} {pos : Pos} {x : Str}
theorem qd4 {i : Int} (h : ∃ t, X.mg x = some (.int i t)) (hg : Gl X x := by rfl) (hd : (x == ("__debug__" : Str)) = false := by decide) : JE X Ed E (.Name x pos) (tC (.int i)) (dC (.int i)) := by
 obtain ⟨t, h⟩ := h
 exact qic hg h ⟨t, rfl⟩ (λ _ => rfl) hd
end
section
variable {P : Program} {w : World} {K : PySem.W.Frag} {mg : Str -> Option Value} {base : Heap}
theorem qax {x qual : Str} {st : Stmt} {f : Addr} {fd : FuncData} {ps : List Str} {k : Nat} {wp : Wp} (F : FunX K x qual st f fd) (g : mg x = some (.ref f)) (O : FnOk P w K mg base (L2N.CX P w) k f fd ps (SpW K wp)) (b : Binds K fd ps []) : Callee P w K mg base x k wp [] [] :=
 ⟨f, fd, ps, [], g, F.kp, O, b, .nil, λ _ => rfl⟩
theorem qzK {x : Str} {C f : Addr} {fd : FuncData} {ps : List Str} {k : Nat} {wp : WpI} (g : mg x = some (.ref C)) (M : Mk K C f) (O : FnOk P w K mg base (L2N.CX P w) k f fd ps (SpI K C wp)) (b : Binds K fd ps []) : Maker P w K mg base x C k wp [] [] :=
 ⟨f, fd, ps, [], g, M, O, b, .nil, λ _ => rfl⟩
end
def qfD : Wp := λ ds Q _ => ∃ ns : List Int, ds = [.lst (ns.map D.int)] /\ ns.length <= 63 /\ Q (.bl true)
theorem qBH {K : PySem.W.Frag} {H : Hp} {a : Addr} {ns : List Int} (hl : ns.length <= 63) (hS : SqL K H a (ns.map V.int)) (hT : LamX.Tabs TbC.T H) : SpW K qfD [.ref a] H (λ v _ => v = .bl true) λ _ _ _ => False := by
 have h0 : ∃ H0 : Hp, Same H0 H /\ SqL K H0 a (ns.map V.int) /\ ∀ p ps, H0 p ≠ some (.tbl ps) := by
   rcases hS with (h | ⟨o, h⟩) | h
   · refine ⟨upd (λ _ => none) a (.lst (ns.map V.int)), λ b o e => ?_, .inl (.inl upd_same), λ p ps e => ?_⟩
     · by_cases hb : b = a
       · subst hb
         rw [upd_same] at e
         rw [h, e]
       · rw [upd_ne hb] at e
         cases e
     · by_cases hb : p = a
       · subst hb
         rw [upd_same] at e
         cases e
       · rw [upd_ne hb] at e
         cases e
   · refine ⟨upd (λ _ => none) a (.frz o (.lst (ns.map V.int))), λ b o e => ?_, .inl (.inr ⟨o, upd_same⟩), λ p ps e => ?_⟩
     · by_cases hb : b = a
       · subst hb
         rw [upd_same] at e
         rw [h, e]
       · rw [upd_ne hb] at e
         cases e
     · by_cases hb : p = a
       · subst hb
         rw [upd_same] at e
         cases e
       · rw [upd_ne hb] at e
         cases e
   · exact ⟨λ _ => none, (λ b o e => nomatch e), .inr h, (λ p ps e => nomatch e)⟩
 obtain ⟨H0, s0, hS0, n0⟩ := h0
 exact ⟨H0, [.lst (ns.map D.int)], λ d => d = .bl true, λ _ => False, s0, ⟨.ref a, [], rfl, ⟨a, _, rfl, hS0, ints_rep⟩, rfl⟩, ⟨ns, rfl, hl, rfl⟩, λ d v H0' H' g r h => by
   subst h
   exact r, ExRel.none ⟨n0, hT⟩⟩
abbrev noTb : TbC := ⟨[]⟩
theorem qv0 {P : Program} {w : World} (H : Hp) (s : Shared) (e : Value) (s' : Shared) (h : L2N.CX P w [] H s (λ _ _ _ => False) e s') : False := by
 obtain ⟨_, _, _, _, _, _, _, _, _, _, _, _, z⟩ := h
 exact z
theorem qkH : kitB "NoneType" "int" = some false := by decide +kernel
theorem qrC : kitB "NoneType" "bool" = some false := by decide +kernel
theorem qme : kitB "NoneType" "str" = some false := by decide +kernel
theorem qp6 : kitB "NoneType" "list" = some false := by decide +kernel
theorem ql9 : kitB "NoneType" "tuple" = some false := by decide +kernel
theorem qo6 : kitB "bool" "int" = some true := by decide +kernel
theorem qns : kitB "bool" "bool" = some true := by decide +kernel
theorem qmC : kitB "bool" "str" = some false := by decide +kernel
theorem qqy : kitB "bool" "list" = some false := by decide +kernel
theorem qqv : kitB "bool" "tuple" = some false := by decide +kernel
theorem qqW : kitB "int" "int" = some true := by decide +kernel
theorem qmZ : kitB "int" "bool" = some false := by decide +kernel
theorem qo7 : kitB "int" "str" = some false := by decide +kernel
theorem qlY : kitB "int" "list" = some false := by decide +kernel
theorem qmW : kitB "int" "tuple" = some false := by decide +kernel
theorem qqi : kitB "str" "int" = some false := by decide +kernel
theorem qk1 : kitB "str" "bool" = some false := by decide +kernel
theorem qlO : kitB "str" "str" = some true := by decide +kernel
theorem qn3 : kitB "str" "list" = some false := by decide +kernel
theorem qm1 : kitB "str" "tuple" = some false := by decide +kernel
theorem qof : kitB "tuple" "int" = some false := by decide +kernel
theorem qoW : kitB "tuple" "bool" = some false := by decide +kernel
theorem qlJ : kitB "tuple" "str" = some false := by decide +kernel
theorem qov : kitB "tuple" "list" = some false := by decide +kernel
theorem qk5 : kitB "tuple" "tuple" = some true := by decide +kernel
theorem ql4 : kitB "list" "int" = some false := by decide +kernel
theorem qnM : kitB "list" "bool" = some false := by decide +kernel
theorem qnQ : kitB "list" "str" = some false := by decide +kernel
theorem qoN : kitB "list" "list" = some true := by decide +kernel
theorem qkA : kitB "list" "tuple" = some false := by decide +kernel
mutual
def qaU : D -> D -> Bool
 | .non, .non => true
 | .bl a, .bl b => a == b
 | .int i, .int j => i == j
 | .str x, .str y => x == y
 | .tup xs, .tup ys => qbV xs ys
 | .lst xs, .lst ys => qbV xs ys
 | _, _ => false
def qbV : List D -> List D -> Bool
 | [], [] => true
 | x :: xs, y :: ys => qaU x y && qbV xs ys
 | _, _ => false
end
mutual
theorem qo4 : ∀ (n : Nat) (x : D), x.isData n = true -> qaU x x = true
 | _, .non, _ => rfl
 | _, .bl b, _ => by simp [qaU]
 | _, .int _, _ => by simp [qaU]
 | _, .str _, _ => by simp [qaU]
 | n + 1, .tup xs, h => qjQ n xs h
 | n + 1, .lst xs, h => qjQ n xs h
 | 0, .tup xs, h => by simp [D.isData] at h
 | 0, .lst xs, h => by simp [D.isData] at h
 | n, .ty _, h => by simp [D.isData] at h
 | n, .cls _, h => by simp [D.isData] at h
 | n, .ins _ _, h => by simp [D.isData] at h
 | n, .bag, h => by simp [D.isData] at h
 | n, .lat _ _, h => by simp [D.isData] at h
 | n, .dk _, h => by simp [D.isData] at h
 | n, .dt _ _, h => by simp [D.isData] at h
theorem qjQ : ∀ (n : Nat) (xs : List D), qah n xs = true -> qbV xs xs = true
 | _, [], _ => rfl
 | n, x :: xs, h => by
   obtain ⟨h1, h2⟩ := Bool.and_eq_true_iff.mp (show (x.isData n && qah n xs) = true from h)
   show (qaU x x && qbV xs xs) = true
   rw [qo4 n x h1, qjQ n xs h2]
   rfl
end
theorem qqO {g : DG} {te : DE} {f : D -> D} {ρ : Rho} {Q : D -> Prop} : ∀ {xs acc : List D}, (∀ x ∈ xs, ∀ Q' : D -> Prop, Q' (f x) -> g x ρ λ ρ' => te ρ' Q') -> (∀ x ρ (P P' : Rho -> Prop), (∀ ρ', P ρ' -> P' ρ') -> g x ρ P -> g x ρ P') -> acc.length + xs.length <= 100000 -> Q (.lst (acc ++ xs.map f)) -> qaG g dTs1 te xs acc ρ Q
 | [], acc, _, _, _, q => by
   rw [List.map_nil, List.append_nil] at q
   exact q
 | x :: xs, acc, h, hm, hl, q => by
   have hl' : acc.length + (xs.length + 1) <= 100000 := hl
   refine hm x ρ _ _ (λ ρ' k => k) (h x List.mem_cons_self _ ⟨by omega, ?_⟩)
   refine qqO (λ y hy => h y (List.mem_cons_of_mem _ hy)) hm (by rw [List.length_append, List.length_singleton]; omega) ?_
   rw [List.append_assoc]
   exact q
theorem qgt : ∀ bs : List Bool, bools (bs.map D.bl) = some bs
 | [] => rfl
 | b :: bs => by
   show (bools (bs.map D.bl)).map (b :: ·) = _
   rw [qgt bs]
   rfl
theorem qp0 {i : Nat} : ∀ (x : D) (ρ : Rho) (P P' : Rho -> Prop), (∀ ρ', P ρ' -> P' ρ') -> dName i x ρ P -> dName i x ρ P' := λ x ρ P P' h q => h _ q
theorem qAu : ∀ (xs : List D) (ρ : Rho) (P P' : Rho -> Prop), (∀ ρ', P ρ' -> P' ρ') -> qbU xs ρ P -> qbU xs ρ P' := λ xs ρ P P' h q => by
 cases xs with
 | nil => exact h _ q
 | cons _ _ => exact q
theorem qp9 {g : DG} {gs : DGs} (h1 : ∀ (x : D) (ρ : Rho) (P P' : Rho -> Prop), (∀ ρ', P ρ' -> P' ρ') -> g x ρ P -> g x ρ P') (h2 : ∀ (xs : List D) (ρ : Rho) (P P' : Rho -> Prop), (∀ ρ', P ρ' -> P' ρ') -> gs xs ρ P -> gs xs ρ P') :
   ∀ (xs : List D) (ρ : Rho) (P P' : Rho -> Prop), (∀ ρ', P ρ' -> P' ρ') -> qbS g gs xs ρ P -> qbS g gs xs ρ P' := λ xs ρ P P' h q => by
 cases xs with
 | nil => exact q
 | cons x r => exact h1 x ρ _ _ (λ ρ' k => h2 r ρ' P P' h k) q
theorem qvr {gs : DGs} (h2 : ∀ (xs : List D) (ρ : Rho) (P P' : Rho -> Prop), (∀ ρ', P ρ' -> P' ρ') -> gs xs ρ P -> gs xs ρ P') : ∀ (x : D) (ρ : Rho) (P P' : Rho -> Prop), (∀ ρ', P ρ' -> P' ρ') -> qco gs x ρ P -> qco gs x ρ P' := λ x ρ P P' h q => by
 cases x with
 | tup xs => exact h2 xs ρ P P' h q
 | _ => exact q
def qfl : D -> D
 | .tup [a, b] => .bl (qaU a b)
 | _ => .non
theorem qlb : ∀ {xs ys : List D}, xs.length = ys.length -> ∃ bs : List Bool, (zipD xs ys).map qfl = bs.map D.bl /\ bs.all id = qbV xs ys
 | [], [], _ => ⟨[], rfl, rfl⟩
 | [], _ :: _, h => by cases h
 | _ :: _, [], h => by cases h
 | x :: xs, y :: ys, h => by
   obtain ⟨bs, e1, e2⟩ := qlb (xs := xs) (ys := ys) (Nat.succ.inj h)
   refine ⟨qaU x y :: bs, ?_, ?_⟩
   · show qfl (.tup [x, y]) :: (zipD xs ys).map qfl = _
     rw [e1]
     rfl
   · rw [List.all_cons, e2]
     rfl
theorem qhO : ∀ {xs ys : List D}, xs.length ≠ ys.length -> qbV xs ys = false
 | [], [], h => absurd rfl h
 | [], _ :: _, _ => rfl
 | _ :: _, [], _ => rfl
 | x :: xs, y :: ys, h => by
   show (qaU x y && qbV xs ys) = false
   rw [qhO (xs := xs) (ys := ys) (λ e => h (congrArg (· + 1) e)), Bool.and_false]
theorem qkT : ∀ {xs ys : List D} {p : D}, p ∈ zipD xs ys -> ∃ a b, p = .tup [a, b] /\ a ∈ xs /\ b ∈ ys
 | [], _, p, h => by simp [zipD] at h
 | _ :: _, [], p, h => by simp [zipD] at h
 | x :: xs, y :: ys, p, h => by
   rcases List.mem_cons.mp h with e | h
   · exact ⟨x, y, e, List.mem_cons_self, List.mem_cons_self⟩
   · obtain ⟨a, b, e, h1, h2⟩ := qkT h
     exact ⟨a, b, e, List.mem_cons_of_mem _ h1, List.mem_cons_of_mem _ h2⟩
theorem qef : ∀ {n : Nat} {xs : List D} {x : D}, qah n xs = true -> x ∈ xs -> x.isData n = true
 | n, y :: ys, x, h, hx => by
   obtain ⟨h1, h2⟩ := Bool.and_eq_true_iff.mp (show (y.isData n && qah n ys) = true from h)
   rcases List.mem_cons.mp hx with e | hx
   · rw [e]
     exact h1
   · exact qef h2 hx
theorem qnZ : ∀ {xs ys : List D}, (zipD xs ys).length <= xs.length
 | [], _ => by simp [zipD]
 | _ :: _, [] => by simp [zipD]
 | x :: xs, y :: ys => Nat.succ_le_succ qnZ
mutual
theorem qjx : ∀ (n : Nat) (x : D), x.isData n = true -> x.isData (n + 1) = true
 | _, .non, _ => rfl
 | _, .bl _, _ => rfl
 | _, .int _, _ => rfl
 | _, .str _, _ => rfl
 | n + 1, .tup xs, h => qfh n xs h
 | n + 1, .lst xs, h => qfh n xs h
 | 0, .tup _, h => by simp [D.isData] at h
 | 0, .lst _, h => by simp [D.isData] at h
 | n, .ty _, h => by simp [D.isData] at h
 | n, .cls _, h => by simp [D.isData] at h
 | n, .ins _ _, h => by simp [D.isData] at h
 | n, .bag, h => by simp [D.isData] at h
 | n, .lat _ _, h => by simp [D.isData] at h
 | n, .dk _, h => by simp [D.isData] at h
 | n, .dt _ _, h => by simp [D.isData] at h
theorem qfh : ∀ (n : Nat) (xs : List D), qah n xs = true -> qah (n + 1) xs = true
 | _, [], _ => rfl
 | n, x :: xs, h => by
   obtain ⟨h1, h2⟩ := Bool.and_eq_true_iff.mp (show (x.isData n && qah n xs) = true from h)
   exact Bool.and_eq_true_iff.mpr ⟨qjx n x h1, qfh n xs h2⟩
end
theorem qiK {n m : Nat} {x : D} (h : x.isData n = true) (hm : n <= m) : x.isData m = true := by
 induction hm with
 | refl => exact h
 | step _ ih => exact qjx _ _ ih
theorem qr3 {n m : Nat} {x : List D} (h : qah n x = true) (hm : n <= m) : qah m x = true := by
 induction hm with
 | refl => exact h
 | step _ ih => exact qfh _ _ ih
mutual
def D.few : D -> Bool
 | .tup xs => decide (xs.length <= 90000) && qbC xs
 | .lst xs => decide (xs.length <= 90000) && qbC xs
 | _ => true
def qbC : List D -> Bool
 | [] => true
 | x :: xs => x.few && qbC xs
end
theorem qqE : ∀ {xs : List D} {x : D}, qbC xs = true -> x ∈ xs -> x.few = true
 | y :: ys, x, h, hx => by
   obtain ⟨h1, h2⟩ := Bool.and_eq_true_iff.mp (show (y.few && qbC ys) = true from h)
   rcases List.mem_cons.mp hx with e | hx
   · rw [e]
     exact h1
   · exact qqE h2 hx
def qbl (n : Nat) (ds : List D) (Q : D -> Prop) (Ed : DX -> Prop) : Prop := match ds with
 | [x, y] => x.isData n = true /\ y.isData n = true /\ x.few = true /\ Q (.bl (qaU x y))
 | _ => False
def wpNo (ds : List D) (Q : D -> Prop) (Ed : DX -> Prop) : Prop := False
theorem quj {P : Program} {w : World} {K : PySem.W.Frag} {mg : Str -> Option Value} {base : Heap} {x qual : Str} {st : Stmt} {f : Addr} {fd : FuncData} {ps : List Str} {k : Nat} (F : FunX K x qual st f fd) (g : mg x = some (.ref f)) (b : Binds K fd ps []) : Callee P w K mg base x k wpNo [] [] :=
 qax F g ⟨λ vs H Q E h => by
   obtain ⟨_, _, _, _, _, _, h, _⟩ := h
   exact False.elim h, λ A outer s H args us vs Q E hr he hb hv h => by
   obtain ⟨_, _, _, _, _, _, h, _⟩ := h
   exact False.elim h⟩ b
section
theorem qav {t u : DS} {d : qao} {ρ : Rho} (ρ' : Rho) (h1 : ∀ N : Rho -> Prop, N ρ' -> t { nx := N, rt := d.rt, bk := d.bk, ct := d.ct } ρ) (h2 : u d ρ') : dSeq t u d ρ := h1 (u d) h2
theorem qaJ {t u : DS} {d : qao} {ρ : Rho} (R : Rho -> Prop) (h1 : ∀ N : Rho -> Prop, (∀ ρ', R ρ' -> N ρ') -> t { nx := N, rt := d.rt, bk := d.bk, ct := d.ct } ρ) (h2 : ∀ ρ', R ρ' -> u d ρ') : dSeq t u d ρ := h1 (u d) h2
theorem qbx {di : DI} {g : DG} {tb : DS} {d : qao} {ρ : Rho} (xs : List D) (h1 : ∀ N : List D -> Prop, N xs -> di ρ N) (h2 : qbN g tb d xs ρ) : dFor di g tb d ρ := h1 _ h2
theorem qbJ {X : Cx} : Passes (L2N.CX X.prog X.w) X E0 := λ _ _ _ _ _ _ _ h => by
 obtain ⟨_, _, _, _, _, _, _, _, _, _, _, _, z⟩ := h
 exact z.elim
theorem qaE {X : Cx} {Ed : DX -> Prop} {E : XK} {e : Expr} {te te' : TE} {de : DE} (h : JE X Ed E e te' de) (q : te' = te) : JE X Ed E e te de := q ▸ h
theorem qaH {X : Cx} {Ed : DX -> Prop} {E : XK} {e : List Expr} {te te' : TT} {de : DT} (h : JTs X Ed E e te' de) (q : te' = te) : JTs X Ed E e te de := q ▸ h
theorem qrs {wpc : Wp} {m : Nat} {xs ys : List D} {Qd : D -> Prop} {u v : Option SV} (hc : wpc = qbl m) (hx : qah m xs = true) (hy : qah m ys = true) (hn : xs.length <= 90000) (hf : qbC xs = true) (hl : xs.length = ys.length) (hq : Qd (.bl (qbV xs ys))) :
   qaG (qco (qbS (dName 2) (qbS (dName 3) qbU))) dTs1 (dCall wpc (λ _ => False) (qbD (dVar 2) (qbD (dVar 3) dNil))) (zipD xs ys) [] [u, v, none, none] λ x => qde [x] Qd := by
 subst hc
 refine qqO (f := qfl) (λ p hp Q' q => ?_) (qvr (qp9 qp0 (qp9 qp0 qAu))) ?_ ?_
 · obtain ⟨a, b, rfl, ha, hb⟩ := qkT hp
   exact ⟨qef hx ha, qef hy hb, qqE hf ha, q⟩
 · have := qnZ (xs := xs) (ys := ys)
   simp only [List.length_nil]
   omega
 · obtain ⟨bs, e1, e2⟩ := qlb hl
   rw [List.nil_append, e1]
   show onS (bools (bs.map D.bl)) λ bs => Qd (.bl (bs.all id))
   rw [qgt]
   show Qd (.bl (bs.all id))
   rw [e2]
   exact hq
theorem if_n {c : Prop} {i : Decidable c} {a b : Prop} (h : ¬c) (hb : b) : @ite Prop c i a b := (if_neg h).symm ▸ hb
theorem if_y {c : Prop} {i : Decidable c} {a b : Prop} (h : c) (hb : a) : @ite Prop c i a b := (if_pos h).symm ▸ hb
theorem if_c {c : Prop} {i : Decidable c} {a b : Prop} (h1 : c -> a) (h2 : ¬c -> b) : @ite Prop c i a b := by
 split
 · exact h1 ‹_›
 · exact h2 ‹_›
theorem qi0 {α : Type} {a : α} {l : List α} : atI (a :: l) 0 = some a := atI_nat (j := 0) rfl
theorem qnv {α : Type} {a b : α} {l : List α} : atI (a :: b :: l) 1 = some b := atI_nat (j := 1) rfl
theorem qmi {α : Type} {a b c : α} {l : List α} : atI (a :: b :: c :: l) 2 = some c := atI_nat (j := 2) rfl
theorem qps {α : Type} {a b c d : α} {l : List α} : atI (a :: b :: c :: d :: l) 3 = some d := atI_nat (j := 3) rfl
theorem qky {α : Type} {a b c d e : α} {l : List α} : atI (a :: b :: c :: d :: e :: l) 4 = some e := atI_nat (j := 4) rfl
theorem qoz {α : Type} {a b c d e f : α} {l : List α} : atI (a :: b :: c :: d :: e :: f :: l) 5 = some f := atI_nat (j := 5) rfl
theorem qoA {α : Type} {a b c d e f g : α} {l : List α} : atI (a :: b :: c :: d :: e :: f :: g :: l) 6 = some g := atI_nat (j := 6) rfl
theorem qrl {α : Type} {a b c d e f g h : α} {l : List α} : atI (a :: b :: c :: d :: e :: f :: g :: h :: l) 7 = some h := atI_nat (j := 7) rfl
theorem qoX : ixN 1 0 = some 0 := rfl
theorem qkI : ixN 2 0 = some 0 := rfl
theorem qnD : ixN 2 1 = some 1 := rfl
theorem qku : ixN 3 0 = some 0 := rfl
theorem qoF : ixN 3 1 = some 1 := rfl
theorem qnz : ixN 3 2 = some 2 := rfl
theorem qkm : ixN 4 0 = some 0 := rfl
theorem qlW : ixN 4 1 = some 1 := rfl
theorem qms : ixN 4 2 = some 2 := rfl
theorem qnK : ixN 4 3 = some 3 := rfl
theorem qq2 : ixN 5 0 = some 0 := rfl
theorem qkx : ixN 5 1 = some 1 := rfl
theorem qkD : ixN 5 2 = some 2 := rfl
theorem qpf : ixN 5 3 = some 3 := rfl
theorem qrF : ixN 5 4 = some 4 := rfl
theorem qok : ixN 6 0 = some 0 := rfl
theorem qpm : ixN 6 1 = some 1 := rfl
theorem qlE : ixN 6 2 = some 2 := rfl
theorem qqR : ixN 6 3 = some 3 := rfl
theorem qrn : ixN 6 4 = some 4 := rfl
theorem qqM : ixN 6 5 = some 5 := rfl
theorem qz7 {α : Type} {ns : List Int} {f : Int -> α} {i : Int} (h0 : 0 <= i) (h1 : i < (ns.length : Int)) : ∃ v, atI (ns.map f) i = some (f v) := by
 obtain ⟨j, rfl⟩ := Int.eq_ofNat_of_zero_le h0
 have h : j < ns.length := by omega
 exact ⟨ns[j], atI_nat (by rw [List.getElem?_map, List.getElem?_eq_getElem h]; rfl)⟩
theorem qq9 {i m : Int} (h0 : 0 < m) (h1 : m < 2 ^ 64) : CDivW i m :=
 ⟨h0, Nat.lt_trans ((Nat.log2_lt (by omega)).mpr (show m.natAbs < 2 ^ 64 by omega)) (by decide)⟩
end
section
variable {X : Cx} {Ed : DX -> Prop} {E : XK} {K : PySem.W.Frag} {pos : Pos} {a b : Expr} {ta tb : TE} {da db : DE} {k : Nat} {C : Addr} {wp : Wp}
def dOwn (C : Addr) (wp : Wp) (Ed : DX -> Prop) (da db : DE) (ρ : Rho) (Q : D -> Prop) : Prop := da ρ λ x => db ρ λ y => match x, y with
 | .ins C1 f1, .ins C2 f2 => C1 = C /\ C2 = C /\ wp [.ins C1 f1, .ins C2 f2] Q Ed
 | _, _ => False
def qm7 (C : Addr) (wp : Wp) (da : DE) (ρ : Rho) (Q : D -> Prop) : Prop := da ρ λ o => match o with
 | .ins C1 fs => C1 = C /\ wp [.ins C1 fs] Q (λ _ => False)
 | _ => False
end
section
variable {X : Cx} {Ed : DX -> Prop} {E : XK} {K : PySem.W.Frag} {pos p apos : Pos} {a b e o : Expr} {es : List Expr} {ta to : TE} {da dob : DE} {tal : TA} {dal : DA} {C : Addr}
theorem qo8 {x : Str} (h : X.mg x = some (.ref C)) (hg : Gl X x := by rfl) (hd : (x == ("__debug__" : Str)) = false := by decide) : JE X Ed E (.Name x pos) (tC (.ref C)) (dC (.cls C)) := qic hg h rfl (λ _ => rfl) hd
def qf8 (C : Addr) (ds : List D) (Q : D -> Prop) : Prop := match ds with
 | [.ins C1 _, .cls C2] => C1 = C /\ C2 = C /\ Q (.bl true)
 | _ => False
def dBM (r : D -> List D -> (D -> Prop) -> Prop) (da : DE) (dal : DA) (ρ : Rho) (Q : D -> Prop) : Prop := da ρ λ x => (∃ xs, x = .lst xs) /\ dal ρ λ ys => r x ys Q
theorem qn8 {A : Around} {k : Nat} (hr : Room k A) : A.units + 65 < cLine := by
 have := hr.un
 omega
end
section
variable {X : Cx} {Ed : DX -> Prop} {E : XK} {K : PySem.W.Frag} {pos apos : Pos} {o e : Expr} {es : List Expr} {to : TE} {dob : DE} {tal : TA} {dal : DA} {k : Nat} {C : Addr} {wp : Wp} {m : Str} {pl : Sem Bool}
theorem qne {P : Program} {w : World} {mg : Str -> Option Value} {base : Heap} {f : Addr} {fd : FuncData} {ps : List Str} {sp : Sp} {dvs : List V} {ds : List Value} (F : FnOk P w K mg base (L2N.CX P w) k f fd ps sp) (hb : Binds K fd ps ds) (hd : Vals dvs ds) : FnR P w K mg base (L2N.CX P w) k f (λ vs H Q E => sp (vs ++ dvs) H Q E) := λ A outer s H us vs Q E hr e0 r h => by
 have hl : (us ++ ds).length = ps.length := by rw [<- (r.append hd).length]; exact F.len _ _ _ _ h
 exact F.run A outer s H ⟨us, []⟩ (us ++ ds) (vs ++ dvs) Q E hr e0 (hb s us (e0.mod.kin.keeps λ b o e => (e0.bs b o e).1) hl) (r.append hd) h
structure CMt (P : Program) (w : World) (K : PySem.W.Frag) (mg : Str -> Option Value) (base : Heap) (C : Addr) (m : Str) (k : Nat) (wp : Wp) (dvs : List V) (dd : List D) : Prop where
 ex : ∃ (mc : Value) (p g : Addr) (fd : FuncData) (ps : List Str) (ds : List Value), ClX.CRead K C mc /\ ClX.CMet K C mc m p g /\ FnOk P w K mg base (L2N.CX P w) k g fd ps (SpW K wp) /\ Binds K fd ps ds /\ Vals dvs ds /\ ∀ H, Reps K H dd dvs
def dSt (C : Addr) (wp : Wp) (Ed : DX -> Prop) (dob : DE) (dal : DA) (ρ : Rho) (Q : D -> Prop) : Prop := dob ρ λ x => x = .cls C /\ dal ρ λ ds => wp ds Q Ed
def dCm (C : Addr) (wp : Wp) (dd : List D) (Ed : DX -> Prop) (dob : DE) (dal : DA) (ρ : Rho) (Q : D -> Prop) : Prop := dob ρ λ x => x = .cls C /\ dal ρ λ ds => wp (.cls C :: (ds ++ dd)) Q Ed
theorem qzC {dvs : List V} {dd : List D} (hd : ∀ H, Reps K H dd dvs) (ho : SimE K Ed E to dob) (ha : SimA K Ed E tal dal) : SimE K Ed E (ClX.tCMeth C (λ vs H Q E => SpW K wp (vs ++ dvs) H Q E) E to tal) (dCm C wp dd Ed dob dal) := λ B0 B1 A H0 H σ ρ R X Qd h Q q =>
 ho B0 B1 A H0 H σ ρ R X _ h _ λ x v H1 H2 R1 g1 r1 k1 => by
   obtain ⟨rfl, k1⟩ := k1
   refine ⟨r1, ha B0 B1 A H1 H2 σ ρ R1 X _ k1 _ λ ds vs H3 H4 R2 g2 r2 k2 => ?_⟩
   exact qdQ R2 X (show Reps K H3 (.cls C :: (ds ++ dd)) (.ref C :: (vs ++ dvs)) from ⟨.ref C, _, rfl, rfl, r2.append (hd _)⟩) k2 λ x v H5 H6 R3 g3 r3 k3 => q x v H5 H6 R3 ((g1.trans g2).trans g3) r3 k3
theorem e_cm {dvs : List V} {dd : List D} (M : CMt X.prog X.w X.K X.mg X.base C m k wp dvs dd) (hr : Room k X.A) (hx : Passes (L2N.CX X.prog X.w) X E) (ho : JE X Ed E o to dob) (ha : JA X Ed E (e :: es) tal dal)
   (hst : starEach (e :: es) X.env = (false, eval e X.env) :: starEach es X.env := by rfl) (hpl : (backTo pos (starEach es X.env)).any (·.1) = false := by rfl)
   (ht : eval (.Call (.Attribute o m apos) (e :: es) [] pos) X.env = (do
     let ov <- eval o X.env
     standAt apos.atName
     let (f, first) <- holding [ov] (getMethod ov m pl)
     callWith pos f first (backTo pos (starEach (e :: es) X.env)) (backToKw pos (keywordEach [] X.env))) := by rfl) : JE X Ed E (.Call (.Attribute o m apos) (e :: es) [] pos) (ClX.tCMeth C (λ vs H Q E => SpW X.K wp (vs ++ dvs) H Q E) E to tal) (dCm C wp dd Ed dob dal) := by
 obtain ⟨mc, p, g, fd, ps, ds, h1, h2, h3, h4, h5, h6⟩ := M.ex
 exact ⟨ClX.pe_cmeth ho.pe h1 h2 (qne h3 h4 h5) hr hx ha.pe hst hpl ht, qzC h6 ho.sim ha.sim⟩
end
section
variable {X : Cx} {Ed : DX -> Prop} {E : XK} {K : PySem.W.Frag} {pos p apos : Pos} {a b e o : Expr} {es : List Expr} {te ta tb to : TE} {de da db dob : DE}
def qbA (x : D) (ys : List D) : Bool := ys.any λ z => deq z x
def dInN (n : Nat) (x y : D) (Q : D -> Prop) : Prop := match y with
 | .lst ys => x.isData n = true /\ qah n ys = true /\ Q (.bl (qbA x ys))
 | .tup ys => x.isData n = true /\ qah n ys = true /\ Q (.bl (qbA x ys))
 | .str z => ∃ c, x = .str ⟨#[c]⟩ /\ Q (.bl (decide (c ∈ z.cps.toList)))
 | _ => False
def rInN (K : PySem.W.Frag) (n : Nat) : R2 := λ x y H Q =>
 (∃ (H0 : Hp) (d : D) (ds : List D), Same H0 H /\ Rep K H0 d x /\ Rep K H0 (.lst ds) y /\ d.isData n = true /\ qah n ds = true /\ Q (.bl (qbA d ds)) H) ∨
 (∃ (H0 : Hp) (d : D) (ds : List D), Same H0 H /\ Rep K H0 d x /\ Rep K H0 (.tup ds) y /\ d.isData n = true /\ qah n ds = true /\ Q (.bl (qbA d ds)) H) ∨
 (∃ (c : Nat) (z : Str), x = .str ⟨#[c]⟩ /\ y = .str z /\ Q (.bl (decide (c ∈ z.cps.toList))) H)
def qjP (K : PySem.W.Frag) (n : Nat) : R2 := λ x y H Q => rInN K n x y H λ z H' => match z with
 | .bl b => Q (.bl (!b)) H'
 | _ => False
theorem qfT {pins : List (Addr × Obj)} {σ : L2.St} {H : Hp} {s : Shared} {n : Nat} {A : Around} {d : D} {ds : List D} {x : V} {vs : List V} {u : Value} {us : List Value} (I : Inv X pins σ H s) (hu : A.units + (n + 1) < cLine) (hd : d.isData n = true) (hds : qah n ds = true)
   (rd : Rep X.K H d x) (rs : Reps X.K H ds vs) (rx : RelV x u) (rv : Vals vs us) : ∃ f : Value -> Bool, (∀ y, y ∈ us.toArray -> SeqAt.EqAt A.in1 s y u (f y)) /\ us.toArray.any f = qbA d ds := by
 classical
 refine ⟨λ w => decide (∃ z c, z ∈ ds /\ RelV c w /\ Rep X.K H z c /\ deq z d = true), λ w hw => ?_, ?_⟩
 · obtain ⟨j, hj⟩ := List.getElem?_of_mem (by simpa using hw)
   have hjl : j < vs.length := by
     rw [rv.length]
     exact (List.getElem?_eq_some_iff.mp hj).1
   obtain ⟨w', e1, r1⟩ := rv.get (List.getElem?_eq_getElem hjl)
   rw [hj] at e1
   cases e1
   obtain ⟨z, hz, rz⟩ := rs.get' (List.getElem?_eq_getElem hjl)
   have zd : z.isData n = true := qef hds (List.mem_of_getElem? hz)
   have at_ := qn5 I n z d _ x w u A.in1 zd hd rz rd r1 rx (qck hu)
   have e : decide (∃ z c, z ∈ ds /\ RelV c w /\ Rep X.K H z c /\ deq z d = true) = deq z d := by
     by_cases q : deq z d = true
     · rw [q]
       exact decide_eq_true ⟨z, _, List.mem_of_getElem? hz, r1, rz, q⟩
     · rw [Bool.not_eq_true] at q
       rw [q]
       refine decide_eq_false λ ⟨z', c, hm, rc, rz', qz⟩ => ?_
       obtain rfl := rc.inj r1
       rw [Rep.inj I n z' z _ (qef hds hm) zd rz' rz, q] at qz
       cases qz
   show SeqAt.EqAt A.in1 s w u (decide _)
   rw [e]
   exact at_
 · rw [Bool.eq_iff_iff, Array.any_eq_true]
   constructor
   · rintro ⟨j, hj, h⟩
     obtain ⟨z, c, hm, _, _, q⟩ := of_decide_eq_true h
     exact List.any_eq_true.mpr ⟨z, hm, q⟩
   · intro h
     obtain ⟨z, hm, q⟩ := List.any_eq_true.mp h
     obtain ⟨j, hj⟩ := List.getElem?_of_mem hm
     obtain ⟨c, hc, rc⟩ := rs.get hj
     obtain ⟨w, hw, rw'⟩ := rv.get hc
     obtain ⟨hl, ew⟩ := List.getElem?_eq_some_iff.mp hw
     refine ⟨j, by simpa using hl, decide_eq_true ⟨z, c, hm, ?_, rc, q⟩⟩
     simpa [ew] using rw'
theorem qkl {n : Nat} (hu : X.A.units + (n + 1) < cLine) : OpR X (compareOp .In) (rInN X.K n) := by
 intro pins s σ H x y v u Q I rx ry h
 rcases h with ⟨H0, d, ds, sm, rd, ⟨l, vs, rfl, hs, rr⟩, hd, hds, q⟩ | ⟨H0, d, ds, sm, rd, ⟨l, vs, rfl, hs, rr⟩, hd, hds, q⟩ | h
 · obtain ⟨its, rv, hp, _⟩ := I.list (sm.seq hs)
   cases ry
   obtain ⟨f, h1, h2⟩ := qfT I hu hd hds (Rep.mono sm _ _ rd) (Reps.mono sm _ _ rr) rx rv
   exact SeqAt.in_listAt f hp.isList h1 ⟨.bl _, H, I, rfl, h2 ▸ q⟩
 · obtain ⟨its, rv, hp, _⟩ := I.tuple (qaC sm hs)
   cases ry
   obtain ⟨f, h1, h2⟩ := qfT I hu hd hds (Rep.mono sm _ _ rd) (Reps.mono sm _ _ rr) rx rv
   exact SeqAt.in_tupleAt f (show s.heap.IsTuple l its.toArray from hp) h1 ⟨.bl _, H, I, rfl, h2 ▸ q⟩
 · exact op_in_sign pins s σ H x y v u Q I rx ry h
theorem qBf {n : Nat} (hu : X.A.units + (n + 1) < cLine) : OpR X (compareOp .NotIn) (qjP X.K n) := by
 intro pins s σ H x y v u Q I rx ry h
 rcases h with ⟨H0, d, ds, sm, rd, ⟨l, vs, rfl, hs, rr⟩, hd, hds, q⟩ | ⟨H0, d, ds, sm, rd, ⟨l, vs, rfl, hs, rr⟩, hd, hds, q⟩ | h
 · obtain ⟨its, rv, hp, _⟩ := I.list (sm.seq hs)
   cases ry
   obtain ⟨f, h1, h2⟩ := qfT I hu hd hds (Rep.mono sm _ _ rd) (Reps.mono sm _ _ rr) rx rv
   exact SeqAt.notIn_listAt f hp.isList h1 ⟨.bl _, H, I, rfl, h2 ▸ q⟩
 · obtain ⟨its, rv, hp, _⟩ := I.tuple (qaC sm hs)
   cases ry
   obtain ⟨f, h1, h2⟩ := qfT I hu hd hds (Rep.mono sm _ _ rd) (Reps.mono sm _ _ rr) rx rv
   exact SeqAt.notIn_tupleAt f (show s.heap.IsTuple l its.toArray from hp) h1 ⟨.bl _, H, I, rfl, h2 ▸ q⟩
 · obtain ⟨c, z, e1, e2, q⟩ := h
   exact op_notIn_sign pins s σ H x y v u Q I rx ry ⟨c, z, e1, e2, q⟩
def qd0 (n : Nat) (x y : D) (Q : D -> Prop) : Prop := dInN n x y λ z => match z with
 | .bl b => Q (.bl (!b))
 | _ => False
theorem qg0 {n : Nat} : qa0 K (rInN K n) (dInN n) := λ H0 H x y dx dy sm rx ry Qd h Q q => by
 unfold dInN at h
 split at h
 · exact .inl ⟨H0, dx, _, sm, rx, ry, h.1, h.2.1, q (.bl _) _ H0 H (.refl sm) rfl h.2.2⟩
 · exact .inr (.inl ⟨H0, dx, _, sm, rx, ry, h.1, h.2.1, q (.bl _) _ H0 H (.refl sm) rfl h.2.2⟩)
 · obtain ⟨c, rfl, h⟩ := h
   exact .inr (.inr ⟨c, _, rx, ry, q (.bl _) _ H0 H (.refl sm) rfl h⟩)
 · exact h.elim
theorem qvB {n : Nat} : qa0 K (qjP K n) (qd0 n) := λ H0 H x y dx dy sm rx ry Qd h Q q => by
 unfold qd0 at h
 refine qg0 H0 H x y dx dy sm rx ry _ h _ λ z v H0' H' g r k => ?_
 cases z with
 | bl b =>
   cases (show v = _ from r)
   exact q (.bl (!b)) _ H0' H' g rfl k
 | _ => exact k.elim
abbrev dIn := dInN 100
abbrev qt4 := qd0 100
theorem qjc {k : Nat} (hr : Room k X.A) : X.A.units + (100 + 1) < cLine := by have := hr.un; omega
theorem e_in {k : Nat} (hr : Room k X.A) (ha : JE X Ed E a ta da) (hb : JE X Ed E b tb db) (hm : behindInMarks .In b = false := by rfl) : JE X Ed E (.Compare a [.In] [b] pos) (tOp (rInN X.K 100) ta tb) (dOp dIn da db) := qh7 (qkl (qjc hr)) qg0 ha hb hm
theorem qvV {k : Nat} (hr : Room k X.A) (ha : JE X Ed E a ta da) (hb : JE X Ed E b tb db) (hm : behindInMarks .NotIn b = false := by rfl) : JE X Ed E (.Compare a [.NotIn] [b] pos) (tOp (qjP X.K 100) ta tb) (dOp qt4 da db) := qh7 (qBf (qjc hr)) qvB ha hb hm
theorem t_in {k : Nat} (hr : Room k X.A) (ha : JE X Ed E a ta da) (hb : JE X Ed E b tb db) (hm : behindInMarks .In b = false := by rfl) : JT X Ed E (.Compare a [.In] [b] pos) (tB (tOp (rInN X.K 100) ta tb)) (dB (dOp dIn da db)) := qdm (qkl (qjc hr)) qg0 ha hb hm
def dSlS (x : D) (lo hi : Option Int) (Q : D -> Prop) : Prop := match x with
 | .str z => z.length <= sizeLine /\ Q (.str (cutS z lo hi))
 | _ => False
theorem qvL : qiH K rSlS dSlS := by
 intro H0 H x dx lo hi sm rx Qd h Q q
 unfold dSlS at h
 split at h
 · exact ⟨_, rx, h.1, q (.str _) _ H0 H (.refl sm) rfl h.2⟩
 · exact h.elim
theorem qiP {lo hi : Option Expr} {tl th : TO} {dl dh : DO} {p2 : Pos} (he : JE X Ed E e te de) (hl : JO X Ed E lo tl dl) (hu : JO X Ed E hi th dh) : JE X Ed E (.Subscript e (.Slice lo hi none p2) pos) (tSl rSlS te tl th) (dSl dSlS de dl dh) :=
 qqc sl_str qvL he hl hu
structure CD (K : PySem.W.Frag) (mg : Str -> Option Value) (x : Str) (d : D) : Prop where
 ex : ∃ (v : V) (u : Value), mg x = some u /\ RelV v u /\ ∀ H, Rep K H d v
theorem e_cD {x : Str} {d : D} (h : CD X.K X.mg x d) (hg : Gl X x := by rfl) (hd : (x == ("__debug__" : Str)) = false := by decide) : JE X Ed E (.Name x pos) (tC (Classical.choose h.ex)) (dC d) := by
 obtain ⟨u, h1, h2, h3⟩ := Classical.choose_spec h.ex
 exact qic hg h1 h2 h3 hd
end
theorem qca {K : PySem.W.Frag} {H : Hp} {T : Addr} {o : Obj} {its : Array Value} {m : Nat} {ds : List D} {vs : List V} (l : K.lookup T = some o) (c : o.cls = .type "tuple") (d : o.data = .seq its m) (hl : its.size <= sizeLine) (rv : Vals vs its.toList) (r : Reps K H ds vs) : Rep K H (.tup ds) (.ref T) :=
 ⟨T, vs, rfl, .inr ⟨o, its, m, l, c, d, hl, rv⟩, r⟩
section
variable {X : Cx} {Ed : DX -> Prop} {E : XK} {K : PySem.W.Frag} {pos p apos : Pos} {a b e o : Expr} {es : List Expr} {te ta tb to : TE} {de da db dob : DE} {tal : TA} {dal : DA} {C : Addr} {wp : WpI} {k i : Nat} {x : Str}
def qg2 (i : Nat) (C : Addr) (sp : Sp) (dvs : List V) (E : XK) (t : TA) : TE := λ σ H Q => σ[i]? = some (some (.ref C)) /\ tMake C sp dvs E t σ H Q
theorem qxu {CX : CXT} {f : Addr} {fd : FuncData} {ps : List Str} {sp : Sp} {ds : List Value} {dvs : List V} {t : TA} (M : Mk X.K C f) (F : FnOk X.prog X.w X.K X.mg X.base CX k f fd ps sp) (hr : Room (k + 1) X.A) (hN : X.N[i]? = some x) (hv : Vis X.env.scope x) (hb : Binds X.K fd ps ds) (hd : Vals dvs ds) (hx : Passes CX X E)
   (ha : PA X (e :: es) t) (hdb : (x == ("__debug__" : Str)) = false := by decide) (hcd : (x == ("__classdict__" : Str)) = false := by decide) (he : starEach (e :: es) X.env = (false, eval e X.env) :: starEach es X.env := by rfl) (hpl : (backTo pos (starEach es X.env)).any (·.1) = false := by rfl) :
   PE X (.Call (.Name x p) (e :: es) [] pos) (qg2 i C sp dvs E t) := by
 refine ⟨λ pins s σ H Q I h => ?_⟩
 obtain ⟨hs, ht⟩ := h
 refine wpAny_Call_Name_kw (thn ((pe_var (pos := p) hN hv hdb hcd).run pins s σ H (λ v H1 => v = .ref C /\ H1 = H) I ⟨.ref C, hs, rfl, rfl⟩) λ u s1 ⟨v, H1, I1, r1, q1⟩ => ?_)
 obtain ⟨rfl, rfl⟩ := q1
 cases r1
 refine PySem.W.callWith_K (h₀ := X.base) I.ok.mod.kin M.kp (thn (ha.run pos pins s1 σ _ _ I1 ht) λ us s2 ⟨vs, H2, I2, r, q⟩ => ⟨I2.kIn, ?_⟩) he hpl
 exact run_make M F hr hb hd hx I2 r q
def qeL (i : Nat) (C : Addr) (wp : WpI) (dd : List D) (Ed : DX -> Prop) (da : DA) (ρ : Rho) (Q : D -> Prop) : Prop := lk i ρ = some (.d (.cls C)) /\ qfg C wp dd Ed da ρ Q
theorem qze {dvs : List V} {dd : List D} (hd : ∀ H, Reps K H dd dvs) (ha : SimA K Ed E tal dal) : SimE K Ed E (qg2 i C (SpI K C wp) dvs E tal) (qeL i C wp dd Ed dal) := λ B0 B1 A H0 H σ ρ R X Qd h Q q => by
 obtain ⟨hl, h⟩ := h
 obtain ⟨v, e1, _, u, e2, r⟩ := R.slot i _ (qbF hl)
 subst e2
 cases (show u = _ from r)
 exact ⟨e1, qsE hd ha B0 B1 A H0 H σ ρ R X Qd h Q q⟩
theorem qxZ {y : Str} {dvs : List V} {dd : List D} (i : Nat) (M : Maker X.prog X.w X.K X.mg X.base y C k wp dvs dd) (hr : Room (k + 1) X.A) (hx : Passes (L2N.CX X.prog X.w) X E) (ha : JA X Ed E (e :: es) tal dal) (hN : X.N[i]? = some x := by rfl) (hv : Vis X.env.scope x := by first | exact Or.inl rfl | exact Or.inr (Or.inl rfl) | exact Or.inr (Or.inr rfl))
   (hdb : (x == ("__debug__" : Str)) = false := by decide) (hcd : (x == ("__classdict__" : Str)) = false := by decide) (he : starEach (e :: es) X.env = (false, eval e X.env) :: starEach es X.env := by rfl) (hpl : (backTo pos (starEach es X.env)).any (·.1) = false := by rfl) :
   JE X Ed E (.Call (.Name x p) (e :: es) [] pos) (qg2 i C (SpI X.K C wp) dvs E tal) (qeL i C wp dd Ed dal) := by
 obtain ⟨f, fd, ps, ds, h1, h2, h3, h4, h5, h6⟩ := M.ex
 exact ⟨qxu h2 h3 hr hN hv h4 h5 hx ha.pe hdb hcd he hpl, qze h6 ha.sim⟩
structure JK (X : Cx) (Ed : DX -> Prop) (E : XK) (kws : List Keyword) (t : TA) (d : DA) : Prop where
 pe : PK X kws t
 sim : SimA X.K Ed E t d
theorem qff : JK X Ed E [] tNil dNil := ⟨pk_nil, qeT⟩
theorem qu9 {nm : Option Str} {kpos : Pos} {kws : List Keyword} (ha : JE X Ed E e ta da) (hr : JK X Ed E kws tal dal) : JK X Ed E (⟨nm, e, kpos⟩ :: kws) (tCons ta tal) (qbD da dal) := ⟨pk_cons ha.pe hr.pe, qnE ha.sim hr.sim⟩
end
end DL
namespace DL
variable [TbC]
open PySem PySem.Spec PyProof.Rows L2 PySem.W PySem.Builtin
section
variable {X : Cx} {Ed : DX -> Prop} {E : XK} {K : PySem.W.Frag} {pos : Pos} {a b : Expr} {ta tb : TE} {da db : DE} {k : Nat} {C : Addr} {wp : Wp}
def qoM (C : Addr) (wp : Wp) (Ed : DX -> Prop) (da db : DE) (ρ : Rho) (Q : D -> Prop) : Prop := da ρ λ x => db ρ λ y => match x, y with
 | .ins C1 f1, .ins C2 f2 => C1 = C /\ C2 = C /\ wp [.ins C1 f1, .ins C2 f2] (λ z => ∃ c, z = .bl c /\ Q (.bl (!c))) Ed
 | _, _ => False
end
end DL
namespace DS
open PySem PySem.Spec PyProof.Rows L2
def Msk (m : Nat) : Prop := m = 7 ∨ m = 31 ∨ m = 127 ∨ m = 511
def orb : Nat -> Nat -> List Nat
 | _, 0 => []
 | i, n + 1 => i :: orb ((i * 5 + 1) % 512) n
theorem qpn (m i : Nat) : ∀ k, lcgI m ((i * 5 + 1) % (m + 1)) k = lcgI m i (k + 1)
 | 0 => rfl
 | k + 1 => congrArg (λ z => (z * 5 + 1) % (m + 1)) (qpn m i k)
theorem qpO {j : Nat} : ∀ (n i : Nat), j ∈ orb i n -> ∃ k, k < n /\ lcgI 511 i k = j
 | n + 1, i, h => by
   rcases List.mem_cons.mp h with rfl | h
   · exact ⟨0, Nat.succ_pos _, rfl⟩
   · obtain ⟨k, hk, e⟩ := qpO n _ h
     exact ⟨k + 1, by omega, (qpn 511 i k).symm.trans e⟩
theorem qu1 : ((List.range 512).all λ j => (orb 0 512).contains j) = true := by decide +kernel
theorem qA1 : lcgI 511 0 512 = 0 := by decide +kernel
theorem qeS (m i a : Nat) : ∀ k, lcgI m (lcgI m i a) k = lcgI m i (a + k)
 | 0 => rfl
 | k + 1 => congrArg (λ z => (z * 5 + 1) % (m + 1)) (qeS m i a k)
theorem qkL {j : Nat} (h : j <= 511) : ∃ k, k < 512 /\ lcgI 511 0 k = j :=
 qpO 512 0 (List.contains_iff_mem.mp (List.all_eq_true.mp qu1 j (List.mem_range.mpr (by omega))))
theorem qyB {i j : Nat} (hi : i <= 511) (hj : j <= 511) : ∃ k, k <= 511 /\ lcgI 511 i k = j := by
 obtain ⟨a, a1, rfl⟩ := qkL hi
 obtain ⟨b, b1, rfl⟩ := qkL hj
 by_cases c : a <= b
 · exact ⟨b - a, by omega, by rw [qeS, Nat.add_sub_cancel' c]⟩
 · refine ⟨512 - a + b, by omega, ?_⟩
   rw [qeS, show a + (512 - a + b) = 512 + b by omega, <- qeS, qA1]
theorem qrB {m : Nat} (F : Msk m) (h : Int) {j : Nat} (hj : j <= m) : ∃ n, n <= m + 12 /\ runI m (SetTable.bits h) n = j := by
 rcases F with e | e | e | e
 · exact run_meets (.inl e) h hj
 · exact run_meets (.inr (.inl e)) h hj
 · exact run_meets (.inr (.inr e)) h hj
 · subst e
   obtain ⟨k, k1, k2⟩ := qyB (runI_le 511 (SetTable.bits h) 12) hj
   exact ⟨12 + k, by omega, (runI_tail (bits_lt h) k).trans k2⟩
theorem qBh {m : Nat} (F : Msk m) : m % 2 = 1 := by
 rcases F with rfl | rfl | rfl | rfl <;> rfl
theorem qhW (m : Nat) (h : Int) (k : Nat) : way m h k <= m := by
 have r := runEnd_bd (m := m) (i := SetTable.bits h % (m + 1)) (Nat.le_of_lt_succ (Nat.mod_lt _ (Nat.succ_pos _)))
 have z := nth_in (m := m) k (runAt m (SetTable.bits h % (m + 1)) (SetTable.bits h)) (by simp only [runAt]; omega)
 show (nth m (runAt m (SetTable.bits h % (m + 1)) (SetTable.bits h)) k).j <= m
 omega
theorem qCs {m : Nat} (F : Msk m) (h : Int) {j : Nat} (hj : j <= m) : ∃ k, k < 10 * SetTable.turns m /\ way m h k = j := by
 obtain ⟨n, n1, n2⟩ := qrB F h hj
 obtain ⟨k, k1, k2⟩ := run_nth m (SetTable.bits h) n
 exact ⟨k, by unfold SetTable.turns; omega, (congrArg (·.j) k2).trans n2⟩
structure Tab (t : SetTable) (hs : List Int) : Prop where
 ris : Ris t.place.toList
 dm : t.dummies = #[]
 sz : t.place.size = hs.length
 mok : Msk t.mask
 bd : ∀ x ∈ t.place.toList, x <= t.mask
 reach : ∀ q ∈ hs.zip t.place.toList, ∃ k, way t.mask q.1 k = q.2 /\ ∀ c, c < k -> way t.mask q.1 c ∈ t.place.toList
section
variable {t : SetTable} {hs : List Int}
theorem Tab.len (T : Tab t hs) : t.place.toList.length = hs.length := T.sz
theorem Tab.first (T : Tab t hs) (room : hs.length <= t.mask) (h : Int) : ∃ K, K < 10 * SetTable.turns t.mask /\ way t.mask h K ∉ t.place.toList /\ ∀ k, k < K -> way t.mask h k ∈ t.place.toList := by
 obtain ⟨j, j1, j2⟩ := st_missing t.place.toList (t.mask + 1) (by rw [T.len]; omega)
 obtain ⟨k, k1, rfl⟩ := qCs T.mok h (j := j) (by omega)
 obtain ⟨K, a, b, c⟩ := st_least (p := λ k => way t.mask h k ∉ t.place.toList) k j2
 exact ⟨K, by omega, b, λ k hk => Classical.byContradiction (c k hk)⟩
theorem qBD {h : Int} {i j : Nat} {ps : List Nat} (a : hs[i]? = some h) (b : ps[i]? = some j) : (h, j) ∈ hs.zip ps :=
 List.mem_of_getElem? (i := i) (List.getElem?_zip_eq_some (z := (h, j)) |>.mpr ⟨a, b⟩)
theorem Tab.before (T : Tab t hs) {h : Int} {K i j : Nat} (hK : way t.mask h K ∉ t.place.toList) (a : hs[i]? = some h) (b : t.place.toList[i]? = some j) : ∃ k, k < K /\ way t.mask h k = j := by
 obtain ⟨k, e, z⟩ := T.reach _ (qBD a b)
 refine ⟨k, Classical.byContradiction λ q => ?_, e⟩
 rcases Nat.lt_or_ge K k with c | c
 · exact hK (z K c)
 · have : K = k := by omega
   rw [this, show way t.mask h k = j from e] at hK
   exact hK (List.mem_of_getElem? b)
theorem Tab.put (T : Tab t hs) {h : Int} {K : Nat} (hK : way t.mask h K ∉ t.place.toList) (hb : ∀ k, k < K -> way t.mask h k ∈ t.place.toList) :
   (t.put (way t.mask h K)).2 = SetTable.below t.place (way t.mask h K) /\ SetTable.below t.place (way t.mask h K) <= hs.length /\
   Tab (t.put (way t.mask h K)).1 (hs.take (SetTable.below t.place (way t.mask h K)) ++ h :: hs.drop (SetTable.below t.place (way t.mask h K))) /\
   (t.put (way t.mask h K)).1.mask = t.mask /\ (t.put (way t.mask h K)).1.led = t.led /\ (t.put (way t.mask h K)).1.plain = t.plain /\ (t.put (way t.mask h K)).1.fill = hs.length + 1 := by
 have inn := qhW t.mask h K
 obtain ⟨j, hj⟩ : ∃ j, way t.mask h K = j := ⟨_, rfl⟩
 rw [hj] at hK inn ⊢
 have pl := put_place t j
 have cut := (below_cut T.ris j).1
 have new : t.place[SetTable.below t.place j]? ≠ some j := λ e => hK (List.mem_of_getElem? (by rw [Array.getElem?_toList]; exact e))
 have rise := ris_insert T.ris new
 have e2 : (t.put j).2 = SetTable.below t.place j := rfl
 generalize SetTable.below t.place j = p at pl cut rise e2 ⊢
 have p1 : p <= hs.length := T.sz ▸ cut
 have sub : ∀ x, x ∈ (t.put j).1.place.toList <-> x = j ∨ x ∈ t.place.toList := λ x => by rw [pl]; exact mem_ins
 have size : (t.put j).1.place.size = hs.length + 1 := by
   rw [<- Array.length_toList, pl, len_ins _ (by rw [T.len]; exact p1), T.len]
 have same : (hs.take p).length = (t.place.toList.take p).length := by rw [List.length_take, List.length_take, T.len]
 have parts : hs.zip t.place.toList = (hs.take p).zip (t.place.toList.take p) ++ (hs.drop p).zip (t.place.toList.drop p) := by
   rw [<- List.zip_append same, List.take_append_drop, List.take_append_drop]
 refine ⟨e2, p1, ⟨by rw [pl, <- SetTable.toList_insertAt]; exact rise, put_dm T.dm j, by rw [len_ins _ p1]; exact size, T.mok, λ x hx => ?_, λ q hq => ?_⟩, rfl, rfl, rfl, ?_⟩
 · rcases (sub x).mp hx with rfl | z
   · exact inn
   · exact T.bd x z
 · have old : q ∈ hs.zip t.place.toList -> ∃ k, way (t.put j).1.mask q.1 k = q.2 /\ ∀ c, c < k -> way (t.put j).1.mask q.1 c ∈ (t.put j).1.place.toList := λ z => by
     obtain ⟨k, k1, k2⟩ := T.reach q z
     exact ⟨k, k1, λ c hc => (sub _).mpr (.inr (k2 c hc))⟩
   rw [pl, List.zip_append same, List.zip_cons_cons] at hq
   rcases List.mem_append.mp hq with z | z
   · exact old (by rw [parts]; exact List.mem_append_left _ z)
   · rcases List.mem_cons.mp z with rfl | z
     · exact ⟨K, hj, λ c hc => (sub _).mpr (.inr (hb c hc))⟩
     · exact old (by rw [parts]; exact List.mem_append_right _ z)
 · show (t.put j).1.place.size + (t.put j).1.dummies.size = hs.length + 1
   rw [size, put_dm T.dm j]
   rfl
theorem qw0 {m : Nat} (F : Msk m) (ow : Array (Option Nat)) (h : Int) {j : Nat} (hj : j <= m) (free : oAt ow j = none) :
   ∃ K, SetTable.layClean.free m ow (SetTable.turns m) (SetTable.bits h % (m + 1)) (SetTable.bits h) = some (way m h K) /\ oAt ow (way m h K) = none /\ ∀ k, k < K -> oAt ow (way m h k) ≠ none := by
 obtain ⟨n, n1, n2⟩ := qrB F h hj
 have at_ : way m h (off m (SetTable.bits h % (m + 1)) (SetTable.bits h) n) = j := by
   refine (congrArg (·.j) (nth_off m n _ _)).trans ?_
   rw [itL_run]
   exact n2
 obtain ⟨K, a, b, c⟩ := st_least (p := λ k => oAt ow (way m h k) = none) _ (at_ ▸ free)
 refine ⟨K, free_spec m ow _ n _ _ K (by unfold SetTable.turns; omega) a (λ k hk => ?_) ?_, b, c⟩
 · exact Option.isNone_eq_false_iff.mpr (Option.isSome_iff_ne_none.mpr (c k hk))
 · exact Option.isNone_iff_eq_none.mpr b
theorem qCg {m : Nat} (F : Msk m) {done : List Int} {ow : Array (Option Nat)} (W : Own m done ow) (room : done.length <= m) (h : Int) :
   ∃ j, SetTable.layClean.free m ow (SetTable.turns m) (SetTable.bits h % (m + 1)) (SetTable.bits h) = some j /\ Own m (done ++ [h]) (ow.setIfInBounds j (some done.length)) := by
 obtain ⟨ps, ps1, ps2⟩ := W.ps
 obtain ⟨z, z1, z2⟩ := st_missing ps (m + 1) (by omega)
 obtain ⟨K, a, b, c⟩ := qw0 F ow h (j := z) (by omega) (Classical.byContradiction λ q => z2 (ps2 z (by omega) q))
 refine ⟨_, a, ?_⟩
 have inn := qhW m h K
 obtain ⟨s, hs⟩ : ∃ s, way m h K = s := ⟨_, rfl⟩
 rw [hs] at b inn ⊢
 have own : oAt (ow.setIfInBounds s (some done.length)) s = some done.length := oAt_set_self _ (by rw [W.sz]; omega)
 have oth : ∀ i, i ≠ s -> oAt (ow.setIfInBounds s (some done.length)) i = oAt ow i := λ i hi => oAt_set_ne _ hi
 have full : ∀ i, oAt ow i ≠ none -> oAt (ow.setIfInBounds s (some done.length)) i ≠ none := λ i hi => by
   rw [oth i λ e => hi (e ▸ b)]
   exact hi
 refine ⟨by rw [Array.size_setIfInBounds, W.sz], λ j k hj hk => ?_, λ k hk => ?_, s :: ps, by simp [ps1], λ j hj hn => ?_⟩
 · by_cases e : j = s
   · rw [e, own] at hk
     cases hk
     exact ⟨h, K, by simp, by rw [hs, e], λ c' hc => full _ (c c' hc)⟩
   · rw [oth j e] at hk
     obtain ⟨h', K', x1, x2, x3⟩ := W.at_ j k hj hk
     exact ⟨h', K', by rw [List.getElem?_append_left (List.getElem?_eq_some_iff.mp x1).1]; exact x1, x2, λ c' hc => full _ (x3 c' hc)⟩
 · rcases Nat.lt_or_ge k done.length with hl | hl
   · obtain ⟨j, x1, x2⟩ := W.all k hl
     exact ⟨j, x1, by rw [oth j λ e => by rw [e, b] at x2; cases x2]; exact x2⟩
   · have : k = done.length := by simp at hk; omega
     exact ⟨s, inn, by rw [own, this]⟩
 · by_cases e : j = s
   · exact e ▸ List.mem_cons_self
   · rw [oth j e] at hn
     exact List.mem_cons_of_mem _ (ps2 j hj hn)
theorem qmj {m : Nat} (F : Msk m) : ∀ (rest done : List Int) (ow : Array (Option Nat)), Own m done ow -> done.length + rest.length <= m ->
   ∃ ow', rest.foldl (stepF m) (some (ow, done.length)) = some (ow', (done ++ rest).length) /\ Own m (done ++ rest) ow'
 | [], done, ow, W, _ => ⟨ow, by rw [List.append_nil]; rfl, by rw [List.append_nil]; exact W⟩
 | h :: rest, done, ow, W, room => by
   rw [List.length_cons] at room
   obtain ⟨j, e, W2⟩ := qCg F W (by omega) h
   obtain ⟨ow', f, W3⟩ := qmj F rest (done ++ [h]) _ W2 (by rw [List.length_append, List.length_singleton]; omega)
   rw [List.append_assoc, List.length_append, List.length_singleton] at f
   rw [List.append_assoc] at W3
   exact ⟨ow', by rw [List.foldl_cons, stepF_some e]; exact f, W3⟩
theorem laid (t : SetTable) {hs : Array Int} {want m : Nat} (hw : SetTable.sizeAbove want = m + 1) (F : Msk m) (room : hs.size <= m) :
   ∃ t' ord, t.relaid hs want = some (t', ord) /\ ord.toList.Perm (List.range hs.size) /\ Tab t' (ord.toList.map λ i => hs.getD i 0) /\ t'.mask = m /\ t'.led = t.led := by
 obtain ⟨ow, f, W⟩ := qmj F hs.toList [] _ (Own.init m) (by rw [Array.length_toList]; simpa using room)
 rw [List.nil_append] at f W
 have run : t.relaid hs want = some (tabOf t m ow, ((liveOf m ow).map (·.2)).toArray) := by
   have f2 : hs.toList.foldl (stepF m) (some (Array.replicate (m + 1) none, 0)) = some (ow, hs.toList.length) := f
   rw [relaid_eq, hw, Nat.add_sub_cancel, layClean_eq, f2]
   rfl
 have live := λ j k => mem_live (m := m) W.sz (j := j) (k := k)
 obtain ⟨rise, inn⟩ := ris_live (λ j => ow.getD j none) (List.range (m + 1)) List.pairwise_lt_range
 have rise : Ris ((liveOf m ow).map (·.1)) := rise
 have inn : ∀ x ∈ (liveOf m ow).map (·.1), x ∈ List.range (m + 1) := inn
 have every : ∀ k, k < hs.size -> k ∈ (liveOf m ow).map (·.2) := λ k hk => by
   obtain ⟨j, a, b⟩ := W.all k (by simpa using hk)
   exact List.mem_map.mpr ⟨(j, k), (live j k).mpr ⟨a, b⟩, rfl⟩
 have many : (liveOf m ow).length = hs.size := by
   obtain ⟨ps, p1, p2⟩ := W.ps
   have up := nat_nodup_len ((liveOf m ow).map Prod.fst) ps (List.Pairwise.imp (λ h => Nat.ne_of_lt h) rise) λ x hx => by
     obtain ⟨⟨y, k⟩, hq, rfl⟩ := List.mem_map.mp hx
     obtain ⟨a, b⟩ := (live y k).mp hq
     exact p2 y a (by rw [b]; exact Option.some_ne_none k)
   have dn := nat_nodup_len (List.range hs.size) ((liveOf m ow).map Prod.snd) List.nodup_range λ k hk => every k (List.mem_range.mp hk)
   rw [List.length_map, p1] at up
   have hz : hs.toList.length = hs.size := Array.length_toList
   rw [List.length_map, List.length_range] at dn
   omega
 refine ⟨_, _, run, perm_range _ _ (by simpa using many) (λ k hk => every k hk), ⟨rise, rfl, by simp [tabOf], F, λ x hx => ?_, λ q hq => ?_⟩, rfl, rfl⟩
 · exact Nat.le_of_lt_succ (List.mem_range.mp (inn x hx))
 · have hq : q ∈ (((liveOf m ow).map (·.2)).map λ i => hs.getD i 0).zip ((liveOf m ow).map (·.1)) := hq
   rw [List.map_map, List.zip_map'] at hq
   obtain ⟨⟨y, k⟩, hl, rfl⟩ := List.mem_map.mp hq
   obtain ⟨a, b⟩ := (live y k).mp hl
   obtain ⟨h, K, x1, x2, x3⟩ := W.at_ y k a b
   have eh : hs.getD k 0 = h := by
     rw [Array.getD_eq_getD_getElem?, <- Array.getElem?_toList, x1]
     rfl
   show ∃ c, way m (hs.getD k 0) c = y /\ ∀ c', c' < c -> way m (hs.getD k 0) c' ∈ (liveOf m ow).map (·.1)
   rw [eh]
   refine ⟨K, x2, λ c hc => ?_⟩
   obtain ⟨k2, e⟩ := Option.ne_none_iff_exists'.mp (x3 c hc)
   exact List.mem_map.mpr ⟨_, (live _ k2).mpr ⟨qhW m h c, e⟩, rfl⟩
end
end DS
namespace DS
open PySem PySem.Spec PyProof.Rows L2
section
variable {P : Program} {w : World} {K : Type} [DecidableEq K]
structure qcA (κ : HeapKind P w K) : Prop where
 cls : ∀ {A : Around} {E : Value -> Shared -> Prop} {s : Shared} {k : K} {b : Addr} {Q : Bool -> Shared -> Prop}, κ.is s.heap k b -> Q false s -> wpAny (model P w) A (ofAClassStatement 8 (.ref b)) Q E s
 byv : ∀ {A : Around} {E : Value -> Shared -> Prop} {s : Shared} {k : K} {b : Addr} {Q : Bool -> Shared -> Prop}, κ.is s.heap k b -> (∀ r, Q r s) -> wpAny (model P w) A (hashByValue 8 (.ref b)) Q E s
 stay : ∀ {h h' : Heap} {k : K} {b d : Addr} {o : Obj} {es : Array (Int × Value)} {ep : Nat} {t : SetTable}, κ.is h k b -> h.get? d = some o -> o.data = .set es ep t -> Heap.SameBut d h h' -> κ.is h' k b
 ext : ∀ {h h' : Heap} {k : K} {b : Addr}, κ.is h k b -> (∀ c o, h.get? c = some o -> h'.get? c = some o) -> κ.is h' k b
def qa2 (κ : HeapKind P w K) (M : List (Addr × K)) : List (Int × Value) := M.map λ p => (κ.hash p.2, Value.ref p.1)
structure Held (κ : HeapKind P w K) (h : Heap) (a : Addr) (M : List (Addr × K)) (es : Array (Int × Value)) (ep : Nat) (t : SetTable) : Prop where
 obj : ∃ o, h.get? a = some o /\ o.ExactSet /\ o.data = .set es ep t
 lay : es.toList = qa2 κ M
 tab : Tab t (M.map λ p => κ.hash p.2)
 once : (M.map (·.2)).Nodup
 mem : ∀ p ∈ M, κ.is h p.2 p.1
 led : w.params.followText "set-order" = true ∨ t.led = true
 spare : M.length * 5 < t.mask * 3
 few : M.length < 306
variable {κ : HeapKind P w K} {a : Addr} {M : List (Addr × K)} {es : Array (Int × Value)} {ep : Nat} {t : SetTable}
theorem qxY (κ : HeapKind P w K) (M : List (Addr × K)) : (qa2 κ M).length = M.length := List.length_map _
theorem qfG (e : es.toList = qa2 κ M) : es.size = M.length := by
 rw [<- Array.length_toList, e, qxY]
theorem qhp (e : es.toList = qa2 κ M) {i : Nat} {p : Addr × K} (hp : M[i]? = some p) : es[i]? = some (κ.hash p.2, Value.ref p.1) := by
 rw [<- Array.getElem?_toList, e, qa2, List.getElem?_map, hp]
 rfl
theorem fits_of (h1 : t.place.size = es.size) (h2 : t.dummies = #[]) (h3 : es.size <= t.mask) : t.fits es.size = true := by
 have e : t.fill = t.place.size := by
   show t.place.size + t.dummies.size = _
   rw [h2]
   rfl
 unfold SetTable.fits
 rw [e, Bool.and_eq_true]
 exact ⟨beq_iff_eq.mpr h1, decide_eq_true (by omega)⟩
section
variable {h : Heap}
theorem Held.size (R : Held κ h a M es ep t) : es.size = M.length := qfG R.lay
theorem Held.pl (R : Held κ h a M es ep t) : t.place.size = M.length := by
 have e := R.tab.sz
 rwa [List.length_map] at e
theorem Held.fits (R : Held κ h a M es ep t) : t.fits es.size = true :=
 fits_of (R.pl.trans R.size.symm) R.tab.dm (by have := R.spare; have := R.size; omega)
end
variable {A : Around} {E : Value -> Shared -> Prop} {s : Shared}
theorem qxD (X : qcA κ) {x : Addr} {k : K} (hx : κ.is s.heap k x) : ∀ {ys : List Value} {Q : Bool -> Shared -> Prop}, (∀ y ∈ ys, ∃ j c, y = Value.ref c /\ κ.is s.heap j c) -> Q false s -> wpAny (model P w) A (searchCouldBeSeen (.ref x) ys) Q E s := by
 intro ys Q hy q
 unfold searchCouldBeSeen
 refine wpAny_bind (wpAny_forIn_list _ (λ l r s' => (r.1 = none /\ s' = s) /\ ∀ y ∈ l, ∃ j c, y = Value.ref c /\ κ.is s.heap j c) _ ?_ ?_ _ _ ⟨⟨rfl, rfl⟩, hy⟩)
 · rintro y l r s' ⟨⟨hr, rfl⟩, al⟩
   obtain ⟨j, c, rfl, hc⟩ := al y List.mem_cons_self
   have al' := λ u (hu : u ∈ l) => al u (List.mem_cons_of_mem _ hu)
   by_cases same : (x == c || (carriedByValue (.ref x) && carriedByValue (.ref c))) = true
   · exact wp_if_pos same (wpAny_pure ⟨⟨rfl, rfl⟩, al'⟩)
   · refine wp_if_neg same (wpAny_bind (κ.quiet hx ?_))
     simp only [Bool.not_true, Bool.false_eq_true, if_false]
     refine wpAny_bind (κ.quiet hc ?_)
     simp only [Bool.not_true, Bool.false_eq_true, if_false]
     refine wpAny_bind (X.cls hx ?_)
     simp only [Bool.false_eq_true, if_false]
     refine wpAny_bind (X.cls hc ?_)
     simp only [Bool.false_eq_true, if_false]
     exact wpAny_pure ⟨⟨rfl, rfl⟩, al'⟩
 · rintro ⟨r1, r2⟩ s' ⟨⟨hr, rfl⟩, _⟩
   cases (show r1 = none from hr)
   exact wpAny_pure q
abbrev from0 (m : Nat) (h : Int) : SetTable.Probe := runAt m (SetTable.bits h % (m + 1)) (SetTable.bits h)
theorem qry (m : Nat) : ∀ (n : Nat) (p : SetTable.Probe), p.dummy = none -> (nth m p n).dummy = none
 | 0, _, h => h
 | n + 1, p, h => qry m n (adv m p) (by unfold adv; split <;> exact h)
theorem qxX (X : qcA κ) (R : Held κ s.heap a M es ep t) {x : Addr} {k : K} (hx : κ.is s.heap k x) (hu : κ.room A) {n : Nat} (hn : n < 10 * SetTable.turns t.mask) (free : way t.mask (κ.hash k) n ∉ t.place.toList)
   (full : ∀ c, c < n -> way t.mask (κ.hash k) c ∈ t.place.toList) {Q : SetFound -> Shared -> Prop} (yes : k ∈ M.map (·.2) -> Q (.there none) s) (no : k ∉ M.map (·.2) -> Q (.free (way t.mask (κ.hash k) n) false) s) :
   ∀ (fuel c : Nat) (st : Option SetTable.Probe), st.getD (t.probeStart (κ.hash k)) = nth t.mask (from0 t.mask (κ.hash k)) c -> c <= n -> n - c < fuel ->
     (∀ (i : Nat) p, M[i]? = some p -> p.2 = k -> ∃ e, c <= e /\ e < n /\ t.place.toList[i]? = some (way t.mask (κ.hash k) e)) -> wpAny (model P w) A (setSearchFrom a (.ref x) (κ.hash k) true fuel st) Q E s := by
 intro fuel
 induction fuel with
 | zero => exact λ c st _ _ z _ => absurd z (Nat.not_lt_zero _)
 | succ fuel ih =>
   intro c st hst hc hfu ahead
   obtain ⟨o, ho, hex, hd⟩ := R.obj
   have hj : ∀ q, nth t.mask (nth t.mask (from0 t.mask (κ.hash k)) c) q = nth t.mask (from0 t.mask (κ.hash k)) (c + q) := λ q => (nth_add t.mask c _ q).symm
   have hw : ∀ q, (nth t.mask (nth t.mask (from0 t.mask (κ.hash k)) c) q).j = way t.mask (κ.hash k) (c + q) := λ q => congrArg (·.j) (hj q)
   have hash_at : ∀ (i : Nat) p, M[i]? = some p -> (es[i]?.map (·.1)).getD 0 = κ.hash p.2 := λ i p hp => by
     rw [qhp R.lay hp]
     rfl
   rw [setSearchFrom_succ]
   refine wpAny_bind (wpAny_setState_of ho hd R.fits ?_)
   refine wp_if_neg (by unfold SetTable.gaveWay; rw [qBh R.tab.mok]; decide) ?_
   try refine wpAny_bind (wpAny_pure ?_)
   have g := go_spec t R.tab.ris R.tab.dm (λ i => (es[i]?.map (·.1)).getD 0) (κ.hash k) (10 * SetTable.turns t.mask) (n - c) (nth t.mask (from0 t.mask (κ.hash k)) c) (qry _ c _ rfl) (by omega)
     (λ q hq => by rw [hw]; exact full _ (by omega)) (by rw [hw, Nat.add_sub_cancel' hc]; exact free)
   rw [<- hst] at g
   rcases g with ⟨q, i, hq, hi, hh, before, met⟩ | ⟨before, met⟩
   · rw [hst, hw] at hi
     have hil : i < M.length := by
       have h1 := (List.getElem?_eq_some_iff.mp hi).1
       rw [Array.length_toList, R.pl] at h1
       exact h1
     obtain ⟨p, hp⟩ : ∃ p, M[i]? = some p := ⟨_, List.getElem?_eq_getElem hil⟩
     have hpm := List.mem_of_getElem? hp
     have met' : t.probe (λ i => (es[i]?.map (·.1)).getD 0) (κ.hash k) (st.getD (t.probeStart (κ.hash k))) = some (.candidate (way t.mask (κ.hash k) (c + q)) i (nth t.mask (from0 t.mask (κ.hash k)) (c + (q + 1)))) := by
       rw [<- hw q, <- hj (q + 1), <- hst]
       exact met
     rw [met']
     have tail : wpAny (model P w) A (searchRest a (.ref x) (κ.hash k) true fuel es t (way t.mask (κ.hash k) (c + q)) i (nth t.mask (from0 t.mask (κ.hash k)) (c + (q + 1)))) Q E s := by
       unfold searchRest
       rw [qhp R.lay hp]
       refine wpAny_bind (wpAny_holding (κ.eqBool hu (R.mem p hpm) hx ?_))
       refine wpAny_bind (wpAny_setState_of ho hd R.fits ?_)
       by_cases same : p.2 = k
       · exact wp_if_pos (by simp [same]) (wpAny_pure (yes (List.mem_map.mpr ⟨p, hpm, same⟩)))
       · have live : t.slot (way t.mask (κ.hash k) (c + q)) = .live i := slot_live R.tab.ris hi
         refine wp_if_neg (by simp [same]) ?_
         try refine wpAny_bind (wpAny_pure ?_)
         rw [sameMem]
         simp only [if_true, live, qhp R.lay hp]
         refine wpAny_bind (wpAny_isSame_ref_self (wpAny_bind (wpAny_pure ?_)))
         simp only [if_true]
         refine wp_if_neg (by simp [same]) (ih (c + (q + 1)) _ rfl (by omega) (by omega) λ i0 p0 h0 e0 => ?_)
         obtain ⟨e, e1, e2, e3⟩ := ahead i0 p0 h0 e0
         refine ⟨e, ?_, e2, e3⟩
         have ne : e ≠ c + q := λ z => by
           rw [z] at e3
           have l2 := slot_live R.tab.ris e3
           rw [live] at l2
           cases l2
           rw [hp] at h0
           cases h0
           exact same e0
         have nb : ¬ e < c + q := λ z => before (e - c) i0 (by omega) (by rw [hst, hw, Nat.add_sub_cancel' e1]; exact e3) ((hash_at i0 p0 h0).trans (congrArg κ.hash e0))
         omega
     by_cases hl : t.led = true
     · refine wp_if_neg (by simp [hl]) ?_
       try refine wpAny_bind (wpAny_pure ?_)
       exact tail
     · refine wp_if_pos (by simp [hl]) ?_
       refine wpAny_bind (qxD X hx (λ y hy => ?_) ?_)
       · obtain ⟨e, he, rfl⟩ := List.mem_map.mp hy
         have he' : e ∈ es.toList := by
           have z := (Array.mem_filter.mp (Array.mem_toList_iff.mp he)).1
           exact Array.mem_toList_iff.mpr z
         rw [R.lay] at he'
         obtain ⟨p', hp', rfl⟩ := List.mem_map.mp he'
         exact ⟨_, _, rfl, R.mem p' hp'⟩
       · refine wp_if_neg (by decide) ?_
         try refine wpAny_bind (wpAny_pure ?_)
         exact tail
   · have met' : t.probe (λ i => (es[i]?.map (·.1)).getD 0) (κ.hash k) (st.getD (t.probeStart (κ.hash k))) = some (.empty (way t.mask (κ.hash k) n) none) := by
       have e := hw (n - c)
       rw [Nat.add_sub_cancel' hc] at e
       rw [<- e, <- hst]
       exact met
     rw [met']
     refine wpAny_pure (no λ hm => ?_)
     obtain ⟨p0, m0, e0⟩ := List.mem_map.mp hm
     obtain ⟨i0, h0⟩ := List.getElem?_of_mem m0
     obtain ⟨e, e1, e2, e3⟩ := ahead i0 p0 h0 e0
     exact before (e - c) i0 (by omega) (by rw [hst, hw, Nat.add_sub_cancel' e1]; exact e3) ((hash_at i0 p0 h0).trans (congrArg κ.hash e0))
theorem look (X : qcA κ) (R : Held κ s.heap a M es ep t) {x : Addr} {k : K} (hx : κ.is s.heap k x) (hu : κ.room A) {Q : SetFound -> Shared -> Prop} (yes : k ∈ M.map (·.2) -> Q (.there none) s)
   (no : ∀ n, k ∉ M.map (·.2) -> way t.mask (κ.hash k) n ∉ t.place.toList -> (∀ c, c < n -> way t.mask (κ.hash k) c ∈ t.place.toList) -> Q (.free (way t.mask (κ.hash k) n) false) s) :
   wpAny (model P w) A (setSearch a (.ref x) (κ.hash k) true) Q E s := by
 have spare := R.spare
 obtain ⟨n, n1, n2, n3⟩ := R.tab.first (by rw [List.length_map]; omega) (κ.hash k)
 have n4 : n < 100000 := by
   have z : SetTable.turns t.mask <= 526 := by
     unfold SetTable.turns
     rcases R.tab.mok with e | e | e | e <;> rw [e] <;> decide
   omega
 refine qxX X R hx hu n1 n2 n3 yes (λ q => no n q n2 n3) 100000 0 none rfl (Nat.zero_le _) (by omega) λ i p hp e => ?_
 have hil : i < t.place.toList.length := by
   rw [Array.length_toList, R.pl]
   exact (List.getElem?_eq_some_iff.mp hp).1
 obtain ⟨c, c1, c2⟩ := R.tab.before n2 (show (M.map λ p => κ.hash p.2)[i]? = some (κ.hash k) by rw [List.getElem?_map, hp, <- e]; rfl) (List.getElem?_eq_getElem hil)
 exact ⟨c, Nat.zero_le _, c1, by rw [List.getElem?_eq_getElem hil, c2]⟩
end
end DS
namespace DS
open PySem PySem.Spec PyProof.Rows L2
section
variable {P : Program} {w : World} {K : Type} [DecidableEq K] {κ : HeapKind P w K}
theorem qqL {α : Type} : ∀ M : List α, (List.range M.length).filterMap (λ i => M[i]?) = M
 | [] => rfl
 | x :: M => by
   rw [List.length_cons, List.range_succ_eq_map, List.filterMap_cons_some (show (x :: M)[0]? = some x from rfl), List.filterMap_map]
   exact congrArg _ (qqL M)
theorem reorder {M : List (Addr × K)} {es : Array (Int × Value)} {ord : Array Nat} (lay : es.toList = qa2 κ M) (hp : ord.toList.Perm (List.range M.length)) :
   ∃ N : List (Addr × K), (ord.filterMap (es[·]?)).toList = qa2 κ N /\ N.Perm M /\ (N.map λ p => κ.hash p.2) = ord.toList.map λ i => (es.map (·.1)).getD i 0 := by
 have at_ : ∀ i, es[i]? = (M[i]?).map (λ p : Addr × K => (κ.hash p.2, Value.ref p.1)) := λ i => by rw [<- Array.getElem?_toList, lay, qa2, List.getElem?_map]
 refine ⟨ord.toList.filterMap (M[·]?), ?_, ?_, ?_⟩
 · rw [Array.toList_filterMap, qa2, List.map_filterMap]
   exact congrArg (λ f => List.filterMap f ord.toList) (funext at_)
 · have z := hp.filterMap (M[·]?)
   rwa [qqL] at z
 · have inn : ∀ i ∈ ord.toList, i < M.length := λ i hi => List.mem_range.mp (hp.mem_iff.mp hi)
   generalize ord.toList = l at inn ⊢
   induction l with
   | nil => rfl
   | cons i l ih =>
     have hi := List.getElem?_eq_getElem (inn i List.mem_cons_self)
     rw [List.filterMap_cons_some hi, List.map_cons, List.map_cons, ih λ j hj => inn j (List.mem_cons_of_mem _ hj)]
     have z : (es.map (·.1))[i]? = some (κ.hash (M[i]'(inn i List.mem_cons_self)).2) := by rw [Array.getElem?_map, at_, hi]; rfl
     rw [Array.getD_eq_getD_getElem?, z]
     rfl
variable {A : Around} {E : Value -> Shared -> Prop} {s : Shared} {a : Addr}
theorem qk2 (X : qcA κ) {h : Heap} {o : Obj} {es : Array (Int × Value)} {ep : Nat} {t : SetTable} (ho : h.get? a = some o) (hex : o.ExactSet) (hd : o.data = .set es ep t)
   {N : List (Addr × K)} {es' : Array (Int × Value)} {t' : SetTable} (lay : es'.toList = qa2 κ N) (tab : Tab t' (N.map λ p => κ.hash p.2)) (once : (N.map (·.2)).Nodup) (mem : ∀ p ∈ N, κ.is h p.2 p.1)
   (led : w.params.followText "set-order" = true ∨ t'.led = true) (spare : N.length * 5 < t'.mask * 3) (few : N.length < 306) : Held κ (h.update a (Obj.putSet es' t')) a N es' (ep + 1) t' :=
 ⟨⟨_, store_at ho hd, ⟨hex.1, hex.2.1, hex.2.2⟩, rfl⟩, lay, tab, once, λ p hp => X.stay (mem p hp) ho hd (Heap.SameBut.update ..), led, spare, few⟩
theorem qxK (X : qcA κ) {o : Obj} {es : Array (Int × Value)} {ep : Nat} {t : SetTable} {N : List (Addr × K)} (ho : s.heap.get? a = some o) (hex : o.ExactSet) (hd : o.data = .set es ep t) (lay : es.toList = qa2 κ N)
   (pl : t.place.size = N.length) (dm : t.dummies = #[]) (fl : N.length <= t.mask) (once : (N.map (·.2)).Nodup) (mem : ∀ p ∈ N, κ.is s.heap p.2 p.1) (led : w.params.followText "set-order" = true ∨ t.led = true)
   {want m : Nat} (e1 : SetTable.sizeAbove want = m + 1) (e2 : Msk m) (spare : N.length * 5 < m * 3) (few : N.length < 306) {Q : Unit -> Shared -> Prop}
   (q : ∀ h' N' es' ep' t', Heap.SameBut a s.heap h' -> Held κ h' a N' es' ep' t' -> N'.Perm N -> Q () { s with heap := h' }) : wpAny (model P w) A (setRelay a want) Q E s := by
 have hz := qfG lay
 have hm : m <= 511 := by rcases e2 with e | e | e | e <;> omega
 obtain ⟨t', ord, r1, r2, r3, r4, r5⟩ := laid t (hs := es.map (·.1)) (want := want) (m := m) e1 e2 (by rw [Array.size_map, hz]; omega)
 rw [Array.size_map, hz] at r2
 obtain ⟨N', n1, n2, n3⟩ := reorder lay r2
 rw [<- n3] at r3
 have hz' : (ord.filterMap (es[·]?)).size = es.size := (qfG n1).trans (n2.length_eq.trans hz.symm)
 rw [setRelay_eq]
 refine wpAny_bind (wpAny_setState_of ho hd (fits_of (pl.trans hz.symm) dm (by omega)) ?_)
 refine wp_if_neg (by rw [sizeLine_eq, e1]; omega) ?_
 try refine wpAny_bind (wpAny_pure ?_)
 rw [r1]
 refine wpAny_bind (wp_if_neg (by rw [hz']; simp) ?_)
 try refine wpAny_bind (wpAny_pure ?_)
 refine wpAny_pure (wpAny_storeSet_of ho hd ?_ (by rw [hz', hz, sizeLine_eq]; omega))
 refine q _ N' _ _ _ (Heap.SameBut.update ..) (qk2 X ho hex hd n1 r3 ((n2.map (·.2)).nodup_iff.mpr once) (λ p hp => mem p (n2.mem_iff.mp hp)) (by rw [r5]; exact led) (by rw [n2.length_eq, r4]; exact spare) (by rw [n2.length_eq]; exact few)) n2
theorem quB : SetTable.sizeAbove (SetTable.grown 77) = 512 := by decide +kernel
theorem qAe {t : SetTable} {hs : List Int} (T : Tab t hs) (b : Bool) : Tab { t with plain := b } hs := ⟨T.ris, T.dm, T.sz, T.mok, T.bd, T.reach⟩
variable {M : List (Addr × K)} {es : Array (Int × Value)} {ep : Nat} {t : SetTable}
def Plus (M : List (Addr × K)) (x : Addr) (k : K) (M' : List (Addr × K)) : Prop := (k ∈ M.map (·.2) /\ M' = M) ∨ (k ∉ M.map (·.2) /\ M'.Perm ((x, k) :: M))
theorem add (X : qcA κ) (R : Held κ s.heap a M es ep t) {x : Addr} {k : K} (hx : κ.is s.heap k x) (hu : κ.room A) (few : M.length + 1 < 306) {Q : Bool -> Shared -> Prop}
   (q : ∀ b h' M' es' ep' t', Heap.SameBut a s.heap h' -> Held κ h' a M' es' ep' t' -> Plus M x k M' -> Q b { s with heap := h' }) : wpAny (model P w) A (setAddHashed a (.ref x) (κ.hash k)) Q E s := by
 obtain ⟨o, ho, hex, hd⟩ := R.obj
 have spare := R.spare
 have hz := R.size
 refine wpAny_holding ?_
 rw [show (100000 : Nat) = 99999 + 1 from rfl, setAddHashedIn_succ]
 refine wpAny_bind (wpAny_setState_of ho hd R.fits (wp_if_neg (by simp [byScan, Value.scannable]) ?_))
 try refine wpAny_bind (wpAny_pure ?_)
 refine wpAny_bind (look X R hx hu (λ hm => wpAny_pure (q false s.heap M es ep t (Heap.SameBut.refl a s.heap) R (.inl ⟨hm, rfl⟩))) λ n hm n2 n3 => ?_)
 obtain ⟨c1, c2, c3, c4, c5, c6, c9⟩ := R.tab.put n2 n3
 refine wpAny_bind (wpAny_setState_of ho hd R.fits ?_)
 have tail : ∀ pb : Bool, wpAny (model P w) A (do
     storeSet a (SetTable.insertAt es (t.put (way t.mask (κ.hash k) n)).2 (κ.hash k, .ref x)) (if pb then (t.put (way t.mask (κ.hash k) n)).1 else { (t.put (way t.mask (κ.hash k) n)).1 with plain := false })
     if !false && (if pb then (t.put (way t.mask (κ.hash k) n)).1 else { (t.put (way t.mask (κ.hash k) n)).1 with plain := false }).tooFull then setRelay a (SetTable.grown (es.size + 1))
     return true) Q E s := λ pb => by
   rw [c1]
   obtain ⟨i, hi⟩ : ∃ i, i = SetTable.below t.place (way t.mask (κ.hash k) n) := ⟨_, rfl⟩
   rw [<- hi] at c2 c3 ⊢
   obtain ⟨N, hN⟩ : ∃ N, N = M.take i ++ (x, k) :: M.drop i := ⟨_, rfl⟩
   have pm : N.Perm ((x, k) :: M) := hN ▸ put_perm M i (x, k)
   have len : N.length = M.length + 1 := pm.length_eq
   have lay : (SetTable.insertAt es i (κ.hash k, Value.ref x)).toList = qa2 κ N := by
     rw [SetTable.toList_insertAt, R.lay, hN]
     simp only [qa2, List.map_append, List.map_cons, List.map_take, List.map_drop]
   have tab : Tab (t.put (way t.mask (κ.hash k) n)).1 (N.map λ p => κ.hash p.2) := by
     rw [hN]
     simpa only [List.map_append, List.map_cons, List.map_take, List.map_drop] using c3
   have once : (N.map (·.2)).Nodup := (pm.map (·.2)).nodup_iff.mpr (List.nodup_cons.mpr ⟨hm, R.once⟩)
   have mem : ∀ p ∈ N, κ.is s.heap p.2 p.1 := λ p hp => by
     rcases List.mem_cons.mp (pm.mem_iff.mp hp) with z | z
     · exact z ▸ hx
     · exact R.mem p z
   generalize (t.put (way t.mask (κ.hash k) n)).1 = T at c4 c5 c9 tab ⊢
   rw [List.length_map] at c9
   have led : w.params.followText "set-order" = true ∨ T.led = true := c5 ▸ R.led
   obtain ⟨U, hU, u1, u2, u3, u4⟩ : ∃ U : SetTable, U = (if pb then T else { T with plain := false }) /\ Tab U (N.map λ p => κ.hash p.2) /\ U.mask = t.mask /\ U.led = T.led /\ U.tooFull = decide ((M.length + 1) * 5 ≥ t.mask * 3) := by
     refine ⟨_, rfl, ?_⟩
     cases pb
     · refine ⟨qAe tab false, c4, rfl, ?_⟩
       show decide (T.fill * 5 ≥ T.mask * 3) = _
       rw [c9, c4]
     · exact ⟨tab, c4, rfl, by unfold SetTable.tooFull; simp only [if_true]; rw [c9, c4]⟩
   rw [<- hU]
   have zs := qfG lay
   generalize SetTable.insertAt es i (κ.hash k, Value.ref x) = es1 at lay zs ⊢
   refine wpAny_bind (wpAny_storeSet_of ho hd ?_ (by rw [zs, sizeLine_eq]; omega))
   by_cases hf : (M.length + 1) * 5 ≥ t.mask * 3
   · have tw : (t.mask = 7 /\ M.length = 4) ∨ (t.mask = 31 /\ M.length = 18) ∨ (t.mask = 127 /\ M.length = 76) := by
       rcases R.tab.mok with e | e | e | e <;> rw [e] at hf spare <;> omega
     have go : ∀ m, SetTable.sizeAbove (SetTable.grown (es.size + 1)) = m + 1 -> Msk m -> (M.length + 1) * 5 < m * 3 -> wpAny (model P w) A (setRelay a (SetTable.grown (es.size + 1))) (λ _ s' => wpAny (model P w) A (pure true) Q E s') E { s with heap := s.heap.update a (Obj.putSet es1 U) } := λ m e1 e2 e3 =>
       qxK (s := { s with heap := s.heap.update a (Obj.putSet es1 U) }) X (store_at ho hd) ⟨hex.1, hex.2.1, hex.2.2⟩ rfl lay (by have := u1.sz; rwa [List.length_map] at this) u1.dm (by rw [u2, len]; rcases tw with ⟨z1, z2⟩ | ⟨z1, z2⟩ | ⟨z1, z2⟩ <;> omega) once
         (λ p hp => X.stay (mem p hp) ho hd (Heap.SameBut.update ..)) (by rw [u3]; exact led) e1 e2 (by rw [len]; exact e3) (by rw [len]; exact few)
         λ h' N' es' ep' t' sb H pm' => wpAny_pure (q true h' N' es' ep' t' ((Heap.SameBut.update ..).trans sb) H (.inr ⟨hm, pm'.trans pm⟩))
     first
       | (refine wpAny_bind ?_; refine wp_if_pos (by simp [u4, hf]) ?_)
       | (refine wp_if_pos (by simp [u4, hf]) ?_; refine wpAny_bind ?_)
     rcases tw with ⟨_, z⟩ | ⟨_, z⟩ | ⟨_, z⟩
     · exact go 31 (by rw [hz, z, size_20]) (.inr (.inl rfl)) (by omega)
     · exact go 127 (by rw [hz, z, size_76]) (.inr (.inr (.inl rfl))) (by omega)
     · exact go 511 (by rw [hz, z, quB]) (.inr (.inr (.inr rfl))) (by omega)
   · first
       | refine wp_if_neg (by simp [u4]; omega) ?_
       | (refine wpAny_bind ?_; refine wp_if_neg (by simp [u4]; omega) ?_; refine wpAny_pure ?_)
     exact wpAny_pure (q true _ N es1 (ep + 1) U (Heap.SameBut.update ..) (qk2 X ho hex hd lay u1 once mem (by rw [u3]; exact led) (by rw [u2, len]; omega) (by rw [len]; exact few)) (.inr ⟨hm, pm⟩))
 by_cases hp : (t.put (way t.mask (κ.hash k) n)).1.plain = true
 · first
     | (refine wpAny_bind ?_; refine wp_if_pos hp ?_; refine X.byv hx λ r => ?_)
     | refine wp_if_pos hp (wpAny_bind (X.byv hx λ r => ?_))
   exact tail r
 · first
     | (refine wpAny_bind ?_; refine wp_if_neg hp ?_; refine wpAny_pure ?_)
     | refine wp_if_neg hp (wpAny_bind (wpAny_pure ?_))
     | refine wp_if_neg hp ?_
   exact tail true
theorem qr6 (b : Bool) : Tab (.fresh 0 0 b) [] where
 ris := List.Pairwise.nil
 dm := rfl
 sz := rfl
 mok := .inl rfl
 bd := λ x hx => (by cases hx)
 reach := λ q hq => (by cases hq)
theorem qAT {h : Heap} (ho : h.get? a = some { cls := .type "set", dict := none, data := .set #[] 0 (.fresh 0 0 (!w.params.followText "set-order")) }) : Held κ h a [] #[] 0 (.fresh 0 0 (!w.params.followText "set-order")) where
 obj := ⟨_, ho, ⟨rfl, rfl, rfl⟩, rfl⟩
 lay := rfl
 tab := qr6 _
 once := List.nodup_nil
 mem := λ p hp => (by cases hp)
 led := (by
   show _ ∨ (!w.params.followText "set-order") = true
   cases w.params.followText "set-order" <;> simp)
 spare := (by decide : 0 * 5 < 7 * 3)
 few := (by decide : 0 < 306)
end
end DS
namespace DS
open PySem PySem.Spec PyProof.Rows L2
open PySem.W PyProof.Rows.G
abbrev TK (P : Program) (w : World) := tupleKind (mixKind P w)
section
variable {P : Program} {w : World} {A : Around} {E : Value -> Shared -> Prop} {s : Shared}
def Plain (v : Value) : Prop := (∃ i t, v = Value.int i t) ∨ ∃ x t, v = Value.str x t
theorem qyQ {k : Key} {v : Value} (h : (mixKind P w).is k v = true) : Plain v := by
 rcases keyIs_shape (show keyIs k v = true from h) with ⟨i, t, _, e⟩ | ⟨x, t, _, e⟩
 · exact .inl ⟨i, t, e⟩
 · exact .inr ⟨x, t, e⟩
theorem plain_all {ks : List Key} {vs : List Value} (h : ItemsAre (mixKind P w) ks vs) : ∀ v ∈ vs, Plain v := by
 induction h with
 | nil => exact λ v hv => nomatch hv
 | cons h1 _ ih =>
   intro v hv
   rcases List.mem_cons.mp hv with e | hv
   · exact e ▸ qyQ h1
   · exact ih v hv
theorem qtg {v : Value} (n : Nat) (h : Plain v) : ofAClassStatement n v = pure false := by
 rcases h with ⟨i, t, rfl⟩ | ⟨x, t, rfl⟩ <;> cases n <;> rfl
theorem quo {v : Value} (n : Nat) (h : Plain v) : ∃ b, hashByValue n v = pure b := by
 rcases h with ⟨i, t, rfl⟩ | ⟨x, t, rfl⟩
 · exact ⟨true, by cases n <;> rfl⟩
 · exact ⟨false, by cases n <;> rfl⟩
theorem tupExtra : qcA (TK P w) where
 cls := λ {A E s k b Q} hk q => by
   have hT : s.TypeIs (.ref b) "tuple" := IsTupleKey.typeIs hk
   obtain ⟨o, its, n, ho, _, hd, hi⟩ := hk
   unfold ofAClassStatement
   refine wpAny_bind (wpAny_typeOf hT ?_)
   dsimp only
   rw [show (("tuple" : String) == "tuple") = true from by decide]
   simp only [if_true, Bool.not_true, Bool.false_eq_true, if_false]
   try refine wpAny_bind (wpAny_pure ?_)
   try simp only [Bool.not_true, Bool.false_eq_true, if_false]
   show wpAny _ _ (seqItems? (.ref b) >>= _) _ _ s
   refine wpAny_bind (wpAny_seqItems ho hd (wpAny_bind ?_))
   show wpAny _ _ (forIn its _ _) _ _ s
   rw [<- Array.forIn_toList]
   refine wpAny_forIn_list _ (λ l r s' => (r.1 = none /\ s' = s) /\ ∀ v ∈ l, Plain v) _ ?_ ?_ _ _ ⟨⟨rfl, rfl⟩, plain_all hi⟩
   · rintro v l r s' ⟨⟨hr, rfl⟩, al⟩
     rw [qtg _ (al v List.mem_cons_self)]
     refine wpAny_bind (wpAny_pure ?_)
     simp only [Bool.false_eq_true, if_false]
     exact wpAny_pure ⟨⟨rfl, rfl⟩, λ u hu => al u (List.mem_cons_of_mem _ hu)⟩
   · rintro ⟨r1, r2⟩ s' ⟨⟨hr, rfl⟩, _⟩
     cases (show r1 = none from hr)
     exact wpAny_pure q
 byv := λ {A E s k b Q} hk q => by
   have hT : s.TypeIs (.ref b) "tuple" := IsTupleKey.typeIs hk
   obtain ⟨o, its, n, ho, _, hd, hi⟩ := hk
   unfold hashByValue
   refine wpAny_bind (wpAny_specialOf hT F.slot_tuple_hash.lookup ?_)
   show wpAny _ _ (seqItems? (.ref b) >>= _) _ _ s
   refine wpAny_bind (wpAny_seqItems ho hd (wpAny_bind ?_))
   show wpAny _ _ (forIn its _ _) _ _ s
   rw [<- Array.forIn_toList]
   refine wpAny_forIn_list _ (λ l r s' => s' = s /\ ∀ v ∈ l, Plain v) _ ?_ ?_ _ _ ⟨rfl, plain_all hi⟩
   · rintro v l r s' ⟨rfl, al⟩
     obtain ⟨y, hy⟩ := quo 7 (al v List.mem_cons_self)
     rw [hy]
     refine wpAny_bind (wpAny_pure ?_)
     cases y
     · simp only [Bool.not_false, if_true]
       exact wpAny_pure (wpAny_pure (q _))
     · simp only [Bool.not_true, Bool.false_eq_true, if_false]
       exact wpAny_pure ⟨rfl, λ u hu => al u (List.mem_cons_of_mem _ hu)⟩
   · rintro ⟨r1, r2⟩ s' ⟨rfl, _⟩
     cases r1 <;> exact wpAny_pure (q _)
 stay := λ {h h' k b d o es ep t} hk ho hd sb => by
   obtain ⟨o', its, n, ho', hc, hd', hi⟩ := hk
   refine ⟨o', its, n, (sb.2 b λ z => ?_).trans ho', hc, hd', hi⟩
   subst z
   rw [ho] at ho'
   cases ho'
   rw [hd] at hd'
   cases hd'
 ext := λ {h h' k b} hk kp => by
   obtain ⟨o', its, n, ho', r⟩ := hk
   exact ⟨o', its, n, kp _ _ ho', r⟩
def kc : Key -> Int ⊕ List Nat
 | .inl i => .inl i
 | .inr x => .inr x.cps.toList
def isTx : Key -> Bool
 | .inl _ => false
 | .inr _ => true
abbrev lexO : KeyOrd := listOrd itemOrd
def kl (k : List Key) : List (Int ⊕ List Nat) := k.map kc
theorem quV : ∀ {a b : Key}, kc a = kc b -> a = b
 | .inl a, .inl b, h => by cases h; rfl
 | .inl a, .inr b, h => nomatch h
 | .inr a, .inl b, h => nomatch h
 | .inr a, .inr b, h => by
   have e : a.cps.toList = b.cps.toList := Sum.inr.inj h
   obtain ⟨x⟩ := a
   obtain ⟨y⟩ := b
   have e' : x = y := Array.ext' e
   rw [e']
theorem qhK : ∀ {a b : List Key}, kl a = kl b -> a = b
 | [], [], _ => rfl
 | [], _ :: _, h => nomatch h
 | _ :: _, [], h => nomatch h
 | x :: a, y :: b, h => by
   have h' : kc x :: kl a = kc y :: kl b := h
   injection h' with h1 h2
   rw [quV h1, qhK h2]
def ltK (a b : List Key) : Bool := lexO.blt (kl a) (kl b)
def Shaped (sh : Nat -> Bool) (k : List Key) : Prop := k ≠ [] /\ ∀ i x, k[i]? = some x -> isTx x = sh i
theorem qpG {sh : Nat -> Bool} : ∀ {k : List Key} {vs : List Value} {n : Nat}, ItemsAre (mixKind P w) k vs -> (∀ i x, k[i]? = some x -> isTx x = sh (n + i)) -> tupItems sh n vs = some (kl k)
 | _, _, n, .nil, _ => rfl
 | _, _, n, @ItemsAre.cons _ _ _ _ _ x v ks vs h1 t, h => by
   have h0 := h 0 x rfl
   have ih := qpG (n := n + 1) t λ i y e => by rw [Nat.add_right_comm]; exact h (i + 1) y e
   rcases keyIs_shape (show keyIs x v = true from h1) with ⟨i, tk, rfl, rfl⟩ | ⟨y, tk, rfl, rfl⟩
   · have z : sh n = false := h0.symm
     simp only [tupItems, z, Bool.false_eq_true, if_false, ih]
     rfl
   · have z : sh n = true := h0.symm
     simp only [tupItems, z, if_true, ih]
     rfl
theorem qjI {sh : Nat -> Bool} {h : Heap} {b : Addr} {k : List Key} (hk : (TK P w).is h k b) (z : Shaped sh k) : tupKeyC h sh (.ref b) = some (kl k) := by
 obtain ⟨o, its, n, ho, hc, hd, hi⟩ := hk
 exact tupKeyC_of ho hc hd (qpG hi λ i x e => by rw [Nat.zero_add]; exact z.2 i x e)
theorem first_at {sh : Nat -> Bool} {h : Heap} {b : Addr} {k : List Key} (hk : (TK P w).is h k b) (z : Shaped sh k) : ∃ f, TupOf h sh (.ref b) f := by
 obtain ⟨o, its, n, ho, hc, hd, hi⟩ := hk
 cases k with
 | nil => exact absurd rfl z.1
 | cons x ks =>
   obtain ⟨l⟩ := its
   cases hi with
   | @cons _ v _ vs h1 t =>
     have zx := z.2 0 x rfl
     refine ⟨v, b, o, _, n, rfl, ho, hc, hd, rfl, λ e => ?_, λ e => ?_⟩
     · rcases keyIs_shape (show keyIs x v = true from h1) with ⟨i, tk, rfl, rfl⟩ | ⟨y, tk, rfl, rfl⟩
       · exact ⟨i, tk, rfl⟩
       · rw [e] at zx
         cases zx
     · rcases keyIs_shape (show keyIs x v = true from h1) with ⟨i, tk, rfl, rfl⟩ | ⟨y, tk, rfl, rfl⟩
       · rw [e] at zx
         cases zx
       · exact ⟨y, tk, rfl⟩
theorem firsts {sh : Nat -> Bool} {h : Heap} : ∀ {vs : List Value}, (∀ v ∈ vs, ∃ f, TupOf h sh v f) -> ∃ fs, TupsOf h sh vs fs
 | [], _ => ⟨[], .nil⟩
 | v :: vs, al => by
   obtain ⟨f, hf⟩ := al v List.mem_cons_self
   obtain ⟨fs, hfs⟩ := firsts λ u hu => al u (List.mem_cons_of_mem _ hu)
   exact ⟨f :: fs, .cons hf hfs⟩
theorem qcG {α β : Type} {f : α -> β} : ∀ {vs : List β} {M : List α}, vs.Perm (M.map f) -> ∃ N : List α, vs = N.map f /\ N.Perm M
 | [], M, h => by
   have z : M.map f = [] := h.symm.eq_nil
   have z' : M = [] := by simpa using z
   exact ⟨[], rfl, z' ▸ List.Perm.refl _⟩
 | v :: vs, M, h => by
   obtain ⟨m, hm, e⟩ := List.mem_map.mp (h.mem_iff.mp List.mem_cons_self)
   obtain ⟨l, r, rfl⟩ := List.append_of_mem hm
   subst e
   have h2 : (f m :: vs).Perm (f m :: (l ++ r).map f) := h.trans (by rw [List.map_append, List.map_cons, List.map_append]; exact List.perm_middle)
   obtain ⟨N, rfl, p⟩ := qcG (h2.cons_inv)
   exact ⟨m :: N, rfl, (p.cons m).trans List.perm_middle.symm⟩
theorem qAs {κ : KeyKind} {vs : List Value} {xs : Array Keyed} (p : xs.Perm (pairsOf vs)) (q : SortedToK κ xs (pairsOf vs).size) :
   (xs.map (·.2)).toList.Perm vs /\ (xs.map (·.2)).toList.Pairwise λ u v => κ.kle ((κ.keyOf u).getD κ.dflt) ((κ.keyOf v).getD κ.dflt) := by
 have pl := Array.perm_iff_toList_perm.mp p
 rw [pairsOf_toList] at pl
 have tw : ∀ y ∈ xs.toList, y.1 = y.2 := λ y hy => (mem_zip_self (pl.mem_iff.mp hy)).1
 refine ⟨?_, ?_⟩
 · rw [Array.toList_map]
   have z := pl.map Prod.snd
   rwa [List.map_snd_zip (Nat.le_refl _)] at z
 · rw [Array.toList_map, List.pairwise_map]
   have hz : (pairsOf vs).size = xs.size := p.size_eq.symm
   rw [List.pairwise_iff_getElem]
   intro i j hi hj hij
   have kk : ∀ k (hk : k < xs.toList.length), KK κ xs k = (κ.keyOf xs.toList[k].2).getD κ.dflt := λ k hk => by
     have e : xs[k]? = some xs.toList[k] := by rw [<- Array.getElem?_toList, List.getElem?_eq_getElem hk]
     unfold KK
     rw [e]
     simp only
     rw [tw _ (List.getElem_mem hk)]
   have z := q i j (Nat.le_of_lt hij) (by rw [hz, <- Array.length_toList]; exact hj)
   rwa [kk i hi, kk j hj] at z
variable {a : Addr} {M : List (Addr × List Key)} {es : Array (Int × Value)} {ep : Nat} {t : SetTable}
theorem qkZ {x y : List Key} (hne : x ≠ y) (h : lexO.kle (kl x) (kl y)) : ltK x y = true := by
 unfold ltK
 cases e : lexO.blt (kl x) (kl y)
 · exact absurd (qhK (lexO.total _ _ e h)) hne
 · rfl
theorem ql7 {l : Addr} {n : Nat} {Q : Value -> Shared -> Prop} {sh : Nat -> Bool} {vs : List Value} (ho : s.heap.get? l = some (seqObj "list" vs.toArray n)) (ev : vs = M.map λ p => Value.ref p.1) (mem : ∀ p ∈ M, (TK P w).is s.heap p.2 p.1) (shp : ∀ p ∈ M, Shaped sh p.2)
   (hL : vs.length <= sizeLine) (q : ∀ (out : Array Value) (N : List (Addr × List Key)), out.toList = N.map (λ p => Value.ref p.1) -> N.Perm M -> N.Pairwise (λ x y => lexO.kle (kl x.2) (kl y.2)) -> Q .none { s with heap := sortedHeap s.heap l vs out }) :
   wpAny (model P w) A (call (.builtin "list.sort") [.ref l]) Q E s := by
 obtain ⟨fs, hfs⟩ := firsts (sh := sh) (h := s.heap) (vs := vs) λ v hv => by
   rw [ev] at hv
   obtain ⟨p, hp, rfl⟩ := List.mem_map.mp hv
   exact first_at (mem p hp) (shp p hp)
 have kys : ∀ v, v ∈ vs -> ∃ k, tupKeyC s.heap sh v = some k := λ v hv => by
   rw [ev] at hv
   obtain ⟨p, hp, rfl⟩ := List.mem_map.mp hv
   exact ⟨_, qjI (mem p hp) (shp p hp)⟩
 refine wpAny_call_entry slot_list_sort ⟨_, ho, rfl⟩ entry_list_sort (list_sort_tups ho hfs kys hL λ st' a1 a2 _ => ⟨_, rfl, ?_⟩) (args_list_sort _)
 obtain ⟨b1, b2⟩ := qAs a1 a2
 rw [ev] at b1
 obtain ⟨N, c1, c2⟩ := qcG b1
 refine q _ N c1 c2 ?_
 rw [c1] at b2
 refine List.Pairwise.imp_of_mem (λ {x y} hx hy h => ?_) (List.pairwise_map.mp b2)
 have k1 : tupKeyC s.heap sh (.ref x.1) = some (kl x.2) := qjI (mem x (c2.mem_iff.mp hx)) (shp x (c2.mem_iff.mp hx))
 have k2 : tupKeyC s.heap sh (.ref y.1) = some (kl y.2) := qjI (mem y (c2.mem_iff.mp hy)) (shp y (c2.mem_iff.mp hy))
 have h' : lexO.kle ((tupKeyC s.heap sh (.ref x.1)).getD []) ((tupKeyC s.heap sh (.ref y.1)).getD []) := h
 rw [k1, k2] at h'
 exact h'
theorem qBQ (R : Held (TK P w) s.heap a M es ep t) (hh : A.handled = none) {sh : Nat -> Bool} (shp : ∀ p ∈ M, Shaped sh p.2) {Q : Value -> Shared -> Prop}
   (q : ∀ s' p (out : Array Value) (c : Nat) (N : List (Addr × List Key)), (∀ b o, s.heap.get? b = some o -> s'.heap.get? b = some o) -> s'.gens = s.gens -> s'.os = s.os -> s.heap.objs.size <= p ->
     s'.heap.get? p = some (seqObj "list" out c) -> out.toList = N.map (λ x => Value.ref x.1) -> N.Perm M -> N.Pairwise (λ x y => ltK x.2 y.2 = true) -> Q (.ref p) s') :
   wpAny (model P w) A (call (.builtin "sorted") [.ref a]) Q E s := by
 obtain ⟨o, ho, hex, hd⟩ := R.obj
 have few := R.few
 have hz := R.size
 refine Calls.call_function_entry kind_sorted plain_sorted entry_sorted (args_sorted1 _) ?_
 unfold Builtin.«sorted»
 refine wpAny_bind (m := checkCount "sorted" 1 1 _) (wpAny_pure ?_)
 refine wpAny_bind (collect_set (A := A.in1) hh ⟨o, ho, hex.1, hd⟩ R.fits (by unfold scanBound; omega) R.tab.ris R.led λ s1 vs k1 z1 g1 o1 pm => ?_)
 have pm' : vs.Perm (M.map λ x => Value.ref x.1) := by
   have e : es.toList.map (·.2) = M.map λ x => Value.ref x.1 := by rw [R.lay, qa2, List.map_map]; rfl
   rw [<- e]
   exact pm
 obtain ⟨M1, rfl, p1⟩ := qcG pm'
 have len : (M1.map λ x => Value.ref x.1).length < 306 := by rw [List.length_map, p1.length_eq]; exact few
 refine wpAny_bind (wpAny_newList ?_ (by rw [sizeLine_eq]; omega))
 generalize hvs : (M1.map λ x => Value.ref x.1) = vs at len ⊢
 have hl : (s1.heap.push (seqObj "list" vs.toArray 0)).get? s1.heap.objs.size = some (seqObj "list" vs.toArray 0) := Heap.get?_push_size _ rfl
 refine wpAny_bind (wpAny_holding (ql7 (s := { s1 with heap := s1.heap.push (seqObj "list" vs.toArray 0) }) (M := M1) hl hvs.symm (λ p hp => tupExtra.ext (R.mem p (p1.mem_iff.mp hp)) λ b u e => Heap.get?_push_of_some _ (k1 b u e)) (λ p hp => shp p (p1.mem_iff.mp hp))
   (by rw [sizeLine_eq]; omega) λ out N e1 e2 e3 => ?_))
 obtain ⟨c, hc⟩ := sortedHeap_at (vs := vs) (out := out) hl
 have pM := e2.trans p1
 refine wpAny_pure ⟨_, rfl, q _ s1.heap.objs.size out c N (λ b u e => ?_) g1 o1 z1 hc e1 pM ?_⟩
 · have e' := k1 b u e
   have lt := Heap.lt_size e'
   show (sortedHeap (s1.heap.push (seqObj "list" vs.toArray 0)) s1.heap.objs.size vs out).get? b = some u
   rw [sortedHeap_old (Nat.ne_of_lt lt) (by rw [size_push']; exact Nat.lt_succ_of_lt lt)]
   exact Heap.get?_push_of_some _ e'
 · have nd : (N.map (·.2)).Nodup := (pM.map (·.2)).nodup_iff.mpr R.once
   have nd' : N.Pairwise λ x y => x.2 ≠ y.2 := List.pairwise_map.mp nd
   exact (nd'.and e3).imp λ {x y} h => qkZ h.1 h.2
end
end DS
namespace DS
open PySem PySem.Spec PyProof.Rows L2
open PySem.W PyProof.Rows.G PpSet
section
variable {P : Program} {w : World}
def Held0 (P : Program) (w : World) (h : Heap) (a : Addr) (M : List (Addr × List Key)) : Prop := ∃ es ep t, (∃ o, h.get? a = some o /\ o.ExactSet /\ o.data = .set es ep t) /\ es.toList = qa2 (TK P w) M /\ Tab t (M.map λ p => (TK P w).hash p.2) /\
 (M.map (·.2)).Nodup /\ (w.params.followText "set-order" = true ∨ t.led = true) /\ M.length * 5 < t.mask * 3 /\ M.length < 306
def KsO (P : Program) (w : World) (a : Addr) (M : List (Addr × List Key)) : HO := .ext λ h => Held0 P w h a M
theorem Held.bare {h : Heap} {a : Addr} {M : List (Addr × List Key)} {es : Array (Int × Value)} {ep : Nat} {t : SetTable} (R : Held (TK P w) h a M es ep t) : Held0 P w h a M := ⟨es, ep, t, R.obj, R.lay, R.tab, R.once, R.led, R.spare, R.few⟩
theorem Held0.full {h : Heap} {a : Addr} {M : List (Addr × List Key)} (R : Held0 P w h a M) (mem : ∀ p ∈ M, (TK P w).is h p.2 p.1) : ∃ es ep t, Held (TK P w) h a M es ep t :=
 let ⟨es, ep, t, h1, h2, h3, h4, h5, h6, h7⟩ := R
 ⟨es, ep, t, h1, h2, h3, h4, mem, h5, h6, h7⟩
theorem qq5 {H : Hp} {h : Heap} {a : Addr} {M : List (Addr × List Key)} (R : Held0 P w h a M) : ObjOk P w H h a (KsO P w a M) := by
 have ⟨_, _, _, ⟨o, ho, _⟩, _⟩ := R
 refine ⟨R, ⟨o, ho⟩, λ h1 h2 p k => ?_⟩
 have ⟨es', ep', t', ⟨o', ho', r⟩, q⟩ : Held0 P w h1 a M := p
 exact ⟨es', ep', t', ⟨o', k o' ho', r⟩, q⟩
end
section
variable {X : Cx}
theorem qj1 {pins : List (Addr × Obj)} {σ : L2.St} {H : Hp} {s : Shared} {b : Addr} {k : List Key} (I : Inv X pins σ H s) (h : SqT X.K H b (k.map kV)) : (TK X.prog X.w).is s.heap k b := by
 obtain ⟨its, r, ⟨o, ho, hc, n, hd⟩, _⟩ := I.tuple h
 exact ⟨o, its.toArray, n, ho, hc, hd, by simpa using items_are r⟩
theorem qlP {pins : List (Addr × Obj)} {σ : L2.St} {H : Hp} {s : Shared} {a : Addr} {M : List (Addr × List Key)} (I : Inv X pins σ H s) (ha : H a = some (KsO X.prog X.w a M)) (hm : ∀ p ∈ M, SqT X.K H p.1 (p.2.map kV)) : ∃ es ep t, Held (TK X.prog X.w) s.heap a M es ep t :=
 Held0.full (I.hok a _ ha).1 λ p hp => qj1 I (hm p hp)
def qhM (P : Program) (w : World) (K : PySem.W.Frag) (D : Addr) (y : V) (H : Hp) (Nx : Hp -> Prop) : Prop := ∃ (b : Addr) (k : List Key) (M : List (Addr × List Key)), y = .ref b /\ SqT K H b (k.map kV) /\ H D = some (KsO P w D M) /\ (∀ p ∈ M, SqT K H p.1 (p.2.map kV)) /\ M.length + 1 < 306 /\
 ∀ M', Plus M b k M' -> Nx (upd H D (KsO P w D M'))
theorem qwY {pins : List (Addr × Obj)} {σ : L2.St} {H : Hp} {s : Shared} {E : Value -> Shared -> Prop} {D : Addr} {y : V} {v : Value} {Nx : Hp -> Prop} {Q : Value -> Shared -> Prop} (I : Inv X pins σ H s) (hu : X.A.units + 64 < cLine) (r : RelV y v) (g : qhM X.prog X.w X.K D y H Nx)
   (q : ∀ H' s', Inv X pins σ H' s' -> Nx H' -> Q .none s') : wpAny (model X.prog X.w) X.A (call (.builtin "set.add") [.ref D, v]) Q E s := by
 obtain ⟨b, k, M, rfl, hb, hD, hm, few, nx⟩ := g
 cases (show v = Value.ref b from r)
 obtain ⟨es, ep, t, R⟩ := qlP I hD hm
 have hx := qj1 I hb
 obtain ⟨o, ho, hex, hd⟩ := R.obj
 refine wpAny_call_entry F.slot_set_add ⟨o, ho, hex.1⟩ F.entry_set_add ?_ (F.args_set_add_2 _ _)
 unfold Builtin.«set.add» Builtin.Frozenset.oneOther
 simp only [List.isEmpty_nil, bind_assoc]
 unfold Builtin.Frozenset.addrOf setAdd
 refine wpAny_bind (wpAny_pure ?_)
 refine wpAny_bind (wpAny_pure ?_)
 refine wpAny_bind (wpAny_holding (wpAny_bind ((TK X.prog X.w).pyHash (by show _ < _; first | exact (by omega : X.A.units < cLine) | (simp only [Around.in1]; omega)) hx ?_)))
 refine add (s := { s with toks := s.toks + (TK X.prog X.w).draws k }) tupExtra R hx (by show _ < _; first | exact (by omega : X.A.units < cLine) | (simp only [Around.in1]; omega)) few λ _ h' M' es' ep' t' sb R' pl => ?_
 obtain ⟨o', ho', _⟩ := R'.obj
 exact wpAny_pure ⟨_, rfl, q _ _ (I.write (e := D) (t' := s.toks + (TK X.prog X.w).draws k) (by rw [hD]; trivial) (.inl rfl) (λ c u hc hu => (sb.2 c hc).trans hu) ⟨o', ho'⟩ (qq5 R'.bare)) (nx M' pl)⟩
def tKs (P : Program) (w : World) (K : PySem.W.Frag) (ti : TI) (g : TG) (tt : TT) (te : TE) (vs : List Nat) : TE := λ σ H Q => ti σ H λ J Hs => ∀ D, Hs D = none -> ∃ Z : Nat -> Nat -> Hp -> Prop, (∃ m, Z 0 m (upd Hs D (KsO P w D []))) /\ ∀ i m H, Z i m H ->
 (J.stop i H /\ Q (.ref D) H) ∨ (J.go i H /\ ∃ Nx : Hp -> Prop, (∀ H', Nx H' -> ∃ m', m' < m /\ Z (i + 1) m' H') /\ ∀ x H', J.yld i H x H' -> g x (wipe σ vs) H' λ τ H2 => wipe τ vs = wipe σ vs /\ tt τ H2 λ b H3 => if b = true then te τ H3 λ y H4 => qhM P w K D y H4 Nx else Nx H3)
theorem qxO {elt tg iter : Expr} {ifs : List Expr} {scope : Scope} {own : List (PySem.Str × Nat)} {pos : Pos} {ti : TI} {g : TG} {tt : TT} {te : TE} (hc : X.calm = true) (hN : X.N.Nodup) (hu : X.A.units + 64 < cLine) (hi : PI X tg iter ti) (ok : BlkOk X.N X.env.scope scope own)
   (hg : ∀ (s : Shared) (H : Hp) (C : Addr) (cl : List (PySem.Str × Addr)) (fp : List Addr), PG (X.blk s H scope (compEnvC scope cl C X.env) fp) tg g) (ht : ∀ (s : Shared) (H : Hp) (C : Addr) (cl : List (PySem.Str × Addr)) (fp : List Addr), PTs (X.blk s H scope (compEnvC scope cl C X.env) fp) ifs tt)
   (he : ∀ (s : Shared) (H : Hp) (C : Addr) (cl : List (PySem.Str × Addr)) (fp : List Addr), PE (X.blk s H scope (compEnvC scope cl C X.env) fp) elt te) (hs : ∀ x, foldedSetIterable iter X.env x = pure x := by intro _; rfl) :
   PE X (.SetComp elt [⟨tg, iter, ifs, 0⟩] scope pos) (tKs X.prog X.w X.K ti g tt te (own.map (·.2))) := by
 refine ⟨λ pins s σ H Q I h => ?_⟩
 rw [eval_SetComp]
 have clo : ∀ y ∈ scope.names, y.2 = .free -> ∃ c, X.env.cells.lookup y.1 = some c := λ y hy e => by
   rcases ok.free y hy e with z | z
   · exact I.ok.has _ (.inl z)
   · exact I.ok.has _ (.inr z)
 refine wpAny_comprehension_free rfl hs (closure_ok clo) ok.kind (λ y hy e => by rw [ok.uniq y hy, e]) (thn (hi.run pins s σ H _ I h) λ xv s1 hx => thn hx λ itv s2 ⟨it, fp, tn, J, H2, e, I2, T, st2, f2, q⟩ => ?_)
 subst e
 refine newSet_ok (newEnv_comp ?_)
 obtain ⟨so, hso⟩ : ∃ so : Obj, so = { cls := .type "set", dict := none, data := .set #[] 0 (.fresh 0 0 (!X.w.params.followText "set-order")) } := ⟨_, rfl⟩
 rw [<- hso]
 obtain ⟨D, hD⟩ : ∃ D, D = s2.heap.objs.size := ⟨_, rfl⟩
 rw [<- hD]
 have nD : H2 D = none := I2.hok.fresh (Nat.le_of_eq hD.symm)
 obtain ⟨Z, ⟨m0, z0⟩, turn⟩ := q D nD
 have old : ∀ b o, s2.heap.get? b = some o -> (s2.heap.push so).get? b = some o := λ b o e => Heap.get?_push_of_some _ e
 obtain ⟨s3, hs3⟩ : ∃ s3 : Shared, s3 = { s2 with heap := s2.heap.push so } := ⟨_, rfl⟩
 have e3 : s3.heap = s2.heap.push so := by rw [hs3]
 obtain ⟨H3, hH3⟩ : ∃ H3, H3 = upd H2 D (KsO X.prog X.w D []) := ⟨_, rfl⟩
 have I3 : Inv X pins σ H3 s3 := by
   rw [hs3, hH3]
   exact I2.laid (t' := s2.toks) old (Nat.le_of_eq hD.symm) (qq5 (qAT (by rw [hD, hso]; exact Heap.get?_push_size _ rfl)).bare)
 have low : ∀ b ∈ fp, b < s2.heap.objs.size := λ b hb => let ⟨o, e, _⟩ := T.obj _ _ st2 b hb; Heap.lt_size e
 have f3 : ∀ b ∈ fp, FpOk X pins H3 b /\ b < s3.heap.objs.size := λ b hb => by
   have lt := low b hb
   rw [hH3, e3, Heap.size_push]
   exact ⟨⟨by rw [upd_ne (by rw [hD]; exact Nat.ne_of_lt lt)]; exact (f2 b hb).1, (f2 b hb).2⟩, Nat.lt_succ_of_lt lt⟩
 have st3 : tn 0 s3.heap := T.keep _ _ _ st2 λ b _ o e => by rw [e3]; exact old b o e
 have I4 := block_start I3 ok hN f3
 obtain ⟨C, hC⟩ : ∃ C, C = s3.heap.objs.size := ⟨_, rfl⟩
 obtain ⟨cl, hcl⟩ : ∃ cl, cl = cellsFrom (s3.heap.objs.size + 1) scope.names (cloFrom X.env.cells scope.names []) := ⟨_, rfl⟩
 rw [<- hs3]
 show codeAny _ _ (.compStart (.SetComp elt [⟨tg, iter, ifs, 0⟩] scope pos) 0 (.ref it) (.ref D) (compEnvC scope (cellsFrom (s3.heap.objs.size + 1) scope.names (cloFrom X.env.cells scope.names [])) s3.heap.objs.size X.env)) (compPost (model X.prog X.w) X.A X.xe none _ (.ref D) s3.heap.objs.size) { s3 with heap := pushCells (s3.heap.push { cls := .type "dict", data := .dict #[] }) scope.names }
 rw [<- hcl, <- hC] at I4 ⊢
 have pg := hg s3 H3 C cl fp
 have pt := ht s3 H3 C cl fp
 have pe := he s3 H3 C cl fp
 have nf : ∀ b ∈ fp, H3 b = none := λ b hb => (f3 b hb).1.1
 have cC : (compEnvC scope cl C X.env).locals = C := rfl
 generalize compEnvC scope cl C X.env = ce at I4 pg pt pe cC ⊢
 obtain ⟨s4, hs4⟩ : ∃ s4 : Shared, s4 = { s3 with heap := pushCells (s3.heap.push { cls := .type "dict", data := .dict #[] }) scope.names } := ⟨_, rfl⟩
 rw [<- hs4] at I4 ⊢
 have st4 : tn 0 s4.heap := T.keep _ _ _ st3 λ b _ o e => by rw [hs4]; exact pushCells_keeps _ _ _ _ (Heap.get?_push_of_some _ e)
 have frames : ∀ {τ : L2.St} {H' : Hp} {s' : Shared}, Inv (X.blk s3 H3 scope ce fp) [] τ H' s' -> (∀ b ∈ fp, H' b = none) -> ∀ b ∈ fp, FpOk (X.blk s3 H3 scope ce fp) [] H' b := λ {τ H' s'} I' hn b hb =>
   ⟨hn b hb, (I'.ok.exf b hb).1, I'.ok.exfs b hb, .inl hb, λ x c e => (I'.ok.exf b hb).2 x c e, λ p hp => absurd (show p ∈ ([] : List (Addr × Obj)) ++ [] from hp) (by simp)⟩
 have loop : codeAny (model X.prog X.w) X.A (.compLoop (.SetComp elt [⟨tg, iter, ifs, 0⟩] scope pos) 0 (.ref it) (.ref D) ce) (compPost (model X.prog X.w) X.A X.xe none (EP X pins σ Q) (.ref D) C) s4 := by
   refine compLoopS_any (λ n s' => ∃ i H', Inv (X.blk s3 H3 scope ce fp) [] (wipe σ (own.map (·.2))) H' s' /\ tn i s'.heap /\ (∀ b ∈ fp, H' b = none) /\ Z i n H') ?_ m0 ⟨0, H3, I4, st4, nf, hH3 ▸ z0⟩
   rintro n s5 ⟨i, H5, I5, st5, n5, z5⟩
   rcases turn i n H5 z5 with ⟨stop, qq⟩ | ⟨go, Nx, hNx, step⟩
   · refine thnF (T.done (X.blk s3 H3 scope ce fp) rfl rfl rfl hc i [] s5 _ H5 (λ _ _ => False) I5 (frames I5 n5) st5 stop) λ r s6 ⟨hr, I6⟩ => ?_
     subst hr
     have I7 : Inv X pins σ H5 s6 := I3.call' (ch := fp) I6.os I6.base I6.hok I6.bare λ b hb => ⟨(f3 b hb).1.2.2.2.1, (f3 b hb).1.2.1, (f3 b hb).1.2.2.2.2.1, (f3 b hb).1.2.2.2.2.2⟩
     have nC : H5 C = none := cC ▸ (show H5 ce.locals = none from I6.free)
     obtain ⟨m, hn, _⟩ := I6.loc
     refine ⟨m, cC ▸ (show s6.heap.Ns ce.locals m from hn), λ h'' sb => ?_⟩
     obtain ⟨g0, g1, g2, g3, g4, g5⟩ := I3.fpOk (Nat.le_of_eq hC.symm) nC
     exact ⟨.ref D, H5, I7.turned (t' := s6.toks) (λ b o hb e => (sb.2 b hb).trans e) g0 g1 g3 g4 g5, rfl, qq⟩
   · refine thnF (T.item (X.blk s3 H3 scope ce fp) rfl rfl rfl hc i [] s5 _ H5 (λ _ _ => False) I5 (frames I5 n5) st5 go) λ r s6 ⟨u, hr, h6⟩ => ?_
     subst hr
     refine thnF h6 λ _ s7 ⟨x, H7, I7, r7, y7, st7, n7⟩ => ?_
     refine thnF (pg.run _ s7 _ H7 x u _ (I7.pinned (frames I7 n7) (T.obj _ _ st7)) r7 (step x H7 y7)) λ _ s8 ⟨τ, H8, I8, w8, q8⟩ => ?_
     refine thnF (pt.run _ s8 τ H8 _ I8 q8) λ b s9 ⟨H9, I9, q9⟩ => ?_
     have fin : ∀ {s' : Shared} {H' : Hp}, Inv (X.blk s3 H3 scope ce fp) ([] ++ pinsAt fp s7.heap) τ H' s' -> Nx H' -> ∃ m, m < n /\ ∃ i H', Inv (X.blk s3 H3 scope ce fp) [] (wipe σ (own.map (·.2))) H' s' /\ tn i s'.heap /\ (∀ b ∈ fp, H' b = none) /\ Z i m H' := λ {s' H'} I' nx => by
       obtain ⟨m', hm, z'⟩ := hNx H' nx
       have pin : ∀ b ∈ fp, ∀ o, s7.heap.get? b = some o -> s'.heap.get? b = some o /\ H' b = none := λ b hb o e => by
         have z := I'.pin (b, o) (List.mem_append_right _ (List.mem_append_right _ (mem_pinsAt hb e)))
         exact ⟨z.1, z.2.1⟩
       refine ⟨m', hm, i + 1, H', (I'.unpinned (pins := [])).weak (by rw [<- w8, wipe_length]) (λ j v e => by rw [<- w8] at e; exact (wipe_some e).1), T.keep _ _ _ st7 λ b hb o e => (pin b hb o e).1, λ b hb => ?_, z'⟩
       obtain ⟨o, e, _⟩ := T.obj _ _ st7 b hb
       exact (pin b hb o e).2
     cases b with
     | false =>
       simp only [Bool.false_eq_true, if_false] at q9 ⊢
       exact fin I9 q9
     | true =>
       simp only [if_true] at q9 ⊢
       exact thnF (pe.run _ s9 τ H9 _ I9 q9) λ z s10 ⟨yv, H10, I10, r10, gk⟩ => qwY (X := X.blk s3 H3 scope ce fp) I10 hu r10 gk λ H11 s11 I11 nx => fin I11 nx
 exact codeAny_compStart_set loop (T.self X.A 0 _ _ _ st4 loop)
end
end DS
namespace DS
open PySem PySem.Spec PyProof.Rows L2
open PySem.W PyProof.Rows.G PpSet
section
variable {X : Cx}
def qhS (P : Program) (w : World) (K : PySem.W.Frag) : List V -> Hp -> VK -> Prop := λ vs H Q => ∃ (a : Addr) (M : List (Addr × List Key)) (sh : Nat -> Bool), vs = [.ref a] /\ H a = some (KsO P w a M) /\ (∀ p ∈ M, SqT K H p.1 (p.2.map kV)) /\ (∀ p ∈ M, Shaped sh p.2) /\
 ∀ (N : List (Addr × List Key)) (p : Addr), N.Perm M -> N.Pairwise (λ x y => ltK x.2 y.2 = true) -> H p = none -> Q (.ref p) (upd H p (.lst (N.map λ x => .ref x.1)))
theorem qjw : ∀ N : List (Addr × List Key), Vals (N.map λ x => V.ref x.1) (N.map λ x => Value.ref x.1)
 | [] => .nil
 | _ :: N => .cons rfl (qjw N)
theorem qiy (hc : X.calm = true) : CallR X (.builtin "sorted") (qhS X.prog X.w X.K) := by
 intro pins s σ H xs us Q I r h
 obtain ⟨a, M, sh, rfl, ha, hm, shp, q⟩ := h
 rw [Vals.ref1 r]
 obtain ⟨es, ep, t, R⟩ := qlP I ha hm
 refine qBQ R (I.ok.hd hc) shp λ s' p out c N kp hg ho hp hget he pm pw => ?_
 have few := R.few
 have len : (N.map λ x => V.ref x.1).length < 306 := by rw [List.length_map, pm.length_eq]; exact few
 have nH : H p = none := I.hok.fresh hp
 have rv : Vals (N.map λ x => V.ref x.1) out.toList := he ▸ qjw N
 have J : Inv X pins σ (upd H p (.lst (N.map λ x => V.ref x.1))) { s with heap := s'.heap, gens := s'.gens, drawn := s'.drawn, toks := s'.toks } :=
   I.call (ch := []) (Un.laid kp hp nH) (I.hok.laid kp hp ⟨by rw [sizeLine_eq]; omega, out.toList, c, rv, hget⟩) (hg ▸ I.bare) λ _ z => nomatch z
 have same : ({ s with heap := s'.heap, gens := s'.gens, drawn := s'.drawn, toks := s'.toks } : Shared) = s' := by
   cases s'; cases s; cases ho; rfl
 exact same ▸ ⟨.ref p, _, J, rfl, q N p pm pw nH⟩
end
end DS
namespace DL
variable [TbC]
open PySem PySem.Spec PyProof.Rows L2
def kD : Key -> D
 | .inl i => .int i
 | .inr x => .str x
def tupD (k : List Key) : D := .tup (k.map kD)
theorem qAB {K : PySem.W.Frag} {H : Hp} : ∀ {k : Key} {v : V}, Rep K H (kD k) v -> v = kV k
 | .inl _, _, r => r
 | .inr _, _, r => r
theorem qxW {K : PySem.W.Frag} {H : Hp} : ∀ k : Key, Rep K H (kD k) (kV k)
 | .inl _ => rfl
 | .inr _ => rfl
theorem qox {K : PySem.W.Frag} {H : Hp} : ∀ {k : List Key} {vs : List V}, Reps K H (k.map kD) vs -> vs = k.map kV
 | [], _, r => r
 | x :: k, _, ⟨v, r, e, h1, h2⟩ => by
   rw [e, qAB h1, qox h2]
   rfl
theorem qlh {K : PySem.W.Frag} {H : Hp} : ∀ k : List Key, Reps K H (k.map kD) (k.map kV)
 | [] => rfl
 | x :: k => ⟨_, _, rfl, qxW x, qlh k⟩
def qbw (B : List (List Key)) (g : DG) (tt : DT) (te : DE) : List D -> List (List Key) -> Rho -> (List (List Key) -> Prop) -> Prop
 | [], acc, _, Q => Q acc
 | x :: r, acc, ρ, Q => g x ρ λ ρ' => tt ρ' λ b => if b = true then te ρ' λ y => ∃ k, y = tupD k /\ k ∈ B /\ qbw B g tt te r (acc ++ [k]) ρ Q else qbw B g tt te r acc ρ Q
def qbP (acc ys : List (List Key)) : Prop := ys.Pairwise (λ a b => DS.ltK a b = true) /\ ∀ k, k ∈ ys <-> k ∈ acc
def qfB (di : DI) (g : DG) (tt : DT) (te : DE) (vs : List Nat) (ρ : Rho) (Q : D -> Prop) : Prop :=
 di ρ λ xs => ∃ (B : List (List Key)) (sh : Nat -> Bool), B.length < 305 /\ (∀ k ∈ B, DS.Shaped sh k) /\ qbw B g tt te xs [] (qak ρ vs) λ acc => ∀ ys, qbP acc ys -> Q (.lst (ys.map tupD))
theorem qdV {α : Type} : ∀ {l B : List α}, l.Nodup -> (∀ x ∈ l, x ∈ B) -> l.length <= B.length
 | [], _, _, _ => Nat.zero_le _
 | x :: l, B, nd, h => by
   obtain ⟨u, v, rfl⟩ := List.append_of_mem (h x List.mem_cons_self)
   have ⟨n1, n2⟩ := List.nodup_cons.mp nd
   have z := qdV (B := u ++ v) n2 λ y hy => by
     have m := h y (List.mem_cons_of_mem _ hy)
     rw [List.mem_append, List.mem_cons] at m
     rw [List.mem_append]
     rcases m with m | rfl | m
     · exact .inl m
     · exact absurd hy n1
     · exact .inr m
   simp only [List.length_append, List.length_cons] at z ⊢
   omega
theorem qwi {B : List (List Key)} {M : List (Addr × List Key)} (nd : (M.map (·.2)).Nodup) (sub : ∀ p ∈ M, p.2 ∈ B) : M.length <= B.length := by
 have z := qdV (B := B) nd λ k hk => by
   obtain ⟨p, hp, rfl⟩ := List.mem_map.mp hk
   exact sub p hp
 rwa [List.length_map] at z
section
variable {X : Cx} {Ed : DX -> Prop} {E : XK} {K : PySem.W.Frag} {P : Program} {w : World} {pos p p2 : Pos} {tg iter elt : Expr} {te : TE} {de : DE} {ifs : List Expr} {tt : TT} {dt : DT} {ti : TI} {di : DI} {g : TG} {dg : DG} {scope : Scope} {own : List (Str × Nat)}
theorem qjA {H0 : Hp} : ∀ {N : List (Addr × List Key)}, (∀ p ∈ N, SqT K H0 p.1 (p.2.map kV)) -> Reps K H0 ((N.map (·.2)).map tupD) (N.map λ x => V.ref x.1)
 | [], _ => rfl
 | x :: N, h => ⟨_, _, rfl, ⟨x.1, x.2.map kV, rfl, h x List.mem_cons_self, qlh x.2⟩, qjA λ p hp => h p (List.mem_cons_of_mem _ hp)⟩
theorem qhw {a : Addr} {M : List (Addr × List Key)} : qbv a (DS.KsO P w a M) := qgU λ h o vs k hh hd => by
 obtain ⟨es, ep, t, ⟨o2, e1, _, e2⟩, _⟩ := k
 rw [hh] at e1
 cases e1
 rw [hd] at e2
 cases e2
structure TurnK (K : PySem.W.Frag) (P : Program) (w : World) (Hs0 Hs H0 H : Hp) (Dl : Addr) (acc B : List (List Key)) (M : List (Addr × List Key)) : Prop where
 gr : Grow Hs0 Hs H0 H
 none0 : H0 Dl = none
 at_ : H Dl = some (DS.KsO P w Dl M)
 mem : ∀ p ∈ M, SqT K H0 p.1 (p.2.map kV)
 nd : (M.map (·.2)).Nodup
 all : ∀ k, k ∈ M.map (·.2) <-> k ∈ acc
 sub : ∀ k ∈ acc, k ∈ B
theorem TurnK.few {Hs0 Hs H0 H : Hp} {Dl : Addr} {acc B : List (List Key)} {M : List (Addr × List Key)} (t : TurnK K P w Hs0 Hs H0 H Dl acc B M) : M.length <= B.length :=
 qwi t.nd λ p hp => t.sub _ ((t.all _).mp (List.mem_map.mpr ⟨p, hp, rfl⟩))
theorem TurnK.grow {Hs0 Hs H0 H H0' H' : Hp} {Dl : Addr} {acc B : List (List Key)} {M : List (Addr × List Key)} (t : TurnK K P w Hs0 Hs H0 H Dl acc B M) (g : Grow H0 H H0' H') : TurnK K P w Hs0 Hs H0' H' Dl acc B M :=
 ⟨t.gr.trans g, (g.nw Dl (by rw [t.at_]; exact λ z => nomatch z)).trans t.none0, g.g1.at t.at_ qhw.1, λ p hp => qaC g.g0 (t.mem p hp), t.nd, t.all, t.sub⟩
theorem TurnK.more {Hs0 Hs H0 H : Hp} {Dl b : Addr} {k : List Key} {acc B : List (List Key)} {M M' : List (Addr × List Key)} (t : TurnK K P w Hs0 Hs H0 H Dl acc B M) (hn : Hs Dl = none) (hs : Same H0 H) (hb : SqT K H0 b (k.map kV)) (hk : k ∈ B) (pl : DS.Plus M b k M') :
   TurnK K P w Hs0 Hs H0 (upd H Dl (DS.KsO P w Dl M')) Dl (acc ++ [k]) B M' := by
 refine ⟨⟨t.gr.g0, qc6 t.gr.g1 hn, qbi t.gr.g2 t.none0, t.gr.nw, λ q => qdA (t.gr.tb q) t.at_ qhw⟩, t.none0, upd_same, ?_, ?_, ?_, λ x hx => ?_⟩
 · rcases pl with ⟨_, rfl⟩ | ⟨_, pm⟩
   · exact t.mem
   · intro p hp
     rcases List.mem_cons.mp (pm.mem_iff.mp hp) with e | hp
     · exact e ▸ hb
     · exact t.mem p hp
 · rcases pl with ⟨_, rfl⟩ | ⟨hm, pm⟩
   · exact t.nd
   · exact (pm.map (·.2)).nodup_iff.mpr (List.nodup_cons.mpr ⟨hm, t.nd⟩)
 · intro x
   rw [List.mem_append, List.mem_singleton, <- t.all x]
   rcases pl with ⟨hm, rfl⟩ | ⟨_, pm⟩
   · exact ⟨.inl, λ h => h.elim id λ e => e ▸ hm⟩
   · rw [(pm.map (·.2)).mem_iff, List.map_cons, List.mem_cons]
     exact or_comm
 · rcases List.mem_append.mp hx with h | h
   · exact t.sub x h
   · exact List.mem_singleton.mp h ▸ hk
theorem qBp {vs : List Nat} (hi : SimI K Ed E ti di) (hg : SimG K g dg) (og : OwnG g vs) (ht : SimT K (λ _ => False) E0 tt dt) (he : SimE K (λ _ => False) E0 te de) :
   SimE K Ed E (tCB (DS.qhS P w K) (tCons (DS.tKs P w K ti g tt te vs) tNil)) (qfB di dg dt de vs) := λ B0 B1 A H0 H σ ρ R X Qd h Q q =>
 hi B0 B1 A H0 H σ ρ R X _ h _ λ J xs Hs0 Hs Rs gs wk ⟨B, sh, hB, shp, hl⟩ => λ Dl hD => by
   obtain ⟨Aw, Rw, hw⟩ := Rs.wipe vs
   have nb : B1 Dl = none := Rs.gr.g1.free hD
   have na : ∀ i, Aw i ≠ some Dl := λ i z => Rw.freeA hD i z
   have n0 : Hs0 Dl = none := Rw.ex.free hD
   refine ⟨λ i m H' => m = xs.length - i /\ ∃ H0' acc M, RepS K B0 B1 Aw H0' H' (L2.wipe σ vs) (qak ρ vs) /\ TurnK K P w Hs0 Hs H0' H' Dl acc B M /\ qbw B dg dt de (xs.drop i) acc (qak ρ vs) λ acc => ∀ ys, qbP acc ys -> Qd (.lst (ys.map tupD)),
     ⟨xs.length, by simp, Hs0, [], [], Rw.other n0 nb na (.inl hD), ⟨⟨.refl _, (same_upd hD).ext, qbi Rw.ex n0, λ _ _ => rfl, λ t => qc5 t hD⟩, n0, upd_same, λ p hp => (nomatch hp), List.nodup_nil, λ k => (by simp), λ k hk => (nomatch hk)⟩, by simpa using hl⟩, ?_⟩
   rintro i m H' ⟨rfl, H0', acc, M, R', T, hq⟩
   obtain ⟨hgo, hst⟩ := wk i H0' H' R'.ex T.gr.g0
   have hDn : H' Dl ≠ none := by rw [T.at_]; exact λ z => nomatch z
   rcases drop_at (xs := xs) (i := i) with ⟨x, hx, hdr⟩ | ⟨hx, hdr⟩
   · rw [hdr] at hq
     obtain ⟨go, yl⟩ := hgo x hx
     have hlt : i < xs.length := (List.getElem?_eq_some_iff.mp hx).1
     refine .inr ⟨go, λ H2 => ∃ H02 acc M, RepS K B0 B1 Aw H02 H2 (L2.wipe σ vs) (qak ρ vs) /\ TurnK K P w Hs0 Hs H02 H2 Dl acc B M /\ qbw B dg dt de (xs.drop (i + 1)) acc (qak ρ vs) λ acc => ∀ ys, qbP acc ys -> Qd (.lst (ys.map tupD)), λ H2 n2 => ⟨xs.length - (i + 1), by omega, rfl, n2⟩, λ v Hn y => ?_⟩
     obtain ⟨H0n, gn, rn⟩ := yl v Hn y
     refine og v _ Hn (λ σ2 H2 => tt σ2 H2 λ b H3 => if b = true then te σ2 H3 λ y H4 => DS.qhM P w K Dl y H4 (λ H2 => ∃ H02 acc M, RepS K B0 B1 Aw H02 H2 (L2.wipe σ vs) (qak ρ vs) /\ TurnK K P w Hs0 Hs H02 H2 Dl acc B M /\ qbw B dg dt de (xs.drop (i + 1)) acc (qak ρ vs) λ acc => ∀ ys, qbP acc ys -> Qd (.lst (ys.map tupD)))
       else ∃ H02 acc M, RepS K B0 B1 Aw H02 H3 (L2.wipe σ vs) (qak ρ vs) /\ TurnK K P w Hs0 Hs H02 H3 Dl acc B M /\ qbw B dg dt de (xs.drop (i + 1)) acc (qak ρ vs) λ acc => ∀ ys, qbP acc ys -> Qd (.lst (ys.map tupD)))
       _ (hg B0 B1 Aw H0n Hn (L2.wipe σ vs) (qak ρ vs) x v (R'.grow gn) rn _ hq _ λ A2 σ2 ρ2 R2 o2 k2 => ?_) λ σ2 k2 e2 => ⟨e2.trans qhD, k2⟩
     refine ht B0 B1 A2 H0n Hn σ2 ρ2 R2 X.td0 _ k2 _ λ b H3 H4 R3 g3 k3 => ?_
     have gn3 := gn.trans g3
     cases b with
     | false => exact ⟨H3, acc, M, R'.grow gn3, T.grow gn3, k3⟩
     | true =>
       refine he B0 B1 A2 H3 H4 σ2 ρ2 R3 X.td0 _ k3 _ λ y u H5 H6 R4 g4 r4 k4 => ?_
       have gn4 := gn3.trans g4
       obtain ⟨k, rfl, hkB, k5⟩ := k4
       obtain ⟨b, ws, rfl, sq, rr⟩ := r4
       cases qox rr
       have T4 := T.grow gn4
       have few := T4.few
       refine ⟨b, k, M, rfl, qaC gn4.g2 sq, T4.at_, λ p hp => qaC gn4.g2 (T4.mem p hp), by omega, λ M' pl => ⟨H5, acc ++ [k], M', (R'.grow gn4).other T4.none0 nb na (.inr ⟨_, T4.at_, qhw⟩), T4.more hD gn4.g2 sq hkB pl, k5⟩⟩
   · rw [hdr] at hq
     have mh : ∀ p ∈ M, SqT K H' p.1 (p.2.map kV) := λ p hp => qaC T.gr.g2 (T.mem p hp)
     refine .inl ⟨hst hx, Dl, M, sh, rfl, T.at_, mh, λ p hp => shp _ (T.sub _ ((T.all _).mp (List.mem_map.mpr ⟨p, hp, rfl⟩))), λ N l pm pw hl => ?_⟩
     have gl : Grow H0' H' (upd H0' l (.lst (N.map λ x => V.ref x.1))) (upd H' l (.lst (N.map λ x => V.ref x.1))) := Grow.new T.gr.g2 hl
     have e : (N.map (·.2)).map tupD = (N.map (·.2)).map tupD := rfl
     refine q (.lst ((N.map (·.2)).map tupD)) (.ref l) _ _ (Rs.grow (T.gr.trans gl)) (gs.trans (T.gr.trans gl)) ⟨l, _, rfl, .inl (.inl upd_same), qjA λ p hp => qaC gl.g0 (T.mem p (pm.mem_iff.mp hp))⟩ (hq _ ⟨List.pairwise_map.mpr pw, λ k => ?_⟩)
     rw [(pm.map (·.2)).mem_iff]
     exact T.all k
theorem qo5 (hm : X.mg "sorted" = none) (hc : X.calm = true) (hN : X.N.Nodup) (hu : X.A.units + 64 < cLine) (hi : JI X Ed E tg iter ti di) (ok : BlkOk X.N X.env.scope scope own) (og : OwnG g (own.map (·.2)))
   (hg : ∀ (s : Shared) (H : Hp) (C : Addr) (cl : List (Str × Addr)) (fp : List Addr), JG (X.blk s H scope (compEnvC scope cl C X.env) fp) tg g dg)
   (ht : ∀ (s : Shared) (H : Hp) (C : Addr) (cl : List (Str × Addr)) (fp : List Addr), JTs (X.blk s H scope (compEnvC scope cl C X.env) fp) (λ _ => False) E0 ifs tt dt)
   (he : ∀ (s : Shared) (H : Hp) (C : Addr) (cl : List (Str × Addr)) (fp : List Addr), JE (X.blk s H scope (compEnvC scope cl C X.env) fp) (λ _ => False) E0 elt te de) (hg2 : Gl X "sorted" := by rfl)
   (hst : starEach [.SetComp elt [⟨tg, iter, ifs, 0⟩] scope p2] X.env = (false, eval (.SetComp elt [⟨tg, iter, ifs, 0⟩] scope p2) X.env) :: starEach [] X.env := by rfl) (hpl : (backTo pos (starEach [] X.env)).any (·.1) = false := by rfl) (hs : ∀ x, foldedSetIterable iter X.env x = pure x := by intro _; rfl) :
   JE X Ed E (.Call (.Name "sorted" p) [.SetComp elt [⟨tg, iter, ifs, 0⟩] scope p2] [] pos) (tCB (DS.qhS X.prog X.w X.K) (tCons (DS.tKs X.prog X.w X.K ti g tt te (own.map (·.2))) tNil)) (qfB di dg dt de (own.map (·.2))) :=
 ⟨pe_callB (DS.qiy hc) hg2 hm (by decide +kernel) (pa_cons (DS.qxO hc hN hu hi.pe ok (λ s H C cl fp => (hg s H C cl fp).pe) (λ s H C cl fp => (ht s H C cl fp).pe) (λ s H C cl fp => (he s H C cl fp).pe) hs) pa_nil hst) (by decide) (by decide) hst hpl,
   qBp hi.sim (hg X.s_0 X.H_0 0 [] []).sim og (ht X.s_0 X.H_0 0 [] []).sim (he X.s_0 X.H_0 0 [] []).sim⟩
end
section
variable {κ : Type} [DecidableEq κ]
def valP (ps : List (κ × Addr × V)) (k : κ) : Option V := (ps.find? λ p => decide (p.1 = k)).map (·.2.2)
def putP (ps : List (κ × Addr × V)) (k : κ) (b : Addr) (v : V) : List (κ × Addr × V) := if (valP ps k).isSome then ps.map λ p => if p.1 = k then (p.1, p.2.1, v) else p else ps ++ [(k, b, v)]
end
def GetT (w : World) (K : PySem.W.Frag) (H : Hp) (a : Addr) (y : V) (r : Option V) : Prop := ∃ ps k b, H a = some (DtO w a ps) /\ (∀ p ∈ ps, NkV K H p.1 (.ref p.2.1) /\ p.1.depth <= 8) /\ y = .ref b /\ NkV K H k (.ref b) /\ k.depth <= 8 /\ r = valP ps k
def PutT (w : World) (K : PySem.W.Frag) (H : Hp) (a : Addr) (y v : V) (H' : Hp) : Prop := ∃ ps k b, H a = some (DtO w a ps) /\ (∀ p ∈ ps, NkV K H p.1 (.ref p.2.1) /\ p.1.depth <= 8) /\ y = .ref b /\ NkV K H k (.ref b) /\ k.depth <= 8 /\ ps.length < sizeLine /\ H' = upd H a (DtO w a (putP ps k b v))
theorem qe4 : ∀ {ps : List (NestedKey × Addr × V)} {xs : List (NestedKey × Addr × Value)}, Paired RelT ps xs -> ∀ k, RelO (valP ps k) ((atKey xs k).map (·.2))
 | [], [], .nil, k => trivial
 | p :: ps, x :: xs, .cons ⟨e1, e2, e3⟩ t, k => by
   have ih := qe4 t k
   unfold valP atKey at ih ⊢
   rw [List.find?_cons, List.find?_cons, <- e1]
   by_cases h : p.1 = k
   · simp only [h, decide_true]
     exact e3
   · simp only [h, decide_false]
     exact ih
theorem qoh {k : NestedKey} {v : V} {u : Value} (r : RelV v u) : ∀ {ps : List (NestedKey × Addr × V)} {xs : List (NestedKey × Addr × Value)}, Paired RelT ps xs -> Paired RelT (ps.map λ p => if p.1 = k then (p.1, p.2.1, v) else p) (xs.map (putAt k u))
 | [], [], .nil => .nil
 | p :: ps, x :: xs, .cons e t => by
   refine .cons ?_ (qoh r t)
   obtain ⟨e1, e2, e3⟩ := e
   unfold putAt
   show RelT (if p.1 = k then (p.1, p.2.1, v) else p) _
   rw [<- e1]
   by_cases h : p.1 = k
   · rw [if_pos h, if_pos h]
     exact ⟨rfl, e2, r⟩
   · rw [if_neg h, if_neg h]
     exact ⟨e1, e2, e3⟩
theorem qoy {k : NestedKey} {b : Addr} {v : V} {u : Value} (r : RelV v u) : ∀ {ps : List (NestedKey × Addr × V)} {xs : List (NestedKey × Addr × Value)}, Paired RelT ps xs -> Paired RelT (ps ++ [(k, b, v)]) (xs ++ [(k, b, u)])
 | [], [], .nil => .cons ⟨rfl, rfl, r⟩ .nil
 | _ :: _, _ :: _, .cons e t => .cons e (qoy r t)
theorem qx8 {o : Option V} {u : Option Value} (r : RelO o u) : o.isSome = u.isSome := r.isSome_eq
theorem quZ {ps : List (NestedKey × Addr × V)} {xs : List (NestedKey × Addr × Value)} (h : Paired RelT ps xs) (k : NestedKey) (b : Addr) {v : V} {u : Value} (r : RelV v u) : Paired RelT (putP ps k b v) (storedH xs k b u) := by
 have e := qx8 (qe4 h k)
 rw [Option.isSome_map] at e
 unfold putP storedH
 rw [e]
 split
 · exact qoh r h
 · exact qoy r h
theorem qoG : ∀ {ps : List (NestedKey × Addr × V)} {xs : List (NestedKey × Addr × Value)}, Paired RelT ps xs -> ∀ x ∈ xs, ∃ p ∈ ps, p.1 = x.1 /\ p.2.1 = x.2.1
 | [], [], .nil, _, h => absurd h (by simp)
 | p :: ps, x :: xs, .cons ⟨e1, e2, _⟩ t, y, hy => by
   rcases List.mem_cons.mp hy with e | hy
   · subst e
     exact ⟨p, List.mem_cons_self, e1, e2⟩
   · obtain ⟨q, hq, r⟩ := qoG t y hy
     exact ⟨q, List.mem_cons_of_mem _ hq, r⟩
theorem qyC (ps : List (NestedKey × Addr × V)) (k : NestedKey) (b : Addr) (v : V) : (putP ps k b v).length <= ps.length + 1 := by
 unfold putP
 split <;> simp
theorem qkU {P : Program} {w : World} {H : Hp} {h : Heap} {a : Addr} {ps : List (NestedKey × Addr × V)} (x : DtAt w h a ps) : ObjOk P w H h a (DtO w a ps) := by
 obtain ⟨_, o, _, _, _, ho, _⟩ := x.ex
 refine ⟨x, ⟨o, ho⟩, λ h1 h2 p k => ?_⟩
 have p : DtAt w h1 a ps := p
 obtain ⟨xs, o', es, ep, r, ho', q⟩ := p.ex
 exact ⟨p.fit, xs, o', es, ep, r, k o' ho', q⟩
section
variable {X : Cx} {pins : List (Addr × Obj)} {σ : L2.St} {H : Hp} {s : Shared} {a : Addr} {y v : V} {u r : Value} {o : Option V} {A : Around} {E : Value -> Shared -> Prop}
mutual
theorem qm4 (I : Inv X pins σ H s) : ∀ (k : NestedKey) (v : V) (u : Value), NkV X.K H k v -> RelV v u -> NestedIs s.heap k u
 | .none, v, u, h, r => by
   cases (show v = _ from h)
   cases (show u = _ from r)
   exact .none
 | .num i, v, u, h, r => by
   cases (show v = _ from h)
   obtain ⟨t, e⟩ := (show ∃ t, u = Value.int i t from r)
   subst e
   exact .int i t
 | .text x, v, u, h, r => by
   cases (show v = _ from h)
   obtain ⟨t, e⟩ := (show ∃ t, u = Value.str x t from r)
   subst e
   exact .text x t
 | .tup ks, v, u, ⟨b, vs, e, hs, hr⟩, r => by
   subst e
   cases (show u = _ from r)
   obtain ⟨its, rv, ⟨o, ho, hc, n, hd⟩, _⟩ := I.tuple hs
   exact .tup ho hc hd (by simpa using qrG I ks vs its hr rv)
theorem qrG (I : Inv X pins σ H s) : ∀ (ks : List NestedKey) (vs : List V) (us : List Value), NkVs X.K H ks vs -> Vals vs us -> NestedAll s.heap ks us
 | [], vs, us, h, r => by
   cases (show vs = _ from h)
   cases r
   exact .nil
 | k :: ks, vs, us, ⟨v, rs, e, h1, h2⟩, r => by
   subst e
   cases r with
   | cons p q => exact .cons (qm4 I k v _ h1 p) (qrG I ks rs _ h2 q)
end
theorem qf0 (I : Inv X pins σ H s) {k : NestedKey} {b : Addr} (h : NkV X.K H k (.ref b)) (hd : k.depth <= 8) : (nestedKind X.prog X.w).is s.heap k b := ⟨qm4 I k _ _ h rfl, hd⟩
theorem qig (I : Inv X pins σ H s) {ps : List (NestedKey × Addr × V)} (ha : H a = some (DtO X.w a ps)) (hk : ∀ p ∈ ps, NkV X.K H p.1 (.ref p.2.1) /\ p.1.depth <= 8) :
   ps.length <= sizeLine /\ (a == sysModules) = false /\ ∃ xs, Paired RelT ps xs /\ s.heap.DictOfH (nestedKind X.prog X.w) a xs := by
 have x : DtAt X.w s.heap a ps := (I.hok a _ ha).1
 obtain ⟨xs, o, es, ep, rel, ho, hx, hd, he, hn⟩ := x.ex
 refine ⟨x.fit.1, x.fit.2, xs, rel, o, es, ep, ho, hx, hd, he, λ z hz => ?_, hn⟩
 obtain ⟨p, hp, e1, e2⟩ := qoG rel z hz
 rw [<- e1, <- e2]
 exact qf0 I (hk p hp).1 (hk p hp).2
theorem qtk {Q : Value -> Shared -> Prop} (hu : A.units + 10 < cLine) (I : Inv X pins σ H s) (g : GetT X.w X.K H a y (some v)) (ry : RelV y u) (h : ∀ w' s', Inv X pins σ H s' -> RelV v w' -> Q w' s') :
   wpAny (model X.prog X.w) A (getItem (.ref a) u) Q E s := by
 obtain ⟨ps, k, b, ha, hk, rfl, hb, hd, l⟩ := g
 cases (show u = Value.ref b from ry)
 obtain ⟨z, hs, xs, rel, dd⟩ := qig I ha hk
 obtain ⟨w', hw, rw'⟩ := RelO.some_of (v := v) (o := (atKey xs k).map (·.2)) (by rw [l]; exact qe4 rel k)
 obtain ⟨p, hp, hp2⟩ := Option.map_eq_some_iff.mp hw
 refine wpAny_getItem_heap (by show A.in1.units + 8 < cLine; show A.units + 1 + 8 < cLine; omega) (qf0 I hb hd) dd hp ?_
 rw [hp2]
 exact h w' _ (I.tok _) rw'
theorem qvv {Q : Value -> Shared -> Prop} {d : V} (hu : A.units + 10 < cLine) (I : Inv X pins σ H s) (g : GetT X.w X.K H a y o) (ry : RelV y u) (rd : RelV d r) (h : ∀ w' s', Inv X pins σ H s' -> RelV (o.getD d) w' -> Q w' s') :
   wpAny (model X.prog X.w) A (call (.builtin "dict.get") [.ref a, u, r]) Q E s := by
 obtain ⟨ps, k, b, ha, hk, rfl, hb, hd, l⟩ := g
 cases (show u = Value.ref b from ry)
 obtain ⟨z, hs, xs, rel, dd⟩ := qig I ha hk
 refine call_meetsIn PySem.F.slot_dict_get dd.typeIs PySem.F.entry_dict_get (PySem.F.args_dict_get_3 _ _ _) (meetsH_dict_get_default (nestedKind X.prog X.w) a b hs r) ⟨by show A.units + 1 + 8 < cLine; omega, k, xs, qf0 I hb hd, dd, h _ _ (I.tok _) ?_⟩
 rw [l]
 exact (qe4 rel k).getD rd
theorem qvK {H' : Hp} {Q : Unit -> Shared -> Prop} (hu : A.units + 10 < cLine) (I : Inv X pins σ H s) (g : PutT X.w X.K H a y v H') (ry : RelV y u) (rv : RelV v r) (h : ∀ s', Inv X pins σ H' s' -> Q () s') :
   wpAny (model X.prog X.w) A (setItem (.ref a) u r) Q E s := by
 obtain ⟨ps, k, b, ha, hk, rfl, hb, hd, lt, rfl⟩ := g
 cases (show u = Value.ref b from ry)
 obtain ⟨z, hs, xs, rel, dd⟩ := qig I ha hk
 have hl : xs.length = ps.length := rel.length.symm
 refine wpAny_setItem_heap (hsz := by rw [hl]; exact z) (by show A.units + 1 + 8 < cLine; omega) (qf0 I hb hd) dd λ h' hm' sb => ?_
 obtain ⟨o', es', ep', ho', hx', hd', he', _, hn'⟩ := hm'
 exact h _ (d_write (t' := s.toks + (nestedKind X.prog X.w).draws k) I (by rw [ha]; exact True.intro) sb ⟨o', ho'⟩ (qkU ⟨⟨Nat.le_trans (qyC ps k b v) lt, hs⟩, _, o', es', ep', quZ rel k b rv, ho', hx', hd', he', hn'⟩))
end
def qqP (w : World) : TE := λ _ H Q => ∀ p, H p = none -> Q (.ref p) (upd H p (DtO w p []))
def qqp (w : World) (K : PySem.W.Frag) (td ty : TE) : TE := λ σ H Q => td σ H λ x H1 => ty σ H1 λ y H2 => ∃ a v, x = .ref a /\ GetT w K H2 a y (some v) /\ Q v H2
def qo3 (w : World) (K : PySem.W.Frag) (td ty tx : TE) : TE := λ σ H Q => td σ H λ x H1 => ∃ a, x = .ref a /\ (∃ ps, H1 a = some (DtO w a ps)) /\ ty σ H1 λ y H2 => tx σ H2 λ z H3 => ∃ o, GetT w K H3 a y o /\ Q (o.getD z) H3
def ql8 (w : World) (K : PySem.W.Frag) (td ty tv : TE) : TS := λ D σ H => tv σ H λ v H1 => td σ H1 λ x H2 => ty σ H2 λ y H3 => ∃ a H4, x = .ref a /\ PutT w K H3 a y v H4 /\ D.nx σ H4
section
variable {X : Cx} {o e f i value : Expr} {pos pos' apos cpos : Pos} {td ty tx tv : TE}
theorem qzl : PE X (.Dict [] [] pos) (qqP X.w) := ⟨λ pins s σ H Q I h =>
 wpAny_Dict_empty ⟨.ref s.heap.objs.size, _, I.laid (a := s.heap.objs.size) (o := DtO X.w s.heap.objs.size []) (t' := s.toks) (λ _ _ q => Heap.get?_push_of_some _ q) (Nat.le_refl _)
   (qkU ⟨⟨Nat.zero_le _, beq_eq_false_iff_ne.mpr (Ne.symm (Nat.ne_of_lt I.big))⟩, [], _, #[], 0, .nil, Heap.get?_push_size _ rfl, ⟨rfl, rfl, rfl⟩, rfl, rfl, List.nodup_nil⟩), rfl, h _ (I.hok.fresh (Nat.le_refl _))⟩⟩
theorem qk7 {pins : List (Addr × Obj)} {σ : L2.St} {H : Hp} {s : Shared} {a : Addr} {ps : List (NestedKey × Addr × V)} (I : Inv X pins σ H s) (ha : H a = some (DtO X.w a ps)) : ∃ ob, s.heap.get? a = some ob /\ ob.ExactDict := by
 have x : DtAt X.w s.heap a ps := (I.hok a _ ha).1
 obtain ⟨_, o, _, _, _, ho, hx, _⟩ := x.ex
 exact ⟨o, ho, hx⟩
theorem qsr (hu : X.A.units + 10 < cLine) (ho : PE X o td) (hi : PE X i ty) (hs : NoSl i) : PE X (.Subscript o i pos) (qqp X.w X.K td ty) := by
 refine ⟨λ pins s σ H Q I h => ?_⟩
 refine subD_of PySem.F.slot_dict_getitem.lookup hs (thn (ho.run pins s σ H _ I h) λ u s1 ⟨x, H1, I1, rx, q1⟩ => thn (hi.run pins s1 σ H1 _ I1 q1) λ iv s2 ⟨y, H2, I2, ry, a, v, ex, g, q2⟩ => ?_)
 subst ex
 cases (show u = Value.ref a from rx)
 obtain ⟨ps, k, b, ha, _⟩ := id g
 obtain ⟨ob, ho', hx⟩ := qk7 I2 ha
 exact ⟨⟨ob, ho', hx.1⟩, qtk hu I2 g ry λ w' s3 I3 rw' => ⟨v, H2, I3, rw', q2⟩⟩
theorem qA0 (hu : X.A.units + 10 < cLine) (ho : PE X o td) (he : PE X e ty) (hf : PE X f tx) (m : M2 X o "get" apos e f cpos) : PE X (.Call (.Attribute o "get" apos) [e, f] [] cpos) (qo3 X.w X.K td ty tx) := by
 refine ⟨λ pins s σ H Q I h => ?_⟩
 refine wpAny_Call_method m.base m.few m.line PySem.F.plainAttrs_dict PySem.F.slot_dict_get PySem.F.type_dict_get (thn (ho.run pins s σ H _ I h) λ u s1 ⟨x, H1, I1, rx, a, ex, ⟨ps, ha⟩, q1⟩ => ?_)
 subst ex
 cases (show u = Value.ref a from rx)
 obtain ⟨ob, ho', hx⟩ := qk7 I1 ha
 refine ⟨⟨ob, ho', hx.1⟩, λ c z => (by cases z; exact ⟨ob, ho', hx.2.1⟩), ?_⟩
 rw [m.trees]
 refine Calls.callWith_builtin rfl (Calls.evalArgs_plain (Calls.spliced_cons (thn (he.run pins s1 σ H1 _ I1 q1) λ iv s2 ⟨y, H2, I2, ry, q2⟩ => Calls.spliced_cons (thn (hf.run pins s2 σ H2 _ I2 q2) λ fv s3 ⟨z, H3, I3, rz, ov, g, q3⟩ => Calls.spliced_nil ?_))))
 exact qvv hu I3 g ry rz λ w' s4 I4 rw' => ⟨_, H3, I4, rw', q3⟩
theorem qvF (hu : X.A.units + 10 < cLine) (ho : PE X o td) (hi : PE X i ty) (hv : PE X value tv) (hs : swapsWith value (some (.Subscript o i pos')) pos.line X.env = pure false) : PS X (.Assign [.Subscript o i pos'] value pos) (ql8 X.w X.K td ty tv) := by
 refine ⟨λ pins s σ H D I h => ?_⟩
 refine wpAny_Assign_Subscript (thn (hv.run pins s σ H _ I h) λ r s1 ⟨v, H1, I1, rv, q1⟩ => thn (ho.run pins s1 σ H1 _ I1 q1) λ u s2 ⟨x, H2, I2, rx, q2⟩ => thn (hi.run pins s2 σ H2 _ I2 q2) λ iv s3 ⟨y, H3, I3, ry, a, H4, ex, g, q3⟩ => ?_) hs
 subst ex
 cases (show u = Value.ref a from rx)
 exact qvK hu I3 g ry rv λ s4 I4 => ⟨σ, H4, I4, q3⟩
end
section
variable {κ : Type} [DecidableEq κ]
def valD (kvs : List (κ × D)) (k : κ) : Option D := (kvs.find? λ p => decide (p.1 = k)).map (·.2)
def stoD (kvs : List (κ × D)) (k : κ) (v : D) : List (κ × D) := if (valD kvs k).isSome then kvs.map λ p => if p.1 = k then (p.1, v) else p else kvs ++ [(k, v)]
end
mutual
def nkOf : D -> Option NestedKey
 | .non => some .none
 | .int i => some (.num i)
 | .str x => some (.text x)
 | .tup xs => (qeD xs).map .tup
 | _ => none
def qeD : List D -> Option (List NestedKey)
 | [] => some []
 | x :: xs => match nkOf x, qeD xs with
   | some k, some ks => some (k :: ks)
   | _, _ => none
end
def tkOf (d : D) : Option NestedKey := match d with
 | .tup xs => (qeD xs).bind λ ks => if (NestedKey.tup ks).depth <= 8 then some (.tup ks) else none
 | _ => none
def keyOf : D -> Option Key
 | .int i => some (.inl i)
 | .str x => some (.inr x)
 | _ => none
section
variable {K : PySem.W.Frag} {H : Hp}
mutual
theorem quI : ∀ (d : D) (v : V) (k : NestedKey), Rep K H d v -> nkOf d = some k -> NkV K H k v
 | .non, v, k, r, h => by cases h; exact r
 | .int i, v, k, r, h => by cases h; exact r
 | .str x, v, k, r, h => by cases h; exact r
 | .tup xs, v, k, ⟨a, vs, e, hs, hr⟩, h => by
   unfold nkOf at h
   obtain ⟨ks, h1, h2⟩ := Option.map_eq_some_iff.mp h
   subst h2
   exact ⟨a, vs, e, hs, qg4 xs vs ks hr h1⟩
 | .bl _, _, _, _, h => nomatch h
 | .ty _, _, _, _, h => nomatch h
 | .cls _, _, _, _, h => nomatch h
 | .lst _, _, _, _, h => nomatch h
 | .ins _ _, _, _, _, h => nomatch h
 | .bag, _, _, _, h => nomatch h
 | .lat _ _, _, _, _, h => nomatch h
 | .dk _, _, _, _, h => nomatch h
 | .dt _ _, _, _, _, h => nomatch h
theorem qg4 : ∀ (ds : List D) (vs : List V) (ks : List NestedKey), Reps K H ds vs -> qeD ds = some ks -> NkVs K H ks vs
 | [], vs, ks, r, h => by cases h; exact r
 | d :: ds, vs, ks, ⟨v, r, e, h1, h2⟩, h => by
   unfold qeD at h
   split at h
   · rename_i k ks' e1 e2
     cases h
     exact ⟨v, r, e, quI d v k h1 e1, qg4 ds r ks' h2 e2⟩
   · cases h
end
theorem qqG {d : D} {v : V} {k : NestedKey} (r : Rep K H d v) (h : tkOf d = some k) : ∃ b, v = .ref b /\ NkV K H k (.ref b) /\ k.depth <= 8 := by
 unfold tkOf at h
 split at h
 · rename_i xs
   obtain ⟨ks, h1, h2⟩ := Option.bind_eq_some_iff.mp h
   split at h2
   · rename_i hd
     cases h2
     obtain ⟨b, vs, e, hs, hr⟩ := r
     exact ⟨b, e, ⟨b, vs, rfl, hs, qg4 xs vs ks hr h1⟩, hd⟩
   · cases h2
 · cases h
theorem qib {d : D} {v : V} {k : Key} (r : Rep K H d v) (h : keyOf d = some k) : v = kV k := by
 unfold keyOf at h
 split at h
 · cases h; exact r
 · cases h; exact r
 · cases h
theorem qc3 : ∀ {kvs : List (NestedKey × D)} {ps : List (NestedKey × Addr × V)}, RepT K H kvs ps -> ∀ p ∈ ps, NkV K H p.1 (.ref p.2.1) /\ p.1.depth <= 8
 | [], ps, h, p, hp => by cases (show ps = _ from h); cases hp
 | (k, d) :: kvs, ps, ⟨b, v, r, e, h0, h1, h2⟩, p, hp => by
   subst e
   rcases List.mem_cons.mp hp with e | hp
   · subst e
     exact h0
   · exact qc3 h2 p hp
def RepO (K : PySem.W.Frag) (H : Hp) : Option D -> Option V -> Prop
 | none, none => True
 | some d, some v => Rep K H d v
 | _, _ => False
theorem RepO.isSome {o : Option D} {u : Option V} (r : RepO K H o u) : u.isSome = o.isSome := by
 cases o <;> cases u <;> first | rfl | exact r.elim
theorem RepO.of_some {d : D} {u : Option V} (r : RepO K H (some d) u) : ∃ v, u = some v /\ Rep K H d v := by
 cases u with
 | none => exact r.elim
 | some v => exact ⟨v, rfl, r⟩
theorem RepO.getD {o : Option D} {u : Option V} {d : D} {v : V} (r : RepO K H o u) (rd : Rep K H d v) : Rep K H (o.getD d) (u.getD v) := by
 cases o <;> cases u <;> first | exact rd | exact r | exact r.elim
theorem qjp : ∀ {kvs : List (NestedKey × D)} {ps : List (NestedKey × Addr × V)}, RepT K H kvs ps -> ∀ k, RepO K H (valD kvs k) (valP ps k)
 | [], ps, h, k => by cases (show ps = _ from h); trivial
 | (k0, d) :: kvs, ps, ⟨b, v, r, e, h0, h1, h2⟩, k => by
   subst e
   have ih := qjp h2 k
   unfold valD valP at ih ⊢
   rw [List.find?_cons, List.find?_cons]
   by_cases h : k0 = k
   · simp only [h, decide_true]
     exact h1
   · simp only [h, decide_false]
     exact ih
theorem qp1 {k : NestedKey} {d : D} {v : V} (rd : Rep K H d v) : ∀ {kvs : List (NestedKey × D)} {ps : List (NestedKey × Addr × V)}, RepT K H kvs ps -> RepT K H (kvs.map λ p => if p.1 = k then (p.1, d) else p) (ps.map λ p => if p.1 = k then (p.1, p.2.1, v) else p)
 | [], ps, h => by cases (show ps = _ from h); rfl
 | (k0, d0) :: kvs, ps, ⟨b, v0, r, e, h0, h1, h2⟩ => by
   subst e
   have ih := qp1 (k := k) rd h2
   rw [List.map_cons, List.map_cons]
   by_cases h : k0 = k
   · simp only [h, if_true]
     exact ⟨b, v, _, rfl, h ▸ h0, rd, ih⟩
   · simp only [h, if_false]
     exact ⟨b, v0, _, rfl, h0, h1, ih⟩
theorem qki {k : NestedKey} {b : Addr} {d : D} {v : V} (hk : NkV K H k (.ref b) /\ k.depth <= 8) (rd : Rep K H d v) : ∀ {kvs : List (NestedKey × D)} {ps : List (NestedKey × Addr × V)}, RepT K H kvs ps -> RepT K H (kvs ++ [(k, d)]) (ps ++ [(k, b, v)])
 | [], ps, h => by cases (show ps = _ from h); exact ⟨b, v, [], rfl, hk, rd, rfl⟩
 | (k0, d0) :: kvs, ps, ⟨b0, v0, r, e, h0, h1, h2⟩ => by
   subst e
   exact ⟨b0, v0, _, rfl, h0, h1, qki hk rd h2⟩
theorem qrU {kvs : List (NestedKey × D)} {ps : List (NestedKey × Addr × V)} (h : RepT K H kvs ps) {k : NestedKey} {b : Addr} {d : D} {v : V} (hk : NkV K H k (.ref b) /\ k.depth <= 8) (rd : Rep K H d v) : RepT K H (stoD kvs k d) (putP ps k b v) := by
 have e := (qjp h k).isSome
 unfold stoD putP
 rw [e]
 split
 · exact qp1 rd h
 · exact qki hk rd h
theorem qkP : ∀ {kvs : List (NestedKey × D)} {ps : List (NestedKey × Addr × V)}, RepT K H kvs ps -> ps.length = kvs.length
 | [], ps, h => by cases (show ps = _ from h); rfl
 | (k0, d0) :: kvs, ps, ⟨b0, v0, r, e, h0, h1, h2⟩ => by
   subst e
   exact congrArg (· + 1) (qkP h2)
theorem qge : ∀ {kvs : List (Key × D)} {vs : List (Key × V)}, Repk K H kvs vs -> ∀ k, RepO K H (valD kvs k) (valV vs k)
 | [], ps, h, k => by cases (show ps = _ from h); trivial
 | (k0, d) :: kvs, ps, ⟨v, r, e, h1, h2⟩, k => by
   subst e
   have ih := qge h2 k
   unfold valD valV at ih ⊢
   rw [List.find?_cons, List.find?_cons]
   by_cases h : k0 = k
   · simp only [h, decide_true]
     exact h1
   · simp only [h, decide_false]
     exact ih
theorem qkr {k : Key} {d : D} {v : V} (rd : Rep K H d v) : ∀ {kvs : List (Key × D)} {vs : List (Key × V)}, Repk K H kvs vs -> Repk K H (kvs.map λ p => if p.1 = k then (p.1, d) else p) (vs.map λ p => if p.1 = k then (p.1, v) else p)
 | [], ps, h => by cases (show ps = _ from h); rfl
 | (k0, d0) :: kvs, ps, ⟨v0, r, e, h1, h2⟩ => by
   subst e
   have ih := qkr (k := k) rd h2
   rw [List.map_cons, List.map_cons]
   by_cases h : k0 = k
   · simp only [h, if_true]
     exact ⟨v, _, rfl, rd, ih⟩
   · simp only [h, if_false]
     exact ⟨v0, _, rfl, h1, ih⟩
theorem qq3 {k : Key} {d : D} {v : V} (rd : Rep K H d v) : ∀ {kvs : List (Key × D)} {vs : List (Key × V)}, Repk K H kvs vs -> Repk K H (kvs ++ [(k, d)]) (vs ++ [(k, v)])
 | [], ps, h => by cases (show ps = _ from h); exact ⟨v, [], rfl, rd, rfl⟩
 | (k0, d0) :: kvs, ps, ⟨v0, r, e, h1, h2⟩ => by
   subst e
   exact ⟨v0, _, rfl, h1, qq3 rd h2⟩
theorem qoO : ∀ {kvs : List (Key × D)} {vs : List (Key × V)}, Repk K H kvs vs -> vs.length = kvs.length
 | [], ps, h => by cases (show ps = _ from h); rfl
 | (k0, d0) :: kvs, ps, ⟨v0, r, e, h1, h2⟩ => by
   subst e
   exact congrArg (· + 1) (qoO h2)
theorem qyw {kvs : List (Key × D)} {vs : List (Key × V)} (h : Repk K H kvs vs) (k : Key) {d : D} {v : V} (rd : Rep K H d v) : Repk K H (stoD kvs k d) (putK vs k v) := by
 have e := (qge h k).isSome
 unfold stoD putK
 rw [valV_any, e]
 split
 · exact qkr rd h
 · exact qq3 rd h
end
section
variable {X : Cx} {Ed : DX -> Prop} {E : XK} {K : PySem.W.Frag} {w : World} {pos p : Pos} {e a b c o e2 : Expr} {te ta tb tc td ty tx tv : TE} {de da db dc dd dx dv : DE} {k : Nat} {x : Str} {tt : TT}
theorem qdj (hr : Room k X.A) : X.A.units + 10 < cLine := by
 have := qn8 hr
 omega
def qgJ (w : World) (i : Nat) (d : qao) (ρ : Rho) : Prop := i < ρ.length /\ ∀ q, d.nx (ρ.set i (some (.dt q w [])))
def qhE (i : Nat) (d : qao) (ρ : Rho) : Prop := i < ρ.length /\ ∀ q, d.nx (ρ.set i (some (.dk q [])))
theorem qte {y : Str} {p2 p3 : Pos} (i : Nat) (hN : X.N.Nodup) (hi : X.N[i]? = some y := by rfl) (hx : Loc X.env.scope y := by first | exact Or.inl rfl | exact Or.inr rfl) (hs : swapsWith (.Dict [] [] p3) (some (.Name y p2)) pos.line X.env = pure false := by rfl)
   (hf : X.fn y = true ∨ X.env.scope.names.lookup y = some .local := by first | exact .inl rfl | exact .inr rfl | assumption) : JS X Ed E (.Assign [.Name y p2] (.Dict [] [] p3) pos) (tAsg (qqP X.w) (gName i)) (qgJ X.w i) :=
 ⟨ps_set hN hi hx qzl hs hf, λ B0 B1 A H0 H σ ρ R X d D r h => λ q hq => r.nx _ H0 _ _ _ (R.setOwn (w := .dt q _ []) i h.1 hq ⟨rfl, [], rfl, rfl⟩) (h.2 q)⟩
theorem qpA {y : Str} {p2 p3 : Pos} (i : Nat) (hN : X.N.Nodup) (hi : X.N[i]? = some y := by rfl) (hx : Loc X.env.scope y := by first | exact Or.inl rfl | exact Or.inr rfl) (hs : swapsWith (.Dict [] [] p3) (some (.Name y p2)) pos.line X.env = pure false := by rfl)
   (hf : X.fn y = true ∨ X.env.scope.names.lookup y = some .local := by first | exact .inl rfl | exact .inr rfl | assumption) : JS X Ed E (.Assign [.Name y p2] (.Dict [] [] p3) pos) (tAsg tDNewK (gName i)) (qhE i) :=
 ⟨ps_set hN hi hx pe_dnewK hs hf, λ B0 B1 A H0 H σ ρ R X d D r h => λ q hq => r.nx _ H0 _ _ _ (R.setOwn (w := .dk q []) i h.1 hq ⟨rfl, [], rfl, rfl⟩) (h.2 q)⟩
theorem RepS.dtAt {B0 B1 H0 H : Hp} {A : Nat -> Option Addr} {σ : L2.St} {ρ : Rho} (R : RepS K B0 B1 A H0 H σ ρ) {i : Nat} {q : Addr} {kvs : List (NestedKey × D)} (h : lk i ρ = some (.dt q w kvs)) :
   σ[i]? = some (some (.ref q)) /\ A i = some q /\ ∃ ps, H q = some (DtO w q ps) /\ RepT K H0 kvs ps := by
 obtain ⟨l, ho, e1, e2, n0, nb, hh, rr⟩ := R.ownAt (qbF h) (λ _ z => nomatch z)
 obtain ⟨rfl, ps, rfl, rf⟩ := rr
 exact ⟨e1, e2, ps, hh, rf⟩
theorem RepS.dkAt {B0 B1 H0 H : Hp} {A : Nat -> Option Addr} {σ : L2.St} {ρ : Rho} (R : RepS K B0 B1 A H0 H σ ρ) {i : Nat} {q : Addr} {kvs : List (Key × D)} (h : lk i ρ = some (.dk q kvs)) :
   σ[i]? = some (some (.ref q)) /\ A i = some q /\ ∃ vs, H q = some (.dK vs) /\ Repk K H0 kvs vs := by
 obtain ⟨l, ho, e1, e2, n0, nb, hh, rr⟩ := R.ownAt (qbF h) (λ _ z => nomatch z)
 obtain ⟨rfl, vs, rfl, rf⟩ := rr
 exact ⟨e1, e2, vs, hh, rf⟩
theorem qkg {H0 H : Hp} {q : Addr} {ps : List (NestedKey × Addr × V)} {kvs : List (NestedKey × D)} {k : NestedKey} {d : D} {u : V} (hs : Same H0 H) (hq : H q = some (DtO w q ps)) (r : RepT K H0 kvs ps) (ru : Rep K H d u) (hk : tkOf d = some k) : GetT w K H q u (valP ps k) /\ RepO K H0 (valD kvs k) (valP ps k) := by
 obtain ⟨b, rfl, n1, n2⟩ := qqG ru hk
 exact ⟨⟨ps, k, b, hq, λ p hp => ⟨NkV.mono hs _ _ (qc3 r p hp).1, (qc3 r p hp).2⟩, rfl, n1, n2, rfl⟩, qjp r k⟩
def qhc (w : World) (i : Nat) (de dk : DE) (d : qao) (ρ : Rho) : Prop := de ρ λ v => match lk i ρ with
 | some (.dt a w' kvs) => w' = w /\ dk ρ λ z => onS (tkOf z) λ k => kvs.length < 100000 /\ d.nx (ρ.set i (some (.dt a w (stoD kvs k v))))
 | _ => False
def qis (i : Nat) (de dk : DE) (d : qao) (ρ : Rho) : Prop := de ρ λ v => match lk i ρ with
 | some (.dk a kvs) => dk ρ λ z => onS (keyOf z) λ k => kvs.length < 100000 /\ d.nx (ρ.set i (some (.dk a (stoD kvs k v))))
 | _ => False
theorem qzu {y : Str} {p2 p3 : Pos} (i : Nat) (hr : Room k X.A) (he : JE X Ed E e te de) (hk : JE X Ed E b tb db) (hN : X.N[i]? = some y := by rfl) (hv : Vis X.env.scope y := by first | exact Or.inl rfl | exact Or.inr (Or.inl rfl) | exact Or.inr (Or.inr rfl)) (hd : (y == ("__debug__" : Str)) = false := by decide)
   (hcd : (y == ("__classdict__" : Str)) = false := by decide) (hs : swapsWith e (some (.Subscript (.Name y p2) b p3)) pos.line X.env = pure false := by rfl) : JS X Ed E (.Assign [.Subscript (.Name y p2) b p3] e pos) (ql8 X.w X.K (tVar i) tb te) (qhc X.w i de db) :=
 ⟨qvF (qdj hr) (pe_var hN hv hd hcd) hk.pe he.pe hs, λ B0 B1 A H0 H σ ρ R X d D r h => he.sim B0 B1 A H0 H σ ρ R X _ h _ λ z v H1 H2 R1 g1 r1 k => by
   split at k
   · rename_i q w' kvs e
     obtain ⟨rfl, k⟩ := k
     refine ⟨.ref q, (R1.dtAt e).1, hk.sim B0 B1 A H1 H2 σ ρ R1 X _ k _ λ z2 u H3 H4 R2 g2 r2 k2 => ?_⟩
     obtain ⟨nk, hk2, k2⟩ := qaB k2
     obtain ⟨e1, e2, ps, hh, rr⟩ := R2.dtAt e
     obtain ⟨b', rfl, n1, n2⟩ := qqG r2 hk2
     refine ⟨q, _, rfl, ⟨ps, nk, b', hh, λ p hp => ⟨NkV.mono R2.ex _ _ (qc3 rr p hp).1, (qc3 rr p hp).2⟩, rfl, NkV.mono R2.ex _ _ n1, n2, by rw [qkP rr]; exact Nat.lt_of_lt_of_le k2.1 (by decide), rfl⟩, ?_⟩
     exact r.nx _ _ _ _ _ (R2.updOwn (w := .dt q _ (stoD kvs nk z)) (qhQ e) e1 e2 ⟨rfl, _, rfl, qrU rr ⟨n1, n2⟩ (Rep.mono g2.g0 _ _ r1)⟩) k2.2
   · exact k.elim⟩
theorem qoJ {y : Str} {p2 p3 : Pos} (i : Nat) (hr : Room k X.A) (he : JE X Ed E e te de) (hk : JE X Ed E b tb db) (hN : X.N[i]? = some y := by rfl) (hv : Vis X.env.scope y := by first | exact Or.inl rfl | exact Or.inr (Or.inl rfl) | exact Or.inr (Or.inr rfl)) (hd : (y == ("__debug__" : Str)) = false := by decide)
   (hcd : (y == ("__classdict__" : Str)) = false := by decide) (hs : swapsWith e (some (.Subscript (.Name y p2) b p3)) pos.line X.env = pure false := by rfl) : JS X Ed E (.Assign [.Subscript (.Name y p2) b p3] e pos) (sDPut (tVar i) tb te) (qis i de db) :=
 ⟨ps_dput (by have := qdj hr; omega) (pe_var hN hv hd hcd) hk.pe he.pe hs, λ B0 B1 A H0 H σ ρ R X d D r h => he.sim B0 B1 A H0 H σ ρ R X _ h _ λ z v H1 H2 R1 g1 r1 k => by
   split at k
   · rename_i q kvs e
     refine ⟨.ref q, (R1.dkAt e).1, hk.sim B0 B1 A H1 H2 σ ρ R1 X _ k _ λ z2 u H3 H4 R2 g2 r2 k2 => ?_⟩
     obtain ⟨nk, hk2, k2⟩ := qaB k2
     obtain ⟨e1, e2, ps, hh, rr⟩ := R2.dkAt e
     cases qib r2 hk2
     refine ⟨q, _, rfl, .k hh (by rw [qoO rr]; exact Nat.lt_of_lt_of_le k2.1 (by decide)), ?_⟩
     exact r.nx _ _ _ _ _ (R2.updOwn (w := .dk q (stoD kvs nk z)) (qhQ e) e1 e2 ⟨rfl, _, rfl, qyw rr nk (Rep.mono g2.g0 _ _ r1)⟩) k2.2
   · exact k.elim⟩
def qfz (w : World) (i : Nat) (dk : DE) (ρ : Rho) (Q : D -> Prop) : Prop := match lk i ρ with
 | some (.dt _ w' kvs) => w' = w /\ dk ρ λ z => onS (tkOf z) λ k => onS (valD kvs k) Q
 | _ => False
def qfQ (i : Nat) (dk : DE) (ρ : Rho) (Q : D -> Prop) : Prop := match lk i ρ with
 | some (.dk _ kvs) => dk ρ λ z => onS (keyOf z) λ k => onS (valD kvs k) Q
 | _ => False
theorem qla {y : Str} {p2 : Pos} (i : Nat) (hr : Room k X.A) (hk : JE X Ed E b tb db) (hN : X.N[i]? = some y := by rfl) (hv : Vis X.env.scope y := by first | exact Or.inl rfl | exact Or.inr (Or.inl rfl) | exact Or.inr (Or.inr rfl)) (hd : (y == ("__debug__" : Str)) = false := by decide)
   (hcd : (y == ("__classdict__" : Str)) = false := by decide) (hs : NoSl b := by exact λ _ _ => rfl) : JE X Ed E (.Subscript (.Name y p2) b pos) (qqp X.w X.K (tVar i) tb) (qfz X.w i db) :=
 ⟨qsr (qdj hr) (pe_var hN hv hd hcd) hk.pe hs, λ B0 B1 A H0 H σ ρ R X Qd h Q q => by
   unfold qfz at h
   split at h
   · rename_i l w' kvs e
     obtain ⟨rfl, h⟩ := h
     refine ⟨.ref l, (R.dtAt e).1, hk.sim B0 B1 A H0 H σ ρ R X _ h _ λ z u H3 H4 R2 g2 r2 k2 => ?_⟩
     obtain ⟨nk, hk2, k2⟩ := qaB k2
     obtain ⟨d, hd', k2⟩ := qaB k2
     obtain ⟨e1, e2, ps, hh, rr⟩ := R2.dtAt e
     obtain ⟨g, ro⟩ := qkg R2.ex hh rr (Rep.mono R2.ex _ _ r2) hk2
     rw [hd'] at ro
     obtain ⟨v, hv', rv⟩ := ro.of_some
     rw [hv'] at g
     exact ⟨l, v, rfl, g, q d v _ _ R2 g2 rv k2⟩
   · exact h.elim⟩
theorem qgd {y : Str} {p2 : Pos} (i : Nat) (hr : Room k X.A) (hk : JE X Ed E b tb db) (hN : X.N[i]? = some y := by rfl) (hv : Vis X.env.scope y := by first | exact Or.inl rfl | exact Or.inr (Or.inl rfl) | exact Or.inr (Or.inr rfl)) (hd : (y == ("__debug__" : Str)) = false := by decide)
   (hcd : (y == ("__classdict__" : Str)) = false := by decide) (hs : NoSl b := by exact λ _ _ => rfl) : JE X Ed E (.Subscript (.Name y p2) b pos) (tDGet (tVar i) tb) (qfQ i db) :=
 ⟨pe_dget (by have := qdj hr; omega) (pe_var hN hv hd hcd) hk.pe hs, λ B0 B1 A H0 H σ ρ R X Qd h Q q => by
   unfold qfQ at h
   split at h
   · rename_i l kvs e
     refine ⟨.ref l, (R.dkAt e).1, hk.sim B0 B1 A H0 H σ ρ R X _ h _ λ z u H3 H4 R2 g2 r2 k2 => ?_⟩
     obtain ⟨nk, hk2, k2⟩ := qaB k2
     obtain ⟨d, hd', k2⟩ := qaB k2
     obtain ⟨e1, e2, vs, hh, rr⟩ := R2.dkAt e
     cases qib r2 hk2
     have ro := qge rr nk
     rw [hd'] at ro
     obtain ⟨v, hv', rv⟩ := ro.of_some
     refine ⟨l, v, rfl, ?_, q d v _ _ R2 g2 rv k2⟩
     rw [<- hv']
     exact .k hh
   · exact h.elim⟩
def qgn (w : World) (i : Nat) (dk dz : DE) (ρ : Rho) (Q : D -> Prop) : Prop := match lk i ρ with
 | some (.dt _ w' kvs) => w' = w /\ dk ρ λ z => dz ρ λ y => onS (tkOf z) λ k => Q ((valD kvs k).getD y)
 | _ => False
def qfm (i : Nat) (dk dz : DE) (ρ : Rho) (Q : D -> Prop) : Prop := match lk i ρ with
 | some (.dk _ kvs) => dk ρ λ z => dz ρ λ y => onS (keyOf z) λ k => Q ((valD kvs k).getD y)
 | _ => False
theorem qpd {o e f : Expr} {apos cpos : Pos} (base : attributeBase o "get" X.env (eval o X.env) = eval o X.env := by rfl)
   (few : ((backTo cpos (starEach [e, f] X.env)).all (λ x => !x.1) && (backToKw cpos (keywordEach [] X.env)).all (λ x => x.1.isSome) && decide (([e, f] : List Expr).length + ([] : List Keyword).length + (if ([] : List Keyword).isEmpty then 0 else 1) < 30)) = true := by rfl)
   (line : (apos.endLine == cpos.line) = true := by rfl) (trees : backTo cpos (starEach [e, f] X.env) = [(false, eval e X.env), (false, eval f X.env)] := by rfl) : M2 X o "get" apos e f cpos := ⟨base, few, line, trees⟩
theorem qCy {y : Str} {p2 p3 p4 : Pos} (i : Nat) (hr : Room k X.A) (hk : JE X Ed E b tb db) (hz : JE X Ed E c tc dc) (m : M2 X (.Name y p2) "get" p3 b c p4) (hN : X.N[i]? = some y := by rfl) (hv : Vis X.env.scope y := by first | exact Or.inl rfl | exact Or.inr (Or.inl rfl) | exact Or.inr (Or.inr rfl)) (hd : (y == ("__debug__" : Str)) = false := by decide)
   (hcd : (y == ("__classdict__" : Str)) = false := by decide) : JE X Ed E (.Call (.Attribute (.Name y p2) "get" p3) [b, c] [] p4) (qo3 X.w X.K (tVar i) tb tc) (qgn X.w i db dc) :=
 ⟨qA0 (qdj hr) (pe_var hN hv hd hcd) hk.pe hz.pe m, λ B0 B1 A H0 H σ ρ R X Qd h Q q => by
   unfold qgn at h
   split at h
   · rename_i l w' kvs e
     obtain ⟨rfl, h⟩ := h
     obtain ⟨_, _, ps0, hh0, _⟩ := R.dtAt e
     refine ⟨.ref l, (R.dtAt e).1, l, rfl, ⟨ps0, hh0⟩, hk.sim B0 B1 A H0 H σ ρ R X _ h _ λ z u H3 H4 R2 g2 r2 k2 => hz.sim B0 B1 A H3 H4 σ ρ R2 X _ k2 _ λ y v H5 H6 R3 g3 r3 k3 => ?_⟩
     obtain ⟨nk, hk2, k3⟩ := qaB k3
     obtain ⟨e1, e2, ps, hh, rr⟩ := R3.dtAt e
     obtain ⟨g, ro⟩ := qkg R3.ex hh rr (Rep.mono R3.ex _ _ (Rep.mono g3.g0 _ _ r2)) hk2
     exact ⟨_, g, q _ _ _ _ R3 (g2.trans g3) (ro.getD r3) k3⟩
   · exact h.elim⟩
theorem qse {y : Str} {p2 p3 p4 : Pos} (i : Nat) (hr : Room k X.A) (hk : JE X Ed E b tb db) (hz : JE X Ed E c tc dc) (m : M2 X (.Name y p2) "get" p3 b c p4) (hN : X.N[i]? = some y := by rfl) (hv : Vis X.env.scope y := by first | exact Or.inl rfl | exact Or.inr (Or.inl rfl) | exact Or.inr (Or.inr rfl)) (hd : (y == ("__debug__" : Str)) = false := by decide)
   (hcd : (y == ("__classdict__" : Str)) = false := by decide) : JE X Ed E (.Call (.Attribute (.Name y p2) "get" p3) [b, c] [] p4) (tDGet2 (tVar i) tb tc) (qfm i db dc) :=
 ⟨pe_dget2 (by have := qdj hr; omega) (pe_var hN hv hd hcd) hk.pe hz.pe m, λ B0 B1 A H0 H σ ρ R X Qd h Q q => by
   unfold qfm at h
   split at h
   · rename_i l kvs e
     obtain ⟨_, _, ps0, hh0, _⟩ := R.dkAt e
     refine ⟨.ref l, (R.dkAt e).1, l, rfl, .inl ⟨ps0, .inl hh0⟩, hk.sim B0 B1 A H0 H σ ρ R X _ h _ λ z u H3 H4 R2 g2 r2 k2 => hz.sim B0 B1 A H3 H4 σ ρ R2 X _ k2 _ λ y v H5 H6 R3 g3 r3 k3 => ?_⟩
     obtain ⟨nk, hk2, k3⟩ := qaB k3
     obtain ⟨e1, e2, vs, hh, rr⟩ := R3.dkAt e
     cases qib r2 hk2
     exact ⟨_, .k hh, q _ _ _ _ R3 (g2.trans g3) ((qge rr nk).getD r3) k3⟩
   · exact h.elim⟩
def dIxT (w : World) (x z : D) (Q : D -> Prop) : Prop := match x with
 | .dt w' kvs => w' = w /\ onS (tkOf z) λ k => onS (valD kvs k) Q
 | _ => False
def dIxK (x z : D) (Q : D -> Prop) : Prop := match x with
 | .dk kvs => onS (keyOf z) λ k => onS (valD kvs k) Q
 | _ => False
def qnc (w : World) (da dk dz : DE) (ρ : Rho) (Q : D -> Prop) : Prop := da ρ λ x => match x with
 | .dt w' kvs => w' = w /\ dk ρ λ z => dz ρ λ y => onS (tkOf z) λ k => Q ((valD kvs k).getD y)
 | _ => False
def qnB (da dk dz : DE) (ρ : Rho) (Q : D -> Prop) : Prop := da ρ λ x => match x with
 | .dk kvs => dk ρ λ z => dz ρ λ y => onS (keyOf z) λ k => Q ((valD kvs k).getD y)
 | _ => False
end
def nkI : Key -> NestedKey
 | .inl i => .num i
 | .inr x => .text x
def nkT (k : List Key) : NestedKey := .tup (k.map nkI)
theorem qzF : ∀ {a b : Key}, nkI a = nkI b -> a = b
 | .inl a, .inl b, h => by cases h; rfl
 | .inl a, .inr b, h => nomatch h
 | .inr a, .inl b, h => nomatch h
 | .inr a, .inr b, h => by cases h; rfl
theorem qm5 : ∀ {a b : List Key}, a.map nkI = b.map nkI -> a = b
 | [], [], _ => rfl
 | [], _ :: _, h => nomatch h
 | _ :: _, [], h => nomatch h
 | x :: a, y :: b, h => by
   rw [List.map_cons, List.map_cons] at h
   injection h with h1 h2
   rw [qzF h1, qm5 h2]
theorem qwj {a b : List Key} (h : nkT a = nkT b) : a = b := by
 unfold nkT at h
 injection h with h
 exact qm5 h
theorem qAE {K : PySem.W.Frag} {H : Hp} : ∀ {k : Key} {v : V}, NkV K H (nkI k) v -> v = kV k
 | .inl _, _, h => h
 | .inr _, _, h => h
theorem qqj {K : PySem.W.Frag} {H : Hp} : ∀ {ks : List Key} {vs : List V}, NkVs K H (ks.map nkI) vs -> vs = ks.map kV
 | [], _, h => h
 | k :: ks, _, ⟨v, r, e, h1, h2⟩ => by rw [e, qAE h1, qqj h2]; rfl
theorem qoZ {K : PySem.W.Frag} {H : Hp} {k : List Key} {b : Addr} (h : NkV K H (nkT k) (.ref b)) : SqT K H b (k.map kV) := by
 obtain ⟨a, vs, e, hs, hr⟩ := h
 cases e
 rwa [qqj hr] at hs
def rSortT (w : World) (K : PySem.W.Frag) : List V -> Hp -> VK -> Prop := λ vs H Q => ∃ (a : Addr) (ps : List (NestedKey × Addr × V)) (ks : List (List Key)) (sh : Nat -> Bool), vs = [.ref a] /\ H a = some (DtO w a ps) /\ (∀ p ∈ ps, NkV K H p.1 (.ref p.2.1) /\ p.1.depth <= 8) /\ ps.map (·.1) = ks.map nkT /\
 (∀ k ∈ ks, DS.Shaped sh k) /\ ∀ (N : List (Addr × List Key)) (p : Addr), (N.map (·.2)).Perm ks -> (∀ x ∈ N, ∃ p ∈ ps, p.1 = nkT x.2 /\ p.2.1 = x.1) -> N.Pairwise (λ x y => DS.ltK x.2 y.2 = true) -> H p = none -> Q (.ref p) (upd H p (.lst (N.map λ x => .ref x.1)))
theorem qq4 {K : PySem.W.Frag} {H : Hp} : ∀ {ps : List (NestedKey × Addr × V)} {ks : List (List Key)}, ps.map (·.1) = ks.map nkT -> (∀ p ∈ ps, NkV K H p.1 (.ref p.2.1) /\ p.1.depth <= 8) ->
   ∃ M : List (Addr × List Key), M.map (·.2) = ks /\ ps.map (λ p => p.2.1) = M.map (·.1) /\ ∀ x ∈ M, SqT K H x.1 (x.2.map kV) /\ ∃ p ∈ ps, p.1 = nkT x.2 /\ p.2.1 = x.1
 | [], [], _, _ => ⟨[], rfl, rfl, λ x hx => (by cases hx)⟩
 | [], _ :: _, h, _ => nomatch h
 | _ :: _, [], h, _ => nomatch h
 | p :: ps, k :: ks, h, hk => by
   rw [List.map_cons, List.map_cons] at h
   injection h with h1 h2
   obtain ⟨M, e1, e2, e3⟩ := qq4 h2 λ q hq => hk q (List.mem_cons_of_mem _ hq)
   refine ⟨(p.2.1, k) :: M, by rw [List.map_cons, e1], by rw [List.map_cons, List.map_cons, e2], λ x hx => ?_⟩
   rcases List.mem_cons.mp hx with e | hx
   · subst e
     exact ⟨qoZ (h1 ▸ (hk p List.mem_cons_self).1), p, List.mem_cons_self, h1, rfl⟩
   · obtain ⟨z1, y, z2, z3⟩ := e3 x hx
     exact ⟨z1, y, List.mem_cons_of_mem _ z2, z3⟩
section
variable {X : Cx}
theorem qpC : ∀ {ps : List (NestedKey × Addr × V)} {xs : List (NestedKey × Addr × Value)}, Paired RelT ps xs -> ps.map (·.1) = xs.map (·.1) /\ ps.map (λ p => p.2.1) = xs.map (λ p => p.2.1)
 | [], [], .nil => ⟨rfl, rfl⟩
 | p :: ps, x :: xs, .cons ⟨e1, e2, _⟩ t => by
   obtain ⟨h1, h2⟩ := qpC t
   simp only [List.map_cons, h1, h2, e1, e2, and_self]
theorem cr_sortT (hc : X.calm = true) : CallR X (.builtin "sorted") (rSortT X.w X.K) := by
 intro pins s σ H xs us Q I r q
 obtain ⟨a, ps, ks, sh, rfl, ha, hk, hks, shp, q⟩ := q
 rw [Vals.ref1 r]
 have x : DtAt X.w s.heap a ps := (I.hok a _ ha).1
 obtain ⟨ys, o, es, ep, rel, ho, hx, hd, he, hn⟩ := x.ex
 obtain ⟨M, m1, m2, m3⟩ := qq4 hks hk
 obtain ⟨f1, f2⟩ := qpC rel
 have hz : es.size = ys.length := by rw [<- Array.length_toList, he, List.length_map]
 have hy : ys.length = ps.length := rel.length.symm
 have hM : M.length = ps.length := by
   have e := congrArg List.length m2
   rw [List.length_map, List.length_map] at e
   exact e.symm
 have fit := x.fit
 refine Calls.call_function_entry kind_sorted plain_sorted entry_sorted (args_sorted1 _) ?_
 unfold Builtin.«sorted»
 refine wpAny_bind (m := checkCount "sorted" 1 1 _) (wpAny_pure ?_)
 refine wpAny_bind (PySem.W.kdu_collect (A := X.A.in1) (kdl_raw fit.2 hx hd) (I.ok.hd hc) ho (by omega) λ h' tk acc hkp hacc => ?_)
 have ea : acc.toList = M.map λ x => Value.ref x.1 := by
   have e0 : M.map (λ x => Value.ref x.1) = (ys.map λ p => p.2.1).map Value.ref := by rw [<- f2, m2, List.map_map]; rfl
   rw [e0]
   apply List.ext_getElem?
   intro j
   rw [List.map_map, List.getElem?_map]
   cases hj : acc.toList[j]? with
   | none =>
     have h1 := List.getElem?_eq_none_iff.mp hj
     rw [Array.length_toList, hacc.1] at h1
     rw [List.getElem?_eq_none (by omega)]
     rfl
   | some v =>
     obtain ⟨en, hen, hv⟩ := hacc.2 j v (by rw [<- Array.getElem?_toList]; exact hj)
     rw [<- Array.getElem?_toList, he, List.getElem?_map] at hen
     cases hb : ys[j]? with
     | none => rw [hb] at hen; exact nomatch hen
     | some b =>
       rw [hb] at hen
       cases (Option.some.inj hen)
       rw [hv]
       rfl
 have I1 : Inv X pins σ H { s with heap := h', toks := tk } := I.kept hkp
 have len : acc.toList.length <= sizeLine := by rw [ea, List.length_map, hM]; exact fit.1
 refine wpAny_bind (wpAny_newList ?_ len)
 generalize acc.toList = vs at ea len ⊢
 have hl : (h'.push (seqObj "list" vs.toArray 0)).get? h'.objs.size = some (seqObj "list" vs.toArray 0) := Heap.get?_push_size _ rfl
 show wpAny _ _ _ _ _ { s with heap := h'.push (seqObj "list" vs.toArray 0), toks := tk }
 refine wpAny_bind (wpAny_holding (DS.ql7 (s := { s with heap := h'.push (seqObj "list" vs.toArray 0), toks := tk }) (M := M) (sh := sh) hl ea (λ p hp => DS.tupExtra.ext (DS.qj1 I1 (m3 p hp).1) λ b u e => Heap.get?_push_of_some _ e) (λ p hp => shp _ (m1 ▸ List.mem_map.mpr ⟨p, hp, rfl⟩)) len λ out N e1 e2 e3 => ?_))
 obtain ⟨c, hc'⟩ := sortedHeap_at (vs := vs) (out := out) hl
 have nd : (N.map (·.2)).Nodup := by
   refine (e2.map (·.2)).nodup_iff.mpr ?_
   rw [m1]
   rw [<- f1, hks] at hn
   exact List.Pairwise.of_map nkT (λ _ _ h e => h (congrArg nkT e)) hn
 have pw : N.Pairwise λ x y => DS.ltK x.2 y.2 = true := ((List.pairwise_map.mp nd).and e3).imp λ {x y} h => DS.qkZ h.1 h.2
 have rv : Vals (N.map λ x => V.ref x.1) out.toList := by
   rw [e1]
   exact DS.qjw N
 have lN : (N.map λ x => V.ref x.1).length <= sizeLine := by rw [List.length_map, e2.length_eq, hM]; exact fit.1
 refine wpAny_pure ⟨_, rfl, .ref h'.objs.size, upd H h'.objs.size (.lst (N.map λ x => V.ref x.1)), I1.laid (t' := tk) (λ b u e => ?_) (Nat.le_refl _)
   (show ObjOk X.prog X.w _ _ _ (.lst (N.map λ x => V.ref x.1)) from ⟨lN, out.toList, c, rv, hc'⟩), rfl, q N _ (m1 ▸ e2.map (·.2)) (λ x hx => (m3 x (e2.mem_iff.mp hx)).2) pw (I1.hok.fresh (Nat.le_refl _))⟩
 have lt : b < h'.objs.size := Heap.lt_size e
 rw [sortedHeap_old (Nat.ne_of_lt lt) (by rw [size_push']; exact Nat.lt_succ_of_lt lt)]
 exact Heap.get?_push_of_some _ e
end
section
variable {X : Cx} {Ed : DX -> Prop} {E : XK} {K : PySem.W.Frag} {w : World} {pos p : Pos} {e a : Expr} {te ta : TE} {de da : DE} {x : Str}
def qhH (kvs : List (NestedKey × D)) (Q : D -> Prop) : Prop := ∃ (ks : List (List Key)) (sh : Nat -> Bool), kvs.map (·.1) = ks.map nkT /\ (∀ k ∈ ks, DS.Shaped sh k) /\ ∀ ys, ys.Perm ks -> qbP ks ys -> Q (.lst (ys.map tupD))
def qhT (kvs : List (Key × D)) (Q : D -> Prop) : Prop := ∃ ks : List Str, kvs.map (·.1) = ks.map Sum.inr /\ ks.length < 1000 /\ ∀ ys, ys.Perm ks -> sortedS ys = true -> Q (.lst (ys.map D.str))
def qe7 (w : World) (i : Nat) (ρ : Rho) (Q : D -> Prop) : Prop := match lk i ρ with
 | some (.dt _ w' kvs) => w' = w /\ qhH kvs Q
 | _ => False
def qgf (i : Nat) (ρ : Rho) (Q : D -> Prop) : Prop := match lk i ρ with
 | some (.dk _ kvs) => qhT kvs Q
 | _ => False
theorem qpN {H : Hp} : ∀ {kvs : List (NestedKey × D)} {ps : List (NestedKey × Addr × V)}, RepT K H kvs ps -> ps.map (·.1) = kvs.map (·.1)
 | [], ps, h => by cases (show ps = _ from h); rfl
 | (k, d) :: kvs, ps, ⟨b, v, r, e, h0, h1, h2⟩ => by
   subst e
   rw [List.map_cons, List.map_cons, qpN h2]
theorem qlX {H : Hp} : ∀ {kvs : List (Key × D)} {vs : List (Key × V)}, Repk K H kvs vs -> vs.map (·.1) = kvs.map (·.1)
 | [], ps, h => by cases (show ps = _ from h); rfl
 | (k, d) :: kvs, ps, ⟨v, r, e, h1, h2⟩ => by
   subst e
   rw [List.map_cons, List.map_cons, qlX h2]
theorem qro {H : Hp} : ∀ ys : List Str, Reps K H (ys.map D.str) (ys.map V.str)
 | [] => rfl
 | y :: ys => ⟨_, _, rfl, rfl, qro ys⟩
theorem qv4 {H0 H : Hp} {a : Addr} {ps : List (NestedKey × Addr × V)} {kvs : List (NestedKey × D)} {Qd : D -> Prop} {Q : VK} (hs : Same H0 H) (hh : H a = some (DtO w a ps)) (rr : RepT K H0 kvs ps) (h : qhH kvs Qd)
   (q : ∀ x v p us, H p = none -> Rep K (upd H0 p (.lst us)) x v -> Qd x -> Q v (upd H p (.lst us))) : rSortT w K [.ref a] H Q := by
 obtain ⟨ks, sh, h1, h2, h3⟩ := h
 have kk := qc3 rr
 refine ⟨a, ps, ks, sh, rfl, hh, λ p hp => ⟨NkV.mono hs _ _ (kk p hp).1, (kk p hp).2⟩, by rw [qpN rr, h1], h2, λ N p pm sq pw hp => ?_⟩
 refine q (.lst ((N.map (·.2)).map tupD)) (.ref p) p _ hp ⟨p, _, rfl, .inl (.inl upd_same), qjA λ x hx => ?_⟩ (h3 _ pm ⟨List.pairwise_map.mpr pw, λ k => pm.mem_iff⟩)
 obtain ⟨y, hy, e1, e2⟩ := sq x hx
 refine qaC (same_upd (hs.free hp)) (qoZ ?_)
 rw [<- e1, <- e2]
 exact (kk y hy).1
theorem qiy (hc : X.calm = true) : CallR X (.builtin "sorted") (λ xs H Q => ∃ (a : Addr) (kvs : List (Key × V)) (ks : List Str), xs = [.ref a] /\ Rd H a (.dK kvs) /\ kvs.map (·.1) = ks.map Sum.inr /\ ks.length < 1000 /\
   ∀ ys p, ys.Perm ks -> sortedS ys = true -> H p = none -> Q (.ref p) (upd H p (.lst (ys.map V.str)))) := by
 intro pins s σ H xs us Q I r q
 obtain ⟨a, kvs, ks, rfl, hd, hks, few, q⟩ := q
 rw [Vals.ref1 r]
 obtain ⟨_, lo, vs, rel, dd⟩ := dk_rd I.hok hd
 obtain ⟨ep, hat⟩ := dd.dictAt
 have names : vs.map (·.1) = ks.map Sum.inr := rel.keys.symm.trans hks
 have many : vs.length = ks.length := by simpa using congrArg List.length names
 refine Calls.call_function_entry kind_sorted plain_sorted entry_sorted (args_sorted1 _) ?_
 unfold Builtin.«sorted»
 refine wpAny_bind (m := checkCount "sorted" 1 1 _) (wpAny_pure ?_)
 refine wpAny_bind (PySem.W.kdu_collect (A := X.A.in1) (PySem.W.kdl_dict (knd := mixKind X.prog X.w) (kvs := vs) (ep := ep) lo) (I.ok.hd hc) hat (by rw [many, sizeLine_eq]; omega) λ h' tk acc old all => ?_)
 have len : acc.toList.length = ks.length := all.1.trans many
 have txt : StrsAre acc.toList ks := strs_at len λ j v e => by
   obtain ⟨k, x, e1, e2⟩ := all.2 j v (by rw [<- Array.getElem?_toList]; exact e)
   have e3 : (ks.map Sum.inr)[j]? = some k := by rw [<- names, List.getElem?_map, e1]; rfl
   rw [List.getElem?_map] at e3
   obtain ⟨y, y1, rfl⟩ := Option.map_eq_some_iff.mp e3
   obtain ⟨t, ev⟩ := Value.isStrOf_shape (x := y) (v := v) e2
   exact ⟨y, t, y1, ev⟩
 have J : Inv X pins σ H { s with heap := h', toks := tk } := I.kept old
 have room : acc.toList.length <= sizeLine := by rw [len, sizeLine_eq]; omega
 refine wpAny_bind (wpAny_newList ?_ room)
 generalize acc.toList = us at txt room ⊢
 have hl : (h'.push (seqObj "list" us.toArray 0)).get? h'.objs.size = some (seqObj "list" us.toArray 0) := Heap.get?_push_size _ rfl
 show wpAny _ _ _ _ _ { s with heap := h'.push (seqObj "list" us.toArray 0), toks := tk }
 refine wpAny_bind (wpAny_holding (wpAny_call_entry slot_list_sort ⟨_, hl, rfl⟩ entry_list_sort
   (list_sort_treeKAny strKind_oneLt (s := { s with heap := h'.push (seqObj "list" us.toArray 0), toks := tk }) hl txt.keysOf (λ v1 v2 rest e => keyKind_strs (e ▸ txt)) room λ st' h1 h2 => ⟨_, rfl, ?_⟩) (args_list_sort _)))
 obtain ⟨ys, g1, g2, g3⟩ := sorted_out_str txt h1 h2
 obtain ⟨c, hc'⟩ := sortedHeap_at (vs := us) (out := (arrOf st').map (·.2)) hl
 have lN : (ys.map V.str).length <= sizeLine := by rw [List.length_map, g2.length_eq, sizeLine_eq]; omega
 refine wpAny_pure ⟨_, rfl, .ref h'.objs.size, upd H h'.objs.size (.lst (ys.map V.str)), J.laid (t' := tk) (λ b u e => ?_) (Nat.le_refl _)
   (show ObjOk X.prog X.w _ _ _ (.lst (ys.map V.str)) from ⟨lN, ((arrOf st').map (·.2)).toList, c, vals_of_strs g1, hc'⟩), rfl, q ys _ g2 g3 (J.hok.fresh (Nat.le_refl _))⟩
 have lt : b < h'.objs.size := Heap.lt_size e
 rw [sortedHeap_old (Nat.ne_of_lt lt) (by rw [size_push']; exact Nat.lt_succ_of_lt lt)]
 exact Heap.get?_push_of_some _ e
theorem qCz {H0 H : Hp} {a : Addr} {vs : List (Key × V)} {kvs : List (Key × D)} {Qd : D -> Prop} {Q : VK} (hs : Same H0 H) (hh : H a = some (.dK vs)) (rr : Repk K H0 kvs vs) (h : qhT kvs Qd)
   (q : ∀ x v p us, H p = none -> Rep K (upd H0 p (.lst us)) x v -> Qd x -> Q v (upd H p (.lst us))) : ∃ (b : Addr) (us : List (Key × V)) (ks : List Str), [V.ref a] = [.ref b] /\ Rd H b (.dK us) /\ us.map (·.1) = ks.map Sum.inr /\ ks.length < 1000 /\
   ∀ ys p, ys.Perm ks -> sortedS ys = true -> H p = none -> Q (.ref p) (upd H p (.lst (ys.map V.str))) := by
 obtain ⟨ks, h1, h2, h3⟩ := h
 exact ⟨a, vs, ks, rfl, .inl hh, by rw [qlX rr, h1], h2, λ ys p pm so hp => q (.lst (ys.map D.str)) (.ref p) p _ hp ⟨p, _, rfl, .inl (.inl upd_same), qro ys⟩ (h3 ys pm so)⟩
theorem qAq {y : Str} {p2 : Pos} (i : Nat) (hm : X.mg "sorted" = none) (hc : X.calm = true) (hN : X.N[i]? = some y := by rfl) (hv : Vis X.env.scope y := by first | exact Or.inl rfl | exact Or.inr (Or.inl rfl) | exact Or.inr (Or.inr rfl)) (hd : (y == ("__debug__" : Str)) = false := by decide)
   (hcd : (y == ("__classdict__" : Str)) = false := by decide) (hg : Gl X "sorted" := by rfl) (he : starEach [.Name y p2] X.env = (false, eval (.Name y p2) X.env) :: starEach [] X.env := by rfl) (hpl : (backTo pos (starEach [] X.env)).any (·.1) = false := by rfl) :
   JE X Ed E (.Call (.Name "sorted" p) [.Name y p2] [] pos) (tCB (rSortT X.w X.K) (tCons (tVar i) tNil)) (qe7 X.w i) := ⟨pe_callB (cr_sortT hc) hg hm (by decide +kernel) (pa_cons (pe_var hN hv hd hcd) pa_nil he) (by decide) (by decide) he hpl, λ B0 B1 A H0 H σ ρ R X Qd h Q q => by
   unfold qe7 at h
   split at h
   · rename_i l w' kvs e
     obtain ⟨rfl, h⟩ := h
     obtain ⟨e1, e2, ps, hh, rr⟩ := R.dtAt e
     exact ⟨.ref l, e1, qv4 R.ex hh rr h λ x v p o hp r k => q x v _ _ (R.grow (Grow.new R.ex hp)) (Grow.new R.ex hp) r k⟩
   · exact h.elim⟩
theorem qw4 {y : Str} {p2 : Pos} (i : Nat) (hm : X.mg "sorted" = none) (hc : X.calm = true) (hN : X.N[i]? = some y := by rfl) (hv : Vis X.env.scope y := by first | exact Or.inl rfl | exact Or.inr (Or.inl rfl) | exact Or.inr (Or.inr rfl)) (hd : (y == ("__debug__" : Str)) = false := by decide)
   (hcd : (y == ("__classdict__" : Str)) = false := by decide) (hg : Gl X "sorted" := by rfl) (he : starEach [.Name y p2] X.env = (false, eval (.Name y p2) X.env) :: starEach [] X.env := by rfl) (hpl : (backTo pos (starEach [] X.env)).any (·.1) = false := by rfl) :
   JE X Ed E (.Call (.Name "sorted" p) [.Name y p2] [] pos) (tCB (λ xs H Q => ∃ (a : Addr) (kvs : List (Key × V)) (ks : List Str), xs = [.ref a] /\ Rd H a (.dK kvs) /\ kvs.map (·.1) = ks.map Sum.inr /\ ks.length < 1000 /\
     ∀ ys p, ys.Perm ks -> sortedS ys = true -> H p = none -> Q (.ref p) (upd H p (.lst (ys.map V.str)))) (tCons (tVar i) tNil)) (qgf i) := ⟨pe_callB (qiy hc) hg hm (by decide +kernel) (pa_cons (pe_var hN hv hd hcd) pa_nil he) (by decide) (by decide) he hpl, λ B0 B1 A H0 H σ ρ R X Qd h Q q => by
   unfold qgf at h
   split at h
   · rename_i l kvs e
     obtain ⟨e1, e2, vs, hh, rr⟩ := R.dkAt e
     exact ⟨.ref l, e1, qCz R.ex hh rr h λ x v p o hp r k => q x v _ _ (R.grow (Grow.new R.ex hp)) (Grow.new R.ex hp) r k⟩
   · exact h.elim⟩
def qoL (w : World) (da : DE) (ρ : Rho) (Q : D -> Prop) : Prop := da ρ λ x => match x with
 | .dt w' kvs => w' = w /\ qhH kvs Q
 | _ => False
def qnl (da : DE) (ρ : Rho) (Q : D -> Prop) : Prop := da ρ λ x => match x with
 | .dk kvs => qhT kvs Q
 | _ => False
end
theorem bx_w {P : Program} {w : World} {K : PySem.W.Frag} {mg : Str -> Option Value} {base : Heap} {N : List Str} {q : Str} {st : Stmt} {f : Addr} {cdv : Value} {A : Around} {outer : List Env} {s : Shared} {H : Hp} {E : XK} : (bx P w K mg base N q st f cdv A outer s H E).w = w := rfl
theorem qrx {X : Cx} {Ed : DX -> Prop} {E : XK} {e : Expr} {te te' : TE} {de de' : DE} (h : JE X Ed E e te' de') (q : te' = te) (q2 : de' = de) : JE X Ed E e te de := q ▸ q2 ▸ h
theorem qos {X : Cx} {Ed : DX -> Prop} {E : XK} {e : List Expr} {te te' : TT} {de de' : DT} (h : JTs X Ed E e te' de') (q : te' = te) (q2 : de' = de) : JTs X Ed E e te de := q ▸ q2 ▸ h
theorem qaM {α : Type} {g : DG} {tt : DT} {te : DE} {ρ : Rho} {Q : D -> Prop} (e : α -> D) (f : α -> Option D) : ∀ (xs : List α) (acc : List D),
   (∀ x ∈ xs, ∀ (K1 : D -> Prop) (K0 : Prop), (∀ y, f x = some y -> K1 y) -> (f x = none -> K0) -> g (e x) ρ λ ρ' => tt ρ' λ b => if b = true then te ρ' K1 else K0) -> acc.length + xs.length <= 100000 -> Q (.lst (acc ++ xs.filterMap f)) -> qaG g tt te (xs.map e) acc ρ Q
 | [], acc, _, _, q => by
   rw [List.filterMap_nil, List.append_nil] at q
   exact q
 | x :: r, acc, h, hl, q => by
   rw [List.length_cons] at hl
   refine h x List.mem_cons_self (λ y => acc.length < 100000 /\ qaG g tt te (r.map e) (acc ++ [y]) ρ Q) (qaG g tt te (r.map e) acc ρ Q) (λ y hy => ⟨by omega, qaM e f r _ (λ z hz => h z (List.mem_cons_of_mem _ hz)) (by rw [List.length_append, List.length_singleton]; omega) ?_⟩) λ hn => qaM e f r _ (λ z hz => h z (List.mem_cons_of_mem _ hz)) (by omega) ?_
   · rw [List.filterMap_cons_some hy] at q
     rwa [List.append_assoc]
   · rwa [List.filterMap_cons_none hn] at q
theorem qfU {α : Type} {B : List (List Key)} {g : DG} {tt : DT} {te : DE} {ρ : Rho} {Q : List (List Key) -> Prop} (e : α -> D) (f : α -> Option (List Key)) : ∀ (xs : List α) (acc : List (List Key)),
   (∀ x ∈ xs, ∀ (K1 : D -> Prop) (K0 : Prop), (∀ k, f x = some k -> K1 (tupD k)) -> (f x = none -> K0) -> g (e x) ρ λ ρ' => tt ρ' λ b => if b = true then te ρ' K1 else K0) -> (∀ x ∈ xs, ∀ k, f x = some k -> k ∈ B) -> Q (acc ++ xs.filterMap f) -> qbw B g tt te (xs.map e) acc ρ Q
 | [], acc, _, _, q => by
   rw [List.filterMap_nil, List.append_nil] at q
   exact q
 | x :: r, acc, h, hb, q => by
   refine h x List.mem_cons_self (λ y => ∃ k, y = tupD k /\ k ∈ B /\ qbw B g tt te (r.map e) (acc ++ [k]) ρ Q) (qbw B g tt te (r.map e) acc ρ Q) (λ k hk => ⟨k, rfl, hb x List.mem_cons_self k hk, qfU e f r _ (λ z hz => h z (List.mem_cons_of_mem _ hz)) (λ z hz => hb z (List.mem_cons_of_mem _ hz)) ?_⟩)
     λ hn => qfU e f r _ (λ z hz => h z (List.mem_cons_of_mem _ hz)) (λ z hz => hb z (List.mem_cons_of_mem _ hz)) ?_
   · rw [List.filterMap_cons_some hk] at q
     rwa [List.append_assoc]
   · rwa [List.filterMap_cons_none hn] at q
section
variable {X : Cx} {Ed : DX -> Prop} {E : XK} {K : PySem.W.Frag} {pos p : Pos} {e a b : Expr} {es : List Expr} {te ta tb : TE} {de da db : DE} {tal : TA} {dal : DA} {ts : List TE} {dl : List DE} {k : Nat}
def dFmt (da : DE) (ρ : Rho) (Q : D -> Prop) : Prop := da ρ λ x => match x with
 | .str y => y.length <= sizeLine /\ Q (.str y)
 | .int i => i.natAbs.log2 < 1920 /\ Q (.str (toString i))
 | _ => False
theorem qbh (h : JE X Ed E e te de) : JE X Ed E (.FormattedValue e (-1) none pos) (tFmt te) (dFmt de) := ⟨pe_fmt h.pe, λ B0 B1 A H0 H σ ρ R X Qd hd Q q => h.sim B0 B1 A H0 H σ ρ R X _ hd _ λ x v H1 H2 R1 g1 r1 k => by
 split at k
 · rename_i y
   exact .inl ⟨y, r1, k.1, q (.str y) _ H1 H2 R1 g1 rfl k.2⟩
 · rename_i i
   exact .inr ⟨i, r1, k.1, q (.str (toString i)) _ H1 H2 R1 g1 rfl k.2⟩
 · exact k.elim⟩
def dJs : List DE -> Str -> Rho -> (Str -> Prop) -> Prop
 | [], acc, _, Q => Q acc
 | d :: ds, acc, ρ, Q => d ρ λ x => match x with
   | .str y => (acc ++ y).length <= sizeLine /\ dJs ds (acc ++ y) ρ Q
   | _ => False
inductive JJ (X : Cx) (Ed : DX -> Prop) (E : XK) : List Expr -> List TE -> List DE -> Prop where
 | nil : JJ X Ed E [] [] []
 | cons {e : Expr} {t : TE} {d : DE} {es : List Expr} {ts : List TE} {ds : List DE} (h : JE X Ed E e t d) (r : JJ X Ed E es ts ds) : JJ X Ed E (e :: es) (t :: ts) (d :: ds)
theorem JJ.pj (h : JJ X Ed E es ts dl) : PJ X es ts := by
 induction h with
 | nil => exact .nil
 | cons h _ ih => exact .cons h.pe ih
theorem JJ.sim (h : JJ X Ed E es ts dl) : ∀ (acc : Str) B0 B1 A H0 H σ ρ, RepS X.K B0 B1 A H0 H σ ρ -> ExRel X.K B0 B1 Ed E -> ∀ Qd : Str -> Prop, dJs dl acc ρ Qd -> ∀ Q : Str -> Hp -> Prop, (∀ y H0' H', RepS X.K B0 B1 A H0' H' σ ρ -> Grow H0 H H0' H' -> Qd y -> Q y H') -> tJs ts acc σ H Q := by
 induction h with
 | nil => exact λ acc B0 B1 A H0 H σ ρ R x Qd hd Q q => q acc H0 H R (.refl R.ex) hd
 | cons h r ih =>
   intro acc B0 B1 A H0 H σ ρ R x Qd hd Q q
   refine h.sim B0 B1 A H0 H σ ρ R x _ hd _ λ z v H1 H2 R1 g1 r1 k => ?_
   split at k
   · rename_i y
     exact ⟨y, r1, k.1, ih _ B0 B1 A H1 H2 σ ρ R1 x _ k.2 _ λ y H3 H4 R2 g2 k2 => q y H3 H4 R2 (g1.trans g2) k2⟩
   · exact k.elim
def qju (dl : List DE) (ρ : Rho) (Q : D -> Prop) : Prop := dJs dl Str.empty ρ λ y => Q (.str y)
theorem qd3 {v1 v2 : Expr} {rest : List Expr} (h : JJ X Ed E (v1 :: v2 :: rest) ts dl) : JE X Ed E (.JoinedStr (v1 :: v2 :: rest) pos) (λ σ H Q => tJs ts Str.empty σ H λ out H1 => Q (.str out) H1) (qju dl) :=
 ⟨pe_joined h.pj, λ B0 B1 A H0 H σ ρ R X Qd hd Q q => h.sim Str.empty B0 B1 A H0 H σ ρ R X _ hd _ λ y H1 H2 R1 g1 k => q (.str y) _ H1 H2 R1 g1 rfl k⟩
theorem qyb (h : JE X Ed E e te de) : JE X Ed E (.JoinedStr [e] pos) te de := ⟨pe_joined1 h.pe, h.sim⟩
def qeN (ds : List D) (Q : D -> Prop) : Prop := match ds with
 | [.int i, .int j] => Q (.int (if j > i then j else i))
 | _ => False
theorem qwK : qbn K (λ xs H Q => ∃ i j, xs = [V.int i, V.int j] /\ Q (.int (if j > i then j else i)) H) qeN := by
 intro H0 H xs ds sm r Qd h Q q
 unfold qeN at h
 split at h
 · rename_i i j
   obtain ⟨v, r1, e1, h1, u, r2, e2, h2, e3⟩ := r
   subst e1 e2 e3
   cases (show v = _ from h1)
   cases (show u = _ from h2)
   exact ⟨i, j, rfl, q (.int _) _ H0 H (.refl sm) rfl h⟩
 · exact h.elim
theorem qkp (hc : X.calm = true) (hm : X.mg "max" = none) (ha : JA X Ed E (e :: es) tal dal) (hg : Gl X "max" := by rfl) (he : starEach (e :: es) X.env = (false, eval e X.env) :: starEach es X.env := by rfl) (hpl : (backTo pos (starEach es X.env)).any (·.1) = false := by rfl) :
   JE X Ed E (.Call (.Name "max" p) (e :: es) [] pos) (tCB (λ xs H Q => ∃ i j, xs = [V.int i, V.int j] /\ Q (.int (if j > i then j else i)) H) tal) (dCB qeN dal) := qcT (call_max2 hc) qwK hm ha (by decide +kernel) hg (by decide) (by decide) he hpl
def qp8 (x y : D) (Q : D -> Prop) : Prop := match x, y with
 | .tup xs, .tup ys => xs.length + ys.length <= 200000 /\ Q (.tup (xs ++ ys))
 | _, _ => False
def qnh (K : PySem.W.Frag) : R2 := λ x y H Q => ∃ a b xs ys, x = .ref a /\ y = .ref b /\ SqL K H a xs /\ SqL K H b ys /\ xs.length + ys.length <= sizeLine /\ ∀ p, H p = none -> Q (.ref p) (upd H p (.lst (xs ++ ys)))
theorem qyk : OpR X (binaryOp .Add) (qnh X.K) := by
 intro pins s σ H x y v u Q I rx ry h
 obtain ⟨a, b, xs, ys, rfl, rfl, ha, hb, hz, q⟩ := h
 cases rx
 cases ry
 obtain ⟨its, r, ⟨⟨c1, d1, t1, s1⟩, n, ho, hc, hd, ht⟩, _⟩ := I.list ha
 obtain ⟨its2, r2, ⟨⟨c2, d2, t2, s2⟩, n2, ho2, hc2, hd2, ht2⟩, _⟩ := I.list hb
 simp only at hc hd ht hc2 hd2 ht2
 subst hc hd ht hc2 hd2 ht2
 have z : its.toArray.size + its2.toArray.size <= sizeLine := by
   rw [List.size_toArray, List.size_toArray, <- r.length, <- r2.length]
   exact hz
 refine concat_meets ⟨_, ho, rfl⟩ ⟨_, ho2, rfl⟩ noFill_list_add seq_list_add PySem.F.slot_list_add PySem.F.entry_list_add (PySem.F.args_list_add_2 _ _) (list_addW a b its.toArray its2.toArray n n2 none none s1 s2 z) ⟨ho, ho2, ?_⟩
 have ea : its.toArray ++ its2.toArray = (its ++ its2).toArray := by simp
 rw [ea]
 exact ⟨.ref _, _, I.lnew (t' := s.toks) (r.append r2) (by rw [List.length_append]; omega), rfl, q _ I.fresh⟩
def qfd (x y : D) (Q : D -> Prop) : Prop := match x, y with
 | .lst xs, .lst ys => xs.length + ys.length <= 200000 /\ Q (.lst (xs ++ ys))
 | _, _ => False
theorem qf4 (ha : JE X Ed E a ta da) (hb : JE X Ed E b tb db) : JE X Ed E (.BinOp a .Add b pos) (tOp (qnh X.K) ta tb) (dOp qfd da db) := e_op qyk (by
 intro H0 H x y dx dy sm rx ry Qd h Q q
 unfold qfd at h
 split at h
 · rename_i xs ys
   obtain ⟨l, vs, e1, hs, rr⟩ := rx
   obtain ⟨m, us, e2, hs2, rr2⟩ := ry
   subst e1 e2
   refine ⟨l, m, vs, us, rfl, rfl, sm.seq hs, sm.seq hs2, by rw [rr.length, rr2.length]; exact Nat.le_trans h.1 (by decide), λ p hp => ?_⟩
   have g := Grow.new (o := .lst (vs ++ us)) sm hp
   exact q (.lst (xs ++ ys)) (.ref p) _ _ g ⟨p, _, rfl, .inl (.inl upd_same), Reps.mono g.g0 _ _ (rr.append rr2)⟩ h.2
 · exact h.elim) ha hb
end
theorem qfZ {P : Program} {w : World} {K : PySem.W.Frag} {mg : Str -> Option Value} {base : Heap} {k : Nat} {f : Addr} {fd : FuncData} {ps : List Str} {wp : Wp} (h : ∀ ds Q Ed, ¬ wp ds Q Ed) : FnOk P w K mg base (L2N.CX P w) k f fd ps (SpW K wp) :=
 ⟨λ vs H Q E z => by
   obtain ⟨_, ds, Qd, Ed, _, _, z, _⟩ := z
   exact (h ds Qd Ed z).elim, λ A outer s H args us vs Q E hr he hb hv z => by
   obtain ⟨_, ds, Qd, Ed, _, _, z, _⟩ := z
   exact (h ds Qd Ed z).elim⟩
theorem qi2 {α : Type} (f : α -> Int) : ∀ l : List α, intL (l.filterMap λ p => some (D.int (f p))) = some (l.map f)
 | [] => rfl
 | x :: r => by
   have e : (x :: r).filterMap (λ p => some (D.int (f p))) = D.int (f x) :: r.filterMap (λ p => some (D.int (f p))) := rfl
   rw [e]
   show (intL _).map _ = _
   rw [qi2 f r]
   rfl
end DL
namespace DL
variable [TbC]
theorem qa9 {α β : Type} (f : α -> β) : ∀ l : List α, (l.filterMap λ p => some (f p)) = l.map f
 | [] => rfl
 | x :: r => by
   rw [List.map_cons, <- qa9 f r]
   rfl
end DL
namespace DL
variable [TbC]
open PySem PySem.Spec PyProof.Rows L2
theorem qpI {X : Cx} {Ed : DX -> Prop} {E : XK} {pos : Pos} {K' : PySem.W.Frag} {mg' : Str -> Option Value} {x : Str} {d : D} (h : CD K' mg' x d) (eK : X.K = K' := by rfl) (em : X.mg = mg' := by rfl) (hg : Gl X x := by rfl) (hd : (x == ("__debug__" : Str)) = false := by decide) :
   JE X Ed E (.Name x pos) (tC (Classical.choose h.ex)) (dC d) := by
 subst eK em
 exact e_cD h hg hd
theorem qgD {X : Cx} {k : Nat} (hr : Room k X.A) : X.A.units + 64 < cLine := by
 have := qn8 hr
 omega
def qfo (d : Int) : List Int -> Int
 | [] => d
 | y :: ys => PySem.W.maxOf y ys
def qls (K : PySem.W.Frag) : List V -> List V -> Hp -> VK -> Prop := λ xs zs H Q => ∃ (l : Addr) (ns : List Int) (d : Int), xs = [.ref l] /\ zs = [.int d] /\ SqL K H l (ns.map V.int) /\ Q (.int (qfo d ns)) H
theorem qqH : ∀ {vs : List Value} {ns : List Int} {i : Nat} {v : Value}, IntsAre vs ns -> vs[i]? = some v -> ∃ n t, v = Value.int n t
 | _, _, 0, v, .cons n t _, h => by
   cases h
   exact ⟨n, t, rfl⟩
 | _, _, i + 1, v, .cons n t r, h => qqH r (by simpa using h)
section
variable {X : Cx} {Ed : DX -> Prop} {E : XK} {pos p : Pos} {e : Expr} {es : List Expr} {tal tk : TA} {dal dk : DA} {k : Nat} {kws : List Keyword}
theorem qu3 (hc : X.calm = true) (hu : X.A.units + 64 < cLine) : CallRK X (.builtin "max") [Str.ofString "default"] (qls X.K) := by
 intro pins s σ H xs zs us ws Q I r rz h
 obtain ⟨l, ns, d, rfl, rfl, hl, q⟩ := h
 rw [Vals.ref1 r]
 obtain ⟨u, rfl, ru⟩ := vals1 rz
 obtain ⟨t, rfl⟩ := (show ∃ t, u = Value.int d t from ru)
 obtain ⟨its, rv, pl, _⟩ := I.list hl
 have hI := Vals.ints rv
 refine PySem.W.max_list_datum_default (xs := ns) (I.ok.hd hc) pl.isList (by simpa using PySem.W.HoldAll.of_ints hI) (by show X.A.units + 1 + 0 < cLine; omega) (λ e0 h' tk kp => ?_) λ y ys i v h' tk e0 hi ho kp => ?_
 · subst e0
   exact ⟨.int d, H, I.kept kp, ⟨t, rfl⟩, q⟩
 · subst e0
   obtain ⟨n, t2, rfl⟩ := qqH hI (by simpa using hi)
   have en : n = PySem.W.maxOf y ys := by
     obtain ⟨b, hb⟩ := ho
     have hb' : Reads h' (.int n t2) (.int (PySem.W.maxOf y ys)) b := hb
     generalize PySem.W.maxOf y ys = m at hb'
     cases hb'
     rfl
   subst en
   exact ⟨.int (PySem.W.maxOf y ys), H, I.kept kp, ⟨t2, rfl⟩, q⟩
def qiG (da dk : DA) (ρ : Rho) (Q : D -> Prop) : Prop := da ρ λ xs => dk ρ λ zs => match xs, zs with
 | [.lst ds], [.int d] => onS (intL ds) λ ns => Q (.int (qfo d ns))
 | _, _ => False
theorem qsK (hr : Room k X.A) (hc : X.calm = true) (hm : X.mg "max" = none) (ha : JA X Ed E (e :: es) tal dal) (hk : JK X Ed E kws tk dk) (hg : Gl X "max" := by rfl)
   (he : backTo pos (starEach (e :: es) X.env) = (false, eval e X.env) :: backTo pos (starEach es X.env) := by rfl) (hpl : (backTo pos (starEach (e :: es) X.env)).any (·.1) = false := by rfl)
   (hall : (backToKw pos (keywordEach kws X.env)).all (·.1.isSome) = true := by rfl) (hnone : (backToKw pos (keywordEach kws X.env)).any (·.1.isNone) = false := by rfl) (hks : (backToKw pos (keywordEach kws X.env)).filterMap (·.1) = [Str.ofString "default"] := by rfl) :
   JE X Ed E (.Call (.Name "max" p) (e :: es) kws pos) (tCKw (qls X.K) tal tk) (qiG dal dk) :=
 ⟨pe_callBK (qu3 hc (qgD hr)) hg hm (by decide +kernel) ha.pe hk.pe (by decide) (by decide) he hpl hall hnone hks, λ B0 B1 A H0 H σ ρ R X Qd h Q q => ha.sim B0 B1 A H0 H σ ρ R X _ h _ λ xs vs H1 H2 R1 g1 r1 k => hk.sim B0 B1 A H1 H2 σ ρ R1 X _ k _ λ zs us H3 H4 R2 g2 r2 k2 => by
   split at k2
   · rename_i ds d
     obtain ⟨ns, hn, k2⟩ := qaB k2
     obtain ⟨v, rr, e1, h1, e2⟩ := Reps.mono g2.g0 _ _ r1
     obtain ⟨u, rr2, e3, h2, e4⟩ := r2
     subst e1 e2 e3 e4
     cases (show u = _ from h2)
     obtain ⟨l, ws, e5, hs, rw'⟩ := h1
     subst e5
     have ei : ws = ns.map V.int := qjo rw' hn
     subst ei
     exact ⟨l, ns, d, rfl, rfl, R2.ex.seq hs, q (.int (qfo d ns)) _ H3 H4 R2 (g1.trans g2) rfl k2⟩
   · exact k2.elim⟩
end
section
variable {X : Cx} {Ed : DX -> Prop} {E : XK} {K : PySem.W.Frag} {pos : Pos} {c : Expr} {body : List Stmt} {tt : TT} {dt : DT} {tb : TS} {db : DS}
def qkG (dt : DT) (db : DS) (d : qao) (ρ : Rho) : Prop := ∃ W : Nat -> Rho -> Prop, (∃ m, W m ρ) /\ ∀ m ρ, W m ρ -> dt ρ λ b => if b = true then ∃ N : Rho -> Prop, (∀ ρ', N ρ' -> ∃ m', m' < m /\ W m' ρ') /\ db { d with nx := N, ct := N, bk := d.nx } ρ else d.nx ρ
theorem qAh (ht : SimT K Ed E tt dt) (hb : SimS K Ed E tb db) : SimS K Ed E (tWhile tt tb) (qkG dt db) := λ B0 B1 A H0 H σ ρ R X d D r ⟨W, ⟨m0, w0⟩, turn⟩ =>
 ⟨λ m σ' H' => ∃ A' H0' ρ', RepS K B0 B1 A' H0' H' σ' ρ' /\ W m ρ', ⟨m0, A, H0, ρ, R, w0⟩, λ m σ' H' ⟨A', H0', ρ', R', w'⟩ => ht B0 B1 A' H0' H' σ' ρ' R' X _ (turn m ρ' w') _ λ b H1 H2 R1 g1 k => by
   cases b with
   | false => exact r.nx _ _ _ _ _ R1 k
   | true =>
     obtain ⟨N, hN, k⟩ := k
     refine ⟨λ σ2 H3 => ∃ A2 H02 ρ2, RepS K B0 B1 A2 H02 H3 σ2 ρ2 /\ N ρ2, λ σ2 H3 ⟨A2, H02, ρ2, R2, n2⟩ => ?_, hb B0 B1 A' H1 H2 σ' ρ' R1 X { d with nx := N, ct := N, bk := d.nx } _ ⟨λ A3 H03 H3 σ3 ρ3 R3 k3 => ⟨A3, H03, ρ3, R3, k3⟩, λ A3 H03 H3 σ3 ρ3 z w R3 rz k3 => r.rt A3 H03 H3 σ3 ρ3 z w R3 rz k3, λ A3 H03 H3 σ3 ρ3 R3 k3 => r.nx A3 H03 H3 σ3 ρ3 R3 k3, λ A3 H03 H3 σ3 ρ3 R3 k3 => ⟨A3, H03, ρ3, R3, k3⟩⟩ k⟩
     obtain ⟨m', lt, w2⟩ := hN ρ2 n2
     exact ⟨m', lt, A2, H02, ρ2, R2, w2⟩⟩
theorem st_while (hp : PassesOwn (model X.prog X.w) X.A X.env X.xe) (ht : JT X Ed E c tt dt) (hb : JB X Ed E body tb db) : JS X Ed E (.While c body [] pos) (tWhile tt tb) (qkG dt db) := ⟨ps_while hp ht.pe hb.pe, qAh ht.sim hb.sim⟩
end
section
variable {X : Cx} {Ed : DX -> Prop} {E : XK} {K : PySem.W.Frag} {pos : Pos} {a b : Expr} {ta tb : TE} {da db : DE}
def qe0 (_ j : Int) : Prop := j ≠ 0 /\ j.natAbs.log2 < 9000
theorem qxL : OpR X (binaryOp .FloorDiv) (rI qe0 λ i j => .int (i.fdiv j)) := opI λ i j _ _ _ _ _ hc q => floordiv_int hc.1 q (.inl (PyProof.noPylong_of_log2 hc.2))
abbrev qya := dI2 qe0 λ i j => .int (i.fdiv j)
theorem qq7 (ha : JE X Ed E a ta da) (hb : JE X Ed E b tb db) : JE X Ed E (.BinOp a .FloorDiv b pos) (tOp (rI qe0 λ i j => .int (i.fdiv j)) ta tb) (dOp qya da db) := e_op qxL (s_I λ _ _ _ => rfl) ha hb
theorem qgp {c : DT} {t u : DS} {d : qao} {ρ : Rho} (hc : ∀ Q : Bool -> Prop, Q true -> c ρ Q) (h : t d ρ) : dIfS c t u d ρ := hc _ (if_y rfl h)
theorem qfv {c : DT} {t u : DS} {d : qao} {ρ : Rho} (hc : ∀ Q : Bool -> Prop, Q false -> c ρ Q) (h : u d ρ) : dIfS c t u d ρ := hc _ (if_n (by decide) h)
end
section
variable {X : Cx} {Ed : DX -> Prop} {E : XK} {K : PySem.W.Frag} {pos p : Pos} {a b c e : Expr} {es : List Expr} {ta tb tc te : TE} {da db dc de : DE} {k : Nat} {C : Addr} {wp : Wp} {tal : TA} {dal : DA}
theorem qCw (ha : JE X Ed E a ta da) (hb : JE X Ed E b tb db) (hc : JE X Ed E c tc dc) (hm : lastMarks [.LtE, .LtE] [b, c] = false := by with_unfolding_all rfl) : JT X Ed E (.Compare a [.LtE, .LtE] [b, c] pos) (tB (tChain (rI0 λ i j => .bl (decide (i <= j))) (rI0 λ i j => .bl (decide (i <= j))) ta tb tc)) (dB (qcp (dI0 λ i j => .bl (decide (i <= j))) (dI0 λ i j => .bl (decide (i <= j))) da db dc)) :=
 qzr ha hb hc (pt_chain op_le op_le ha.pe hb.pe hc.pe hm)
def dSlT (x : D) (lo hi : Option Int) (Q : D -> Prop) : Prop := match x with
 | .tup xs => ¬ (HT.sIx xs.length 0 lo = 0 /\ HT.sIx xs.length xs.length hi = xs.length) /\ Q (.tup (cutD xs lo hi))
 | _ => False
def qqa (C : Addr) (wp : Wp) (Ed : DX -> Prop) (da : DE) (ρ : Rho) (Q : D -> Prop) : Prop := da ρ λ x => match x with
 | .ins C1 f1 => C1 = C /\ wp [.ins C1 f1] Q Ed
 | _ => False
def qpq (C : Addr) (wp : Wp) (Ed : DX -> Prop) (da db : DE) (ρ : Rho) (Q : D -> Prop) : Prop := da ρ λ x => db ρ λ y => match x, y with
 | .ins C1 f1, .int i => C1 = C /\ wp [.ins C1 f1, .int i] Q Ed
 | _, _ => False
def qo0 (C : Addr) (wp : Wp) (Ed : DX -> Prop) (da db : DE) (ρ : Rho) (Q : D -> Prop) : Prop := da ρ λ x => db ρ λ y => match x, y with
 | .int i, .ins C1 f1 => C1 = C /\ wp [.ins C1 f1, .int i] Q Ed
 | _, _ => False
def qg8 (C : Addr) (sp : Sp) (E : XK) : List V -> Hp -> VK -> Prop := λ xs H Q => ∃ a dx vs, xs = [V.ref a] /\ H a = some (.ins C dx vs) /\ sp [.ref a] H (λ z H' => ∃ i, z = .str i /\ Q z H') E
theorem qu2 {pins : List (Addr × Obj)} {σ : L2.St} {Q : VK} {r : Value} {s2 : Shared} (z : EP X pins σ (λ z H' => ∃ i, z = .str i /\ Q z H') r s2) : PySem.W.StrBack (λ r s2 => EP X pins σ Q r s2) r s2 := by
 obtain ⟨z', H', I', rz, i, ei, qz⟩ := z
 subst ei
 obtain ⟨t, e⟩ := (show ∃ t, r = Value.str i t from rz)
 cases e
 exact ⟨.str i, H', I', ⟨t, rfl⟩, qz⟩
theorem qCv {g : Addr} {sp : Sp} (hs : PySem.W.findIn X.K (.ref C) "__str__" = some (some (.ref g))) (hf : PySem.W.isFn X.K (.ref g) = true) (F : FnR X.prog X.w X.K X.mg X.base (L2N.CX X.prog X.w) k g sp) (hr : Room (k + 2) X.A) (hx : Passes (L2N.CX X.prog X.w) X E) : CallR X (.type "str") (qg8 C sp E) := by
 intro pins s σ H xs us Q I r h
 obtain ⟨a, dx, vs, rfl, hl, q⟩ := h
 obtain ⟨u, rfl, ru⟩ := r.one
 cases (show u = Value.ref a from ru)
 obtain ⟨_, J0, _⟩ := ins_get I.hok hl
 obtain ⟨_, J1, _⟩ := J0.look
 have hr2 : Room k X.A.in1.in1 := (show Room (k + 1) X.A.in1 from Room.in1 hr).in1
 exact PySem.W.kso_call (by have := hr2.un; omega) I.kIn J1 hs hf (wpAny_mono (wpAny_call (SlX.run_at (us := [.ref a]) (ws := [.ref a]) F hr2 I.env0.in1.in1 hx I (.cons rfl .nil) q)) (λ w s' z => qu2 z) λ _ _ x => x)
def qfF (C : Addr) (wp : Wp) (Ed : DX -> Prop) (ds : List D) (Q : D -> Prop) : Prop := match ds with
 | [.ins C1 fs] => C1 = C /\ wp [.ins C1 fs] (λ z => ∃ i, z = .str i /\ Q z) Ed
 | _ => False
def qee (C : Addr) (wp : Wp) (Ed : DX -> Prop) (da : DA) (ρ : Rho) (Q : D -> Prop) : Prop := da ρ λ ds => qfF C wp Ed ds Q
theorem qB7 (ha : SimA K Ed E tal dal) : SimE K Ed E (tCB (qg8 C (SpW K wp) E) tal) (qee C wp Ed dal) := λ B0 B1 A H0 H σ ρ R X Qd h Q q =>
 ha B0 B1 A H0 H σ ρ R X _ h _ λ xs vs H1 H2 R1 g1 r1 k1 => by
   unfold qfF at k1
   split at k1
   · rename_i C1 fs
     obtain ⟨rfl, k1⟩ := k1
     obtain ⟨v, r, rfl, r1', e⟩ := r1
     cases (show r = [] from e)
     have rr : Reps K H1 [.ins C1 fs] [v] := ⟨v, [], rfl, r1', rfl⟩
     obtain ⟨l, dx, fvs, rfl, hl, rf⟩ := r1'
     refine ⟨l, dx, fvs, rfl, R1.ex _ _ hl, qdQ R1 X rr k1 λ x v H5 H6 R3 g3 r3 k3 => ?_⟩
     obtain ⟨i, rfl, k3⟩ := k3
     exact ⟨i, r3, q _ _ H5 H6 R3 (g1.trans g3) r3 k3⟩
   · exact k1.elim
structure Strr (P : Program) (w : World) (K : PySem.W.Frag) (mg : Str -> Option Value) (base : Heap) (C : Addr) (nm : Str) (k : Nat) (wp : Wp) : Prop where
 ex : ∃ (f : Addr) (fd : FuncData) (ps : List Str), PySem.W.findIn K (.ref C) nm = some (some (.ref f)) /\ PySem.W.isFn K (.ref f) = true /\ FnOk P w K mg base (L2N.CX P w) k f fd ps (SpW K wp) /\ Binds K fd ps []
theorem qy1 {sp : Sp} : (λ vs H Q E => sp (vs ++ []) H Q E) = sp := by
 funext vs H Q E
 rw [List.append_nil]
theorem qiD (M : Strr X.prog X.w X.K X.mg X.base C "__str__" k wp) (hm : X.mg "str" = none) (hr : Room (k + 2) X.A) (hx : Passes (L2N.CX X.prog X.w) X E) (ha : JA X Ed E (e :: es) tal dal) (hg : Gl X "str" := by rfl) (he : starEach (e :: es) X.env = (false, eval e X.env) :: starEach es X.env := by rfl) (hpl : (backTo pos (starEach es X.env)).any (·.1) = false := by rfl) :
   JE X Ed E (.Call (.Name "str" p) (e :: es) [] pos) (tCB (qg8 C (SpW X.K wp) E) tal) (qee C wp Ed dal) := by
 obtain ⟨f, fd, ps, h1, h2, h3, h4⟩ := M.ex
 have F := qne h3 h4 .nil
 rw [qy1] at F
 exact ⟨pe_callTy (qCv h1 h2 F hr hx) hg hm (by decide +kernel) ha.pe (by decide) (by decide) he hpl, qB7 ha.sim⟩
end
section
variable {X : Cx} {Ed : DX -> Prop} {E : XK} {K : PySem.W.Frag} {pos p : Pos} {a b c e : Expr} {ta tb tc te : TE} {da db dc de : DE} {k : Nat} {x : Str}
def dInO (i : Nat) (de : DE) (ρ : Rho) (Q : D -> Prop) : Prop := de ρ λ x => match lk i ρ with
 | some (.lst _ ys) => x.isData 100 = true /\ qah 100 ys = true /\ Q (.bl (qbA x ys))
 | _ => False
def qqx (i : Nat) (de : DE) (ρ : Rho) (Q : D -> Prop) : Prop := de ρ λ x => match lk i ρ with
 | some (.lst _ ys) => x.isData 100 = true /\ qah 100 ys = true /\ Q (.bl (!qbA x ys))
 | _ => False
end
section
variable {X : Cx} {Ed : DX -> Prop} {E : XK} {K : PySem.W.Frag} {pos apos p : Pos} {a b c e o : Expr} {es : List Expr} {ta tb tc te to : TE} {da db dc de dob : DE} {tal : TA} {dal : DA}
def qpV (ds : List D) (Q : D -> Prop) : Prop := match ds with
 | [.int i] => i.natAbs.log2 < 1920 /\ Q (.str (toString i))
 | _ => False
theorem qgV {H : Hp} : ∀ {ys : List Str} {vs : List V}, Reps K H (ys.map D.str) vs -> vs = ys.map V.str
 | [], _, h => h
 | y :: ys, _, ⟨v, r, e, h1, h2⟩ => by
   subst e
   cases (show v = _ from h1)
   rw [qgV h2]
   rfl
def strsOf : List D -> Option (List Str)
 | [] => some []
 | .str x :: r => (strsOf r).map (x :: ·)
 | _ :: _ => none
theorem qn0 : ∀ ys : List Str, strsOf (ys.map D.str) = some ys
 | [] => rfl
 | y :: ys => by
   show (strsOf (ys.map D.str)).map (y :: ·) = _
   rw [qn0 ys]
   rfl
theorem qhz : ∀ {xs : List D} {ys : List Str}, strsOf xs = some ys -> xs = ys.map D.str
 | [], ys, h => by cases h; rfl
 | .str x :: r, ys, h => by
   obtain ⟨zs, h1, h2⟩ := Option.map_eq_some_iff.mp (show (strsOf r).map (x :: ·) = some ys from h)
   subst h2
   rw [qhz h1]
   rfl
def qfy (a : Str) (xs : List D) (Q : D -> Prop) : Prop := onS (strsOf xs) λ ys => (ys.map (·.length)).sum + ys.length * a.length <= 16777216 /\ Q (.str (Txt.join a ys))
def qgK (da db : DE) (ρ : Rho) (Q : D -> Prop) : Prop := da ρ λ x => match x with
 | .str a => db ρ λ y => match y with
   | .lst xs => qfy a xs Q
   | .tup xs => qfy a xs Q
   | _ => False
 | _ => False
theorem qwo (ho : JE X Ed E o ta da) (he : JE X Ed E e tb db) (hs : starEach [e] X.env = [(false, eval e X.env)] := by rfl) (hbase : attributeBase o "join" X.env (eval o X.env) = eval o X.env := by rfl) (hline : (apos.endLine == pos.line) = true := by rfl) :
   JE X Ed E (.Call (.Attribute o "join" apos) [e] [] pos) (tM1 (λ x xs H Q => ∃ a p, ∃ ys : List Str, x = .str a /\ xs = [.ref p] /\ (SqL X.K H p (ys.map V.str) ∨ SqT X.K H p (ys.map V.str)) /\
     (ys.map (·.length)).sum + ys.length * a.length <= 16777216 /\ Q (.str (Txt.join a ys)) H) ta tb) (qgK da db) :=
 ⟨pe_join ho.pe he.pe hs hbase hline, λ B0 B1 A H0 H σ ρ R X Qd h Q q => ho.sim B0 B1 A H0 H σ ρ R X _ h _ λ x v H1 H2 R1 g1 r1 k1 => by
   split at k1
   · rename_i a
     cases (show v = _ from r1)
     refine ⟨⟨a, rfl⟩, he.sim B0 B1 A H1 H2 σ ρ R1 X _ k1 _ λ y u H3 H4 R2 g2 r2 k2 => ?_⟩
     split at k2
     · rename_i xs
       obtain ⟨ys, hy, k3, k4⟩ := qaB k2
       cases qhz hy
       obtain ⟨l, vs, rfl, hs, rr⟩ := r2
       cases qgV rr
       exact ⟨a, l, ys, rfl, rfl, .inl (R2.ex.seq hs), k3, q (.str _) _ H3 H4 R2 (g1.trans g2) rfl k4⟩
     · rename_i xs
       obtain ⟨ys, hy, k3, k4⟩ := qaB k2
       cases qhz hy
       obtain ⟨l, vs, rfl, hs, rr⟩ := r2
       cases qgV rr
       exact ⟨a, l, ys, rfl, rfl, .inr (qaC R2.ex hs), k3, q (.str _) _ H3 H4 R2 (g1.trans g2) rfl k4⟩
     · exact k2.elim
   · exact k1.elim⟩
def qlN (da : DE) (ρ : Rho) (Q : D -> Prop) : Prop := da ρ λ x => match x with
 | .str a => a.length <= sizeLine /\ Q (.str (Txt.rstrip a))
 | _ => False
end
end DL
namespace DS
open PySem PySem.Spec PyProof.Rows L2
open PySem.W PyProof.Rows.G PpSet
section
variable {P : Program} {w : World} {A : Around} {E : Value -> Shared -> Prop} {s : Shared}
end
end DS
namespace DL
variable [TbC]
open PySem PySem.Spec PyProof.Rows L2
section
variable {X : Cx} {Ed : DX -> Prop} {E : XK} {K : PySem.W.Frag} {P : Program} {w : World} {pos p p2 p3 : Pos} {e : Expr} {te : TE} {de : DE}
def qpE (de : DE) (ρ : Rho) (Q : D -> Prop) : Prop := de ρ λ x => ∃ (B : List (List Key)) (sh : Nat -> Bool), x = .lst (B.map tupD) /\ B.length < 306 /\ (∀ k ∈ B, DS.Shaped sh k) /\ ∀ ys, qbP B ys -> Q (.lst (ys.map tupD))
end
def TsR (K : PySem.W.Frag) (H : Hp) : List Addr -> List (NestedKey × Addr × V) -> Prop
 | [], [] => True
 | t :: ts, p :: ps => SqT K H t [.ref p.2.1, p.2.2] /\ TsR K H ts ps
 | _, _ => False
section
variable {X : Cx} {Ed : DX -> Prop} {E : XK} {K : PySem.W.Frag} {w : World} {pos p : Pos} {e : Expr} {te : TE} {de : DE} {k : Nat}
def qAO (kvs qs : List (NestedKey × D)) : List (NestedKey × D) := qs.foldl (λ a p => stoD a p.1 p.2) kvs
def qrA : List D -> Option (List (NestedKey × D))
 | [] => some []
 | .tup [x, y] :: r => match tkOf x, qrA r with
   | some k, some ps => some ((k, y) :: ps)
   | _, _ => none
 | _ :: _ => none
def qmA (w : World) (de : DE) (ρ : Rho) (Q : D -> Prop) : Prop := de ρ λ x => match x with
 | .lst xs => ∃ qs, qrA xs = some qs /\ qs.length <= 100000 /\ Q (.dt w (qAO [] qs))
 | _ => False
end
section
variable {X : Cx} {Ed : DX -> Prop} {E : XK} {K : PySem.W.Frag} {pos p : Pos} {e : Expr} {es : List Expr} {tal : TA} {dal : DA} {k : Nat}
def qp2 (ds : List D) (Q : D -> Prop) : Prop := match ds with
 | [.lst ds] => onS (intL ds) λ ns => match ns with
   | n :: ns => Q (.int (PySem.W.maxOf n ns))
   | [] => False
 | _ => False
def qq0 (w : World) (_ : Rho) (Q : D -> Prop) : Prop := Q (.dt w [])
end
structure qCO (K : PySem.W.Frag) (C C2 : Addr) : Prop where
 cl : PySem.W.isClsIn K C = true
 ty : PySem.W.typeIn K (.ref C) = some (.type "type")
 n : PySem.W.subIn K (.type "NoneType") (.ref C) = some false
 i : PySem.W.subIn K (.type "int") (.ref C) = some false
 s : PySem.W.subIn K (.type "str") (.ref C) = some false
 o : PySem.W.subIn K (.ref C2) (.ref C) = some false
 ne : C2 ≠ C
def qnw (C2 : Addr) : D -> Option Value
 | .non => some (.type "NoneType")
 | .int _ => some (.type "int")
 | .str _ => some (.type "str")
 | .ins C' _ => if C' = C2 then some (.ref C2) else none
 | _ => none
section
variable {X : Cx} {Ed : DX -> Prop} {E : XK} {K : PySem.W.Frag} {pos p : Pos} {a b e : Expr} {es : List Expr} {ta tb te : TE} {da db de : DE} {tal : TA} {dal : DA} {k : Nat} {C C2 : Addr} {wp : Wp}
def qAr (C C2 : Addr) (ds : List D) (Q : D -> Prop) : Prop := match ds with
 | [d, .cls C'] => C' = C /\ (∃ u, qnw C2 d = some u) /\ Q (.bl false)
 | _ => False
def qkM (C C2 : Addr) (ds : List D) (Q : D -> Prop) : Prop := qf8 C ds Q ∨ qAr C C2 ds Q
inductive KindV (K : PySem.W.Frag) (H : Hp) : V -> Value -> Prop where
 | non : KindV K H .non (.type "NoneType")
 | int (i : Int) : KindV K H (.int i) (.type "int")
 | str (x : Str) : KindV K H (.str x) (.type "str")
 | ins {l C dx : Addr} {fs : List (Str × V)} (h : H l = some (.ins C dx fs)) : KindV K H (.ref l) (.ref C)
def qlm (C C2 : Addr) (wp : Wp) (Ed : DX -> Prop) (da db : DE) (ρ : Rho) (Q : D -> Prop) : Prop := da ρ λ x => db ρ λ y => match x with
 | .ins C1 f1 => C1 = C /\ (∃ u, qnw C2 y = some u) /\ wp [.ins C1 f1, y] Q Ed
 | _ => False
def qlA (x y : D) (Q : D -> Prop) : Prop := match x, y with
 | .lst xs, .int k => -1000 <= k /\ k <= 1000 /\ xs.length <= 1000 /\ Q (.lst (List.replicate k.toNat xs).flatten)
 | _, _ => False
def qqC (i : Nat) (da db : DE) (d : qao) (ρ : Rho) : Prop := da ρ λ x => db ρ λ y => match x, y with
 | .lst xs, .lst ys => xs.length + ys.length <= 200000 /\ i < ρ.length /\ ∀ q, d.nx (ρ.set i (some (.lst q (xs ++ ys))))
 | _, _ => False
end
end DL
namespace DL
variable [TbC]
open PySem PySem.Spec PyProof.Rows L2 PySem.W PySem.Builtin
section
variable {X : Cx} {Ed : DX -> Prop} {E : XK} {K : PySem.W.Frag} {pos p : Pos} {e : Expr} {es : List Expr} {te : TE} {de : DE} {tal : TA} {dal : DA} {k : Nat} {C : Addr} {wp : Wp}
def qhY (C : Addr) (wp : Wp) (Ed : DX -> Prop) (ds : List D) (Q : D -> Prop) : Prop := match ds with
 | [.ins C1 fs] => C1 = C /\ wp [.ins C1 fs] (λ z => ∃ b, z = .bl b /\ Q z) Ed
 | _ => False
def qo2 (C : Addr) (wp : Wp) (Ed : DX -> Prop) (da : DA) (ρ : Rho) (Q : D -> Prop) : Prop := da ρ λ ds => qhY C wp Ed ds Q
def qnU (ds : List D) (Q : D -> Prop) : Prop := match ds with
 | [.bl b] => Q (.bl b)
 | _ => False
end
end DL
namespace DL
variable [TbC]
open PySem PySem.Spec PyProof.Rows L2
section
variable {K : PySem.W.Frag} {B0 B1 H0 H H' : Hp} {A : Nat -> Option Addr} {σ : L2.St} {ρ : Rho}
def pgV (q : Addr) (xs : List D) (d : D) : D := match d with
 | .cls c => if c = q then .lst xs else d
 | _ => d
def pgD (q : Addr) (xs : List D) : List (Str × D) -> List (Str × D)
 | [] => []
 | (f, d) :: r => (f, pgV q xs d) :: pgD q xs r
end
section
variable {X : Cx} {Ed : DX -> Prop} {E : XK} {K : PySem.W.Frag} {pos p : Pos} {e a b c o e2 tg iter elt : Expr} {te ta tb tc : TE} {de da db dc : DE} {tal : TA} {dal : DA} {es ifs : List Expr} {k : Nat} {x : Str} {tt : TT} {dt : DT} {st : Stmt} {sts : List Stmt} {ts us : TS} {ds dus : DS}
def qmJ (i : Nat) (ds : DS) (d : qao) (ρ : Rho) : Prop := match lk i ρ with
 | some (.pg _ C fs q xs) => ds d (ρ.set i (some (.d (.ins C (pgD q xs fs)))))
 | _ => False
def qlw (i : Nat) (C : Addr) (f : Str) (ρ : Rho) (Q : D -> Prop) : Prop := match lk i ρ with
 | some (.pg _ C' fs _ _) => C' = C /\ onS (fget f fs) Q
 | _ => False
def qnT (i : Nat) (C : Addr) (f : Str) (de : DE) (d : qao) (ρ : Rho) : Prop := de ρ λ y => match lk i ρ with
 | some (.pg x C' fs q xs) => C' = C /\ fs.length < 1000 /\ d.nx (ρ.set i (some (.pg x C (fput f y fs) q xs)))
 | _ => False
def ql3 (i : Nat) (C : Addr) (f : Str) (da : DE) (d : qao) (ρ : Rho) : Prop := da ρ λ z => match lk i ρ with
 | some (.ins x C' fs) => C' = C /\ fs.length < 1000 /\ (match z with
   | .lst xs => ∀ q, d.nx (ρ.set i (some (.pg x C (fput f (.cls q) fs) q xs)))
   | .tup xs => ∀ q, d.nx (ρ.set i (some (.pg x C (fput f (.cls q) fs) q xs)))
   | _ => False)
 | _ => False
end
section
variable {X : Cx} {Ed : DX -> Prop} {E : XK} {K : PySem.W.Frag} {pos p : Pos} {e a b c o e2 tg iter elt : Expr} {te ta tb tc : TE} {de da db dc : DE} {tal : TA} {dal : DA} {es ifs : List Expr} {k : Nat} {x : Str} {tt : TT} {dt : DT} {st : Stmt} {sts : List Stmt} {ts us : TS} {ds dus : DS}
def qrj (i : Nat) (C : Addr) (f : Str) (de : DE) (d : qao) (ρ : Rho) : Prop := match lk i ρ with
 | some (.pg x C' fs q xs) => C' = C /\ fget f fs = some (.cls q) /\ de ρ λ y => xs.length < 100000 /\ d.nx (ρ.set i (some (.pg x C fs q (xs ++ [y]))))
 | _ => False
def qkd (i : Nat) (C : Addr) (f : Str) (ρ : Rho) (Q : D -> Prop) : Prop := match lk i ρ with
 | some (.pg _ C' fs q xs) => C' = C /\ fget f fs = some (.cls q) /\ Q (.int xs.length)
 | _ => False
end
abbrev WpM := Addr -> List (Str × D) -> List D -> List D -> (List (Str × D) -> List D -> D -> Prop) -> (DX -> Prop) -> Prop
def mOut (x C q : Addr) (Qf : List (Str × D) -> List D -> Prop) (ρ : Rho) : Prop := match lk 0 ρ with
 | some (.pg x' C' fs q' xs) => x' = x /\ C' = C /\ q' = q /\ Qf fs xs
 | _ => False
abbrev DEW := Rho -> (D -> Rho -> Prop) -> Prop
section
variable {P : Program} {w : World} {K : PySem.W.Frag} {mg : Str -> Option Value} {base : Heap} {X : Cx} {Ed : DX -> Prop} {E : XK} {pos p : Pos} {e a b c o e2 tg iter elt : Expr} {te ta tb tc : TE} {de da db dc : DE} {tal : TA} {dal : DA} {es ifs : List Expr} {k : Nat} {x : Str} {tt : TT} {dt : DT} {st : Stmt} {sts : List Stmt} {ts us : TS} {ds dus : DS} {dw : DEW}
def dDo (dw : DEW) (d : qao) (ρ : Rho) : Prop := dw ρ λ _ ρ' => d.nx ρ'
def qpc (i : Nat) (C : Addr) (m : Str) (wp : WpM) (dd : List D) (Ed : DX -> Prop) (dal : DA) (ρ : Rho) (Q : D -> Rho -> Prop) : Prop := match lk i ρ with
 | some (.pg x C' fs q xs) => C' = C /\ fget m fs = none /\ dal ρ λ ds => wp q fs xs (ds ++ dd) (λ fs' xs' d => Q d (ρ.set i (some (.pg x C fs' q xs')))) Ed
 | _ => False
abbrev WpP := List D -> (Addr -> List (Str × D) -> List D -> Prop) -> (DX -> Prop) -> Prop
def pOut (x C : Addr) (Qf : Addr -> List (Str × D) -> List D -> Prop) (ρ : Rho) : Prop := match lk 0 ρ with
 | some (.pg x' C' fs q xs) => x' = x /\ C' = C /\ Qf q fs xs
 | _ => False
def qpt (i : Nat) (C : Addr) (wp : WpP) (dd : List D) (Ed : DX -> Prop) (da : DA) (d : qao) (ρ : Rho) : Prop := da ρ λ ds => i < ρ.length /\ wp (ds ++ dd) (λ q fs xs => ∀ x, d.nx (ρ.set i (some (.pg x C fs q xs)))) Ed
def rOut (i : Nat) (C : Addr) (Qf : Addr -> List (Str × D) -> List D -> Prop) (d : D) (ρ : Rho) : Prop := match lk i ρ with
 | some (.pg x C' fs q xs) => d = .cls x /\ C' = C /\ Qf q fs xs
 | _ => False
def qpX (i : Nat) (ρ : Rho) (Q : D -> Prop) : Prop := match lk i ρ with
 | some (.pg x _ _ _ _) => Q (.cls x)
 | _ => False
end
end DL
namespace L2
open PySem PySem.Spec PyProof.Rows
end L2
namespace DL
variable [TbC]
open PySem PySem.Spec PyProof.Rows L2
section
variable {P : Program} {w : World} {K : PySem.W.Frag} {mg : Str -> Option Value} {base : Heap} {X : Cx} {Ed : DX -> Prop} {E : XK} {pos p : Pos} {e a b c o e2 tg iter elt : Expr} {te ta tb tc : TE} {de da db dc : DE} {tal tkl : TA} {dal dkl : DA} {es ifs : List Expr} {k : Nat} {x : Str} {tt : TT} {dt : DT} {st : Stmt} {sts : List Stmt} {ts us : TS} {ds dus : DS} {dw : DEW}
def qmf (i : Nat) (C : Addr) (m : Str) (n nk : Nat) (wp : WpM) (gd : List D -> List D -> List D) (Ed : DX -> Prop) (dal dkl : DA) (ρ : Rho) (Q : D -> Rho -> Prop) : Prop := match lk i ρ with
 | some (.pg x C' fs q xs) => C' = C /\ fget m fs = none /\ dal ρ λ as => dkl ρ λ ds => as.length = n /\ ds.length = nk /\ wp q fs xs (gd as ds) (λ fs' xs' d => Q d (ρ.set i (some (.pg x C fs' q xs')))) Ed
 | _ => False
def qkf (C : Addr) (i : Int) (da : DE) (ρ : Rho) (Q : D -> Prop) : Prop := da ρ λ x => x = .cls C /\ Q (.int i)
end
end DL
namespace ER
open PySem PySem.W PySem.Calls PyProof.Rows
structure EC (K : Frag) (B i newId : String) (bmB : List Value) (C : Addr) : Prop where
 sa : findIn K (.ref C) "__setattr__" = some (some (.builtin "object.__setattr__"))
 ov : excOver K C bmB = true
 hd : hasDictIn K C = true
 ini : excInitIn K C bmB newId = true
 exC : subIn K (.ref C) (.type "BaseException") = some true
 exB : subIn K (.ref C) (.type B) = some true
 tyC : typeIn K (.ref C) = some (.type "type")
 kC : keepIn K (.ref C) = true
 sup : ks_superIn K C C "__init__" = some (some (.builtin i))
 own : mroIn K C (.ref C) = some true
structure SupF (P : Program) (K : Frag) (mg : Str -> Option Value) : Prop where
 sup : mg "super" = none
 tp : nsIn K cStatics "thirdparty.any" = some none
 top : (P.main.scope.names.lookup ("super" : Str)).isSome = false
structure IniC (P : Program) (K : Frag) (C cda cc : Addr) : Prop where
 code : ∃ (ccl : Value) (cdd : Option Addr) (vs : Array Value) (ccs : Array (Option Value)) (file : Str) (tf : Tok), K.lookup cda = some ⟨ccl, cdd, .fields vs, ccs⟩ /\ vs[2]? = some (.str file tf) /\ ((P.main.file : Str) == file) = true
 cell : ∃ (cl : Value) (cld : Option Addr) (csl : Array (Option Value)), K.lookup cc = some ⟨cl, cld, .cell (some (.ref C)), csl⟩
section
variable {P : Program} {w : World} {A : Around} {E : Value -> Shared -> Prop} {s : Shared} {h₀ : Heap} {L a C f cda cc t : Addr} {m mg mb : Str -> Option Value} {K : Frag} {B i newId : String} {bmB : List Value} {msg : Expr} {scope : Scope} {qual : Str} {fd : FuncData} {ar : Arg} {body : List Stmt} {oc : Value} {od : Option Addr} {osl : Array (Option Value)} {p0 p1 p2 p3 p4 : Pos}
def Says (P : Program) (w : World) (env : Env) (m : Str -> Option Value) (msg : Expr) : Prop := ∀ (A : Around) (s : Shared) (Q : Value -> Shared -> Prop) (E : Value -> Shared -> Prop), s.heap.Ns env.locals m -> (∀ u tk, Q u { s with toks := tk }) -> wpAny (model P w) A (eval msg env) Q E s
theorem qxq {Q : Flow -> Shared -> Prop} {pl : Sem Bool} (T : EC K B i newId bmB C) (KF : KxsFacts B i) (FB : ExcBaseFacts B newId i bmB) (SP : SupF P K mg) (IC : IniC P K C cda cc) (X₀ : K.In h₀) (hg : h₀.Ns mainGlobals mg) (hb : h₀.Ns builtinsNs mb) (hmb : mb "super" = bootBuiltins "super")
   (hf : K.lookup f = some ⟨oc, od, .func fd, osl⟩) (hp : (fd.params.posonlyargs ++ fd.params.args).head? = some ar) (F : Fr h₀ L s.heap m) (hv : m ar.arg = some (.ref a)) (ha : s.heap.get? a = some (excObj C t none .none)) (hn : h₀.get? a = none) (hL : a ≠ L)
   (hks : scope.names.lookup ("super" : Str) = some .globalImplicit) (hkc : scope.names.lookup ("__class__" : Str) = some .free) (hka : scope.names.lookup ar.arg = some .local) (hk : scope.kind = .function)
   (hm : Says P w (ksEnv qual scope L f (.ref cda) cc) m msg) (hst : starEach [msg] (ksEnv qual scope L f (.ref cda) cc) = (false, eval msg (ksEnv qual scope L f (.ref cda) cc)) :: starEach [] (ksEnv qual scope L f (.ref cda) cc))
   (ht : eval (.Call (.Attribute (.Call (.Name "super" p0) [] [] p1) "__init__" p2) [msg] [] p3) (ksEnv qual scope L f (.ref cda) cc) = (do
     let ov <- attributeBase (.Call (.Name "super" p0) [] [] p1) "__init__" (ksEnv qual scope L f (.ref cda) cc) (eval (.Call (.Name "super" p0) [] [] p1) (ksEnv qual scope L f (.ref cda) cc))
     standAt p2.atName
     let (fm, first) <- holding [ov] (getMethod ov "__init__" pl)
     callWith p3 fm first (backTo p3 (starEach [msg] (ksEnv qual scope L f (.ref cda) cc))) []))
   (hsw : swapsWith (.Call (.Attribute (.Call (.Name "super" p0) [] [] p1) "__init__" p2) [msg] [] p3) none p4.line (ksEnv qual scope L f (.ref cda) cc) = pure false)
   (hi : interactive (ksEnv qual scope L f (.ref cda) cc) = false)
   (h : ∀ h' t' tk, Fr h₀ L h' m -> h'.get? a = some (excObj C t' none .none) -> Q .next { s with heap := h', toks := tk }) :
   _root_.PySem.wpAt (model P w) A (.func body (ksEnv qual scope L f (.ref cda) cc)) (exec (.Expr (.Call (.Attribute (.Call (.Name "super" p0) [] [] p1) "__init__" p2) [msg] [] p3) p4) (ksEnv qual scope L f (.ref cda) cc)) Q E s := by
 obtain ⟨ccl, cdd, vs, ccs, file, tf, hcode, hvs, hfile⟩ := IC.code
 obtain ⟨cl, cld, csl, hcell⟩ := IC.cell
 have X : K.In s.heap := X₀.keeps F.keep
 have N0 : News h₀ L s.heap [(a, excObj C t none .none)] := λ p hp => by
   rw [List.mem_singleton.mp hp]
   exact ⟨ha, hL, hn⟩
 obtain ⟨cdC, hcC⟩ : ∃ cd, clsIn K C = some cd := by
   cases z : clsIn K C with
   | some cd => exact ⟨cd, rfl⟩
   | none =>
     have y := T.sup
     unfold ks_superIn at y
     rw [z] at y
     cases y
 obtain ⟨oC, hC1, hC2⟩ : ∃ oC, s.heap.get? C = some oC /\ oC.data = .cls cdC := by
   unfold clsIn at hcC
   split at hcC
   · rename_i hoC
     cases hcC
     exact ⟨_, X _ _ hoC, rfl⟩
   · cases hcC
 refine ks_wpAt_Expr_any (ks_wpAt_MethodCall (ks_wpAt_super_base (f := f) (cc := cda) hks hkc (by decide) rfl (X _ _ hf) rfl hp rfl (X _ _ hcode) rfl hvs hfile SP.top ?_) ht) hi hsw
 refine ks_loadName_global hk hks (loadGlobal_builtin (env := ksEnv qual scope L f (.ref cda) cc) (hg.keeps F.keep) SP.sup (hb.keeps F.keep) (hmb.trans (by decide +kernel)) ⟨rfl, ?_⟩)
 refine wpAny_loadName_free hk hkc rfl ⟨_, X _ _ hcell, rfl⟩ ?_
 refine wpAny_loadName_local hk hka F.ns hv ?_
 refine ks_wpAny_isType_cls hC1 hC2 ⟨rfl, ?_⟩
 refine ks_wpAny_call_super hC1 hC2 ha rfl (λ c z => by cases z) (looks_mroIn X T.own) λ h1 e1 k1 => ?_
 obtain ⟨F1, N1, l1⟩ := ks_newsPush F N0 rfl e1 k1
 have I1 : InstAt h1 a (excObj C t none .none) C none := ⟨k1 _ _ ha, rfl, rfl, trivial⟩
 refine kxs_method (s := { s with heap := h1 }) KF F1 X₀ N1 List.mem_cons_self I1 SP.tp T.sup T.exB (by decide) λ q h2 F2 N2 l2 => ?_
 have ar2 : ∀ (tk : Nat) (u : Value), wpAny (model P w) A (call (.ref q) [u]) (λ _ => Q .next) E { s with heap := h2, toks := tk } := λ tk u => by
   have U : UpdF a (excObj C t none .none) ((q, kxs_mw i a) :: (s.heap.objs.size, ks_superObj C a C) :: [(a, excObj C t none .none)]) _ := .tail (Nat.ne_of_gt (l2 (a, excObj C t none .none) (.tail _ (.head _)))) (.tail (Nat.ne_of_gt (l1 (a, excObj C t none .none) (.head _))) (.head (λ p hp => by cases hp)))
   refine kxs_call (s := { s with heap := h2, toks := tk }) F2 X₀ N2 FB T.ini List.mem_cons_self U (show (1 : Nat) <= sizeLine by decide) λ t' h3 F3 N3 l3 => ?_
   exact h h3 t' tk F3 ((N3 (a, excObj C t' none .none) (by simp)).1)
 refine kxs_callWith1 N2 List.mem_cons_self ?_ hst (by rfl)
 rw [hst]
 refine Calls.spliced_cons (hm _ _ _ _ F2.ns λ u tk => ?_)
 refine Calls.spliced_nil ⟨(N2 _ List.mem_cons_self).1, ?_⟩
 exact ar2 tk u
open Builtin Builtin.ObjectAttr in
theorem qur {hp : Heap} {g : Array GenState} {d : Drawn} {tk : Nat} {os : OsState} {name : Str} {v : Value} {Q : Unit -> Shared -> Prop} (T : EC K B i newId bmB C) (SF : StoreFacts B bmB "object.__setattr__" "object") (X : K.In hp) (ha : hp.get? a = some (excObj C t none .none)) (hno : takerIn K C name = some none)
   (h : ∀ h' tk' dx, (∀ b o, b ≠ a -> hp.get? b = some o -> h'.get? b = some o) -> hp.objs.size <= dx -> h'.get? a = some (excObj C t (some dx) .none) -> h'.Ns1 dx (λ y => if y = name then some v else none) -> Q () ⟨h', g, d, tk', os⟩) :
   wpAny (model P w) A (setAttr (.ref a) name v) Q E ⟨hp, g, d, tk, os⟩ := by
 have ax : a ≠ hp.objs.size := Nat.ne_of_lt (Heap.lt_size ha)
 refine set_plain (od := none) X ⟨ha, rfl, rfl, trivial⟩ T.sa (osa_openX (od := none) SF X ⟨ha, rfl, rfl, trivial⟩ T.ov hno λ b => ?_)
 obtain ⟨cd, hcd, hh⟩ := any_some T.hd
 have hcls : Looks (model P w) hp (classData C) cd := looks_clsIn X hcd
 have hx₁ : (hp.push { cls := .type "dict", data := .dict #[] }).get? a = some (excObj C t none .none) := Heap.get?_push_of_some _ ha
 unfold storeInOwnDict ownDictForStores
 repeat (first | with_reducible refine HandSPX.store_in_new ?_ ?_ | with_reducible refine wpAny_loadPart_at ha ?_ | with_reducible refine hcls.at ?_ | wp_step)
 · exact ⟨_, #[], _, (Heap.get?_update_ne _ _ _ _ ax.symm).trans (Heap.get?_push_at rfl rfl), rfl, λ e he => absurd he (by simp), λ _ => rfl⟩
 · intro h' tk' hn' hs
   exact h h' tk' hp.objs.size (λ b o hb ho => (hs.2 b (Nat.ne_of_lt (Heap.lt_size ho))).trans ((Heap.get?_update_ne _ _ _ _ hb).trans (Heap.get?_push_of_some _ ho))) (Nat.le_refl _) ((hs.2 a ax).trans (Heap.get?_update_self _ hx₁ rfl)) hn'
open Builtin Builtin.ObjectAttr in
theorem qxS {hp : Heap} {g : Array GenState} {d : Drawn} {tk : Nat} {os : OsState} {name : Str} {v : Value} {dx : Addr} {m0 : Str -> Option Value} {nl : List Str} {Q : Unit -> Shared -> Prop} (T : EC K B i newId bmB C) (SF : StoreFacts B bmB "object.__setattr__" "object") (X : K.In hp) (ha : hp.get? a = some (excObj C t (some dx) .none)) (hns : hp.Ns1 dx m0) (hw : Within m0 nl) (hz : nl.length <= 1000) (hno : takerIn K C name = some none)
   (h : ∀ h' tk', (∀ b o, b ≠ dx -> hp.get? b = some o -> h'.get? b = some o) -> h'.Ns1 dx (λ y => if y = name then some v else m0 y) -> Q () ⟨h', g, d, tk', os⟩) :
   wpAny (model P w) A (setAttr (.ref a) name v) Q E ⟨hp, g, d, tk, os⟩ := by
 obtain ⟨oD, esD, epD, hoD, hdD, _⟩ := hns.count hw
 refine set_plain (od := some oD) X ⟨ha, rfl, rfl, hoD⟩ T.sa (osa_openX (od := some oD) SF X ⟨ha, rfl, rfl, hoD⟩ T.ov hno λ b => ?_)
 obtain ⟨cd, hcd, hh⟩ := any_some T.hd
 have hcls : Looks (model P w) hp (classData C) cd := looks_clsIn X hcd
 unfold storeInOwnDict ownDictForStores
 repeat (first | with_reducible refine PySem.OEX.store_in_old hns hw hz ?_ | with_reducible refine wpAny_loadPart_at ha ?_ | with_reducible refine hcls.at ?_ | wp_step)
 intro h' tk' hn' hs
 exact h h' tk' (λ b o hb ho => (hs.2 b hb).trans ho) hn'
def Gives (P : Program) (w : World) (env : Env) (m : Str -> Option Value) (e : Expr) (v : L2.V) : Prop := ∀ (A : Around) (s : Shared) (Q : Value -> Shared -> Prop) (E : Value -> Shared -> Prop), s.heap.Ns env.locals m -> (∀ u tk, L2.RelV v u -> Q u { s with toks := tk }) -> wpAny (model P w) A (eval e env) Q E s
theorem qCl {env : Env} {x : Str} {j : Nat} {pos : Pos} : Gives P w env m (.Constant (.str x) j pos) (.str x) := λ A s Q E _ h => Calls.Constant_str (h _ _ ⟨_, rfl⟩)
theorem qCe {env : Env} {x : Str} {pos : Pos} {u : Value} {v : L2.V} (hk : env.scope.kind = .function) (hl : env.scope.names.lookup x = some .local) (hv : m x = some u) (r : L2.RelV v u) (hd : (x == ("__debug__" : Str)) = false) : Gives P w env m (.Name x pos) v := λ A s Q E hn h => wpAny_Name (wpAny_loadName_local hk hl hn hv (h _ _ r)) hd
inductive Sets (K : Frag) (C : Addr) (P : Program) (w : World) (env : Env) (m : Str -> Option Value) (self : Str) : List Stmt -> List (Str × L2.V) -> Prop
 | nil : Sets K C P w env m self [] []
 | cons {f : Str} {e : Expr} {v : L2.V} {p1 p2 p3 : Pos} {r : List Stmt} {l : List (Str × L2.V)} (hg : Gives P w env m e v) (hno : takerIn K C f = some none) (hsw : swapsWith e (some (.Attribute (.Name self p1) f p2)) p3.line env = pure false) (hr : Sets K C P w env m self r l) : Sets K C P w env m self (.Assign [.Attribute (.Name self p1) f p2] e p3 :: r) ((f, v) :: l)
theorem qCp {env : Env} {self : Str} {dx : Addr} {Q : Flow -> Shared -> Prop} (T : EC K B i newId bmB C) (SF : StoreFacts B bmB "object.__setattr__" "object") (X₀ : K.In h₀) (hL : env.locals = L) (hk : env.scope.kind = .function) (hl : env.scope.names.lookup self = some .local) (hv : m self = some (.ref a)) (hd : (self == ("__debug__" : Str)) = false)
   (d0 : h₀.objs.size <= dx) (dL : dx ≠ L) (da : a ≠ dx) : ∀ {st : List Stmt} {l : List (Str × L2.V)}, Sets K C P w env m self st l -> ∀ (s : Shared) (fs : List (Str × L2.V)) (mA : Str -> Option Value), Fr h₀ L s.heap m -> s.heap.get? a = some (excObj C t (some dx) .none) -> s.heap.Ns1 dx mA -> (∀ f, L2.RelO (fs.lookup f) (mA f)) -> fs.length + l.length <= 900 ->
   (∀ h' tk' mB, Fr h₀ L h' m -> h'.get? a = some (excObj C t (some dx) .none) -> h'.Ns1 dx mB -> (∀ f, L2.RelO ((l.reverse ++ fs).lookup f) (mB f)) -> Q .next { s with heap := h', toks := tk' }) -> wpAny (model P w) A (execs st env) Q E s := by
 intro st l S
 induction S with
 | nil =>
   intro s fs mA F ha hns r _ h
   exact wpAny_execs_nil (h s.heap s.toks mA F ha hns r)
 | @cons f e v p1 p2 p3 rr l hg hno hsw hr ih =>
   intro s fs mA F ha hns r hz h
   refine wpAny_execs_cons (plainObj_wpAny_Assign_Attribute (hg _ _ _ _ (hL ▸ F.ns) λ u tk ru => wpAny_Name (wpAny_loadName_local hk hl (hL ▸ F.ns) hv ?_) hd) hsw)
   refine qxS T SF (X₀.keeps F.keep) ha hns (L2.within_of r) (by rw [List.length_map]; simp only [List.length_cons] at hz; omega) hno λ h' tk' k hn' => ?_
   refine ih ⟨h', s.gens, s.drawn, tk', s.os⟩ ((f, v) :: fs) _ ⟨F.ns.at' λ o e => k _ _ (λ z => dL z.symm) e, λ b o e => k _ _ (Nat.ne_of_lt (Nat.lt_of_lt_of_le (Heap.lt_size e) d0)) (F.keep b o e), F.above⟩ (k _ _ da ha) hn' (L2.relO_put ru r) (by simp only [List.length_cons] at hz ⊢; omega) λ h2 tk2 mB F2 ha2 hn2 r2 => ?_
   refine h h2 tk2 mB F2 ha2 hn2 ?_
   rw [List.reverse_cons, List.append_assoc]
   exact r2
theorem qxa {R : Result -> Shared -> Prop} {pl : Sem Bool} {name : Str} {params : Arguments} {dV kV doc pm ct : Value} {an : Option Addr} {args : Args} {binds : List (Str × Value)} {rest : List Stmt} {l : List (Str × L2.V)} (T : EC K B i newId bmB C) (SF : StoreFacts B bmB "object.__setattr__" "object") (KF : KxsFacts B i) (FB : ExcBaseFacts B newId i bmB) (SP : SupF P K mg) (IC : IniC P K C cda cc) (X₀ : K.In h₀) (hg : h₀.Ns mainGlobals mg) (hb : h₀.Ns builtinsNs mb) (hmb : mb "super" = bootBuiltins "super")
   (hbody : body = .Expr (.Call (.Attribute (.Call (.Name "super" p0) [] [] p1) "__init__" p2) [msg] [] p3) p4 :: rest)
   (lk : K.lookup f = some ⟨oc, od, .func (ksFn name qual params body scope dV kV doc pm an (.ref cda) ct cc), osl⟩) (hcd : codeIn K (.ref cda) qual = true) (hroom : A.depth < recursionLimit) (lim : s.heap.NoLimit)
   (hk0 : ∀ b o, h₀.get? b = some o -> s.heap.get? b = some o) (hsz : h₀.objs.size <= s.heap.objs.size) (hn : h₀.get? a = none) (ha : s.heap.get? a = some (excObj C t none .none)) (hbind : BindsTo s (ksFn name qual params body scope dV kV doc pm an (.ref cda) ct cc) args binds)
   (hp : (params.posonlyargs ++ params.args).head? = some ar) (hv : binds.reverse.lookup ar.arg = some (.ref a)) (hloc : ∀ y ∈ binds, scope.names.lookup y.1 = some .local) (hcell : ∀ x ∈ scope.names, x.2 ≠ .cell) (hco : scope.isCoroutine = false) (hgen : scope.isGenerator = false)
   (hks : scope.names.lookup ("super" : Str) = some .globalImplicit) (hkc : scope.names.lookup ("__class__" : Str) = some .free) (hka : scope.names.lookup ar.arg = some .local) (hk : scope.kind = .function) (hd : (ar.arg == ("__debug__" : Str)) = false)
   (hm : ∀ L, Says P w (ksEnv qual scope L f (.ref cda) cc) (λ x => binds.reverse.lookup x) msg) (hst : ∀ L, starEach [msg] (ksEnv qual scope L f (.ref cda) cc) = (false, eval msg (ksEnv qual scope L f (.ref cda) cc)) :: starEach [] (ksEnv qual scope L f (.ref cda) cc))
   (ht : ∀ L, eval (.Call (.Attribute (.Call (.Name "super" p0) [] [] p1) "__init__" p2) [msg] [] p3) (ksEnv qual scope L f (.ref cda) cc) = (do
     let ov <- attributeBase (.Call (.Name "super" p0) [] [] p1) "__init__" (ksEnv qual scope L f (.ref cda) cc) (eval (.Call (.Name "super" p0) [] [] p1) (ksEnv qual scope L f (.ref cda) cc))
     standAt p2.atName
     let (fm, first) <- holding [ov] (getMethod ov "__init__" pl)
     callWith p3 fm first (backTo p3 (starEach [msg] (ksEnv qual scope L f (.ref cda) cc))) []))
   (hsw : ∀ L, swapsWith (.Call (.Attribute (.Call (.Name "super" p0) [] [] p1) "__init__" p2) [msg] [] p3) none p4.line (ksEnv qual scope L f (.ref cda) cc) = pure false)
   (hi : ∀ L, interactive (ksEnv qual scope L f (.ref cda) cc) = false) {f1 : Str} {v1 : L2.V} (hS : ∀ L, Sets K C P w (ksEnv qual scope L f (.ref cda) cc) (λ x => binds.reverse.lookup x) ar.arg rest ((f1, v1) :: l)) (hz : l.length <= 800)
   (h : ∀ h' tk' t' dx mB, (∀ b o, h₀.get? b = some o -> h'.get? b = some o) -> h'.get? a = some (excObj C t' (some dx) .none) -> h'.Ns1 dx mB -> (∀ f, L2.RelO ((l.reverse ++ [(f1, v1)]).lookup f) (mB f)) -> h₀.objs.size <= dx -> a ≠ dx -> R (.ok (.ret .none)) ⟨h', s.gens, s.drawn, tk', s.os⟩) :
   codeAny (model P w) A (.call (.ref f) args) R s := by
 subst hbody
 have X : K.In s.heap := X₀.keeps hk0
 refine ks_codeAny_call_defAt (fd := ksFn name qual params _ scope dV kV doc pm an (.ref cda) ct cc) (binds := binds) hroom (X _ _ lk) rfl lim (codeRec_of X hcd) rfl hbind hcell hloc (λ h₁ hns hk₁ => ?_) hco hgen hk
 have hL : h₀.objs.size <= s.heap.objs.size := hsz
 have F1 : Fr h₀ s.heap.objs.size h₁ (λ x => binds.reverse.lookup x) := ⟨hns, λ b o e => hk₁ b o (hk0 b o e), hL⟩
 have aL : a ≠ s.heap.objs.size := Nat.ne_of_lt (Heap.lt_size ha)
 refine ks_wpAt_execs_cons ?_
 refine qxq (s := { s with heap := h₁, toks := s.toks + binds.length }) (m := λ x => binds.reverse.lookup x) (a := a) (t := t) T KF FB SP IC X₀ hg hb hmb lk hp F1 hv (hk₁ _ _ ha) hn aL hks hkc hka hk (hm _) (hst _) (ht _) (hsw _) (hi _) λ h2 t2 tk2 F2 ha2 => ?_
 refine wpAt_of_wpAny ?_
 cases hS s.heap.objs.size with
 | @cons _ e _ q1 q2 q3 rr _ hg1 hno hsw1 hr =>
 refine wpAny_execs_cons (plainObj_wpAny_Assign_Attribute (hg1 _ _ _ _ F2.ns λ u tk ru => wpAny_Name (wpAny_loadName_local hk hka F2.ns hv ?_) hd) hsw1)
 refine qur T SF (X₀.keeps F2.keep) ha2 hno λ h3 tk3 dx k3 hdx ha3 hn3 => ?_
 have hdx : h2.objs.size <= dx := hdx
 have ha2' : a < h2.objs.size := Heap.lt_size ha2
 have dL : s.heap.objs.size < h2.objs.size := by
   obtain ⟨oL, _, _, e, _⟩ := F2.ns
   exact Heap.lt_size e
 have d0 : h₀.objs.size <= dx := by omega
 refine qCp (dx := dx) (L := s.heap.objs.size) T SF X₀ rfl hk hka hv hd d0 (Nat.ne_of_gt (Nat.lt_of_lt_of_le dL hdx)) (Nat.ne_of_lt (Nat.lt_of_lt_of_le ha2' hdx)) hr ⟨h3, s.gens, s.drawn, tk3, s.os⟩ [(f1, v1)] _ ⟨F2.ns.at' λ o e => k3 _ _ (λ z => aL z.symm) e, λ b o e => k3 _ _ (λ z => by rw [z, hn] at e; cases e) (F2.keep b o e), F2.above⟩ ha3 hn3 (λ g => L2.relO_put (fs := []) (mA := λ _ => none) ru (λ _ => trivial) g) (by simp only [List.length_cons, List.length_nil]; omega) λ h4 tk4 mB F4 ha4 hn4 r4 => ?_
 exact h h4 tk4 t2 dx mB F4.keep ha4 hn4 r4 d0 (Nat.ne_of_lt (Nat.lt_of_lt_of_le ha2' hdx))
end
end ER
namespace ER
open PySem PySem.W PySem.Calls PyProof.Rows
def qol (P : Program) (w : World) (K : Frag) (mg : Str -> Option Value) (C f : Addr) (n : Nat) (ok : List L2.V -> Prop) (fl : List L2.V -> List (Str × L2.V)) : Prop :=
 ∀ (A : Around) (hp : Heap) (g : Array GenState) (dr : Drawn) (tk : Nat) (os : OsState) (us : List Value) (vs : List L2.V) (R : Result -> Shared -> Prop), K.In hp -> hp.Ns mainGlobals mg -> (∃ mb, hp.Ns builtinsNs mb /\ mb "super" = bootBuiltins "super") -> hp.NoLimit -> A.depth < recursionLimit -> L2.Vals vs us -> vs.length = n -> ok vs ->
   (∀ h' tk' t' dx mB, (∀ b o, hp.get? b = some o -> h'.get? b = some o) -> h'.get? (hp.objs.size + 1) = some (excObj C t' (some dx) .none) -> h'.Ns1 dx mB -> (∀ f, L2.RelO ((fl vs).lookup f) (mB f)) -> hp.objs.size <= dx -> hp.objs.size + 1 ≠ dx -> R (.ok (.ret .none)) ⟨h', g, dr, tk', os⟩) ->
   codeAny (model P w) A (.call (.ref f) ⟨.ref (hp.objs.size + 1) :: us, []⟩) R ⟨(hp.push (excTup us)).push (excObj C hp.objs.size none .none), g, dr, tk, os⟩
structure MkX (P : Program) (w : World) (K : Frag) (mg : Str -> Option Value) (x : Str) (C : Addr) (n : Nat) (ok : List L2.V -> Prop) (fl : List L2.V -> List (Str × L2.V)) : Prop where
 nm : mg x = some (.ref C)
 ex : ∃ (B i newId initId : String) (bmB : List Value) (f : Addr), EC K B i newId bmB C /\ ExcBaseFacts B newId initId bmB /\ findIn K (.ref C) "__init__" = some (some (.ref f)) /\ isFn K (.ref f) = true /\ qol P w K mg C f n ok fl
theorem qrp : ∀ {ps : List Str} {us : List Value} {j : Nat} {x : Str} {u : Value}, ps.Nodup -> ps[j]? = some x -> us[j]? = some u -> (ps.zip us).lookup x = some u
 | [], _, _, _, _, _, h, _ => by simp at h
 | _ :: _, [], _, _, _, _, _, h => by simp at h
 | p :: ps, v :: us, 0, x, u, _, h1, h2 => by
   simp only [List.getElem?_cons_zero, Option.some.injEq] at h1 h2
   subst h1 h2
   simp
 | p :: ps, v :: us, j + 1, x, u, nd, h1, h2 => by
   simp only [List.getElem?_cons_succ] at h1 h2
   have hx : x ≠ p := λ z => by
     subst z
     exact (List.nodup_cons.mp nd).1 (List.mem_of_getElem? h1)
   have hb : (x == p) = false := by simpa using hx
   show (match x == p with | true => some v | false => (ps.zip us).lookup x) = some u
   rw [hb]
   exact qrp (List.nodup_cons.mp nd).2 h1 h2
theorem qpR : ∀ {l : List (Str × Value)} {x : Str}, (l.map (·.1)).Nodup -> l.reverse.lookup x = l.lookup x
 | [], _, _ => rfl
 | (p, v) :: l, x, nd => by
   have nd' : p ∉ l.map (·.1) /\ (l.map (·.1)).Nodup := List.nodup_cons.mp (show (p :: l.map (·.1)).Nodup from nd)
   have ih := qpR (x := x) nd'.2
   rw [List.reverse_cons, List.lookup_append, ih]
   by_cases h : x = p
   · subst h
     have e : l.lookup x = none := by
       rw [List.lookup_eq_none_iff]
       intro y hy
       simp only [bne_iff_ne, ne_eq]
       intro z
       exact nd'.1 (z ▸ List.mem_map_of_mem hy)
     rw [e]
     simp
   · have hb : (x == p) = false := by simpa using h
     simp [List.lookup, hb]
theorem par_at {ps : List Str} {us : List Value} (nd : ps.Nodup) (hl : us.length = ps.length) {j : Nat} {x : Str} {u : Value} (h1 : ps[j]? = some x) (h2 : us[j]? = some u) : (ps.zip us).reverse.lookup x = some u := by
 rw [qpR (by rw [List.map_fst_zip (by omega)]; exact nd)]
 exact qrp nd h1 h2
section
variable {P : Program} {w : World} {C f cda cc : Addr} {mg : Str -> Option Value} {K : Frag} {B i newId : String} {bmB : List Value} {msg : Expr} {scope : Scope} {qual : Str} {ar : Arg} {oc : Value} {od : Option Addr} {osl : Array (Option Value)} {p0 p1 p2 p3 p4 : Pos}
theorem qBg {pl : Sem Bool} {name : Str} {params : Arguments} {dV kV doc pm ct : Value} {an : Option Addr} {body rest : List Stmt} {ps : List Str} {n : Nat} {ok : List L2.V -> Prop} {f1 : Str} {v1 : L2.V} {l : List L2.V -> List (Str × L2.V)} (T : EC K B i newId bmB C) (SF : StoreFacts B bmB "object.__setattr__" "object") (KF : KxsFacts B i) (FB : ExcBaseFacts B newId i bmB) (SP : SupF P K mg) (IC : IniC P K C cda cc)
   (hbody : body = .Expr (.Call (.Attribute (.Call (.Name "super" p0) [] [] p1) "__init__" p2) [msg] [] p3) p4 :: rest)
   (lk : K.lookup f = some ⟨oc, od, .func (ksFn name qual params body scope dV kV doc pm an (.ref cda) ct cc), osl⟩) (hcd : codeIn K (.ref cda) qual = true)
   (hbind : ∀ us : List Value, us.length = ps.length -> bindArgs (ksFn name qual params body scope dV kV doc pm an (.ref cda) ct cc) ⟨us, []⟩ = pure (ps.zip us)) (hn : ps.length = n + 1) (nd : ps.Nodup)
   (hp : (params.posonlyargs ++ params.args).head? = some ar) (h0 : ps[0]? = some ar.arg) (hloc : ∀ y ∈ ps, scope.names.lookup y = some .local) (hcell : ∀ x ∈ scope.names, x.2 ≠ .cell) (hco : scope.isCoroutine = false) (hgen : scope.isGenerator = false)
   (hks : scope.names.lookup ("super" : Str) = some .globalImplicit) (hkc : scope.names.lookup ("__class__" : Str) = some .free) (hk : scope.kind = .function) (hd : (ar.arg == ("__debug__" : Str)) = false)
   (hm : ∀ (L : Addr) (m : Str -> Option Value) (us : List Value) (vs : List L2.V), L2.Vals vs us -> vs.length = n -> ok vs -> (∀ (j : Nat) (x : Str) (u : Value), ps[j + 1]? = some x -> us[j]? = some u -> m x = some u) -> Says P w (ksEnv qual scope L f (.ref cda) cc) m msg)
   (hst : ∀ L, starEach [msg] (ksEnv qual scope L f (.ref cda) cc) = (false, eval msg (ksEnv qual scope L f (.ref cda) cc)) :: starEach [] (ksEnv qual scope L f (.ref cda) cc))
   (ht : ∀ L, eval (.Call (.Attribute (.Call (.Name "super" p0) [] [] p1) "__init__" p2) [msg] [] p3) (ksEnv qual scope L f (.ref cda) cc) = (do
     let ov <- attributeBase (.Call (.Name "super" p0) [] [] p1) "__init__" (ksEnv qual scope L f (.ref cda) cc) (eval (.Call (.Name "super" p0) [] [] p1) (ksEnv qual scope L f (.ref cda) cc))
     standAt p2.atName
     let (fm, first) <- holding [ov] (getMethod ov "__init__" pl)
     callWith p3 fm first (backTo p3 (starEach [msg] (ksEnv qual scope L f (.ref cda) cc))) []))
   (hsw : ∀ L, swapsWith (.Call (.Attribute (.Call (.Name "super" p0) [] [] p1) "__init__" p2) [msg] [] p3) none p4.line (ksEnv qual scope L f (.ref cda) cc) = pure false) (hi : ∀ L, interactive (ksEnv qual scope L f (.ref cda) cc) = false)
   (hS : ∀ (L : Addr) (m : Str -> Option Value) (us : List Value) (vs : List L2.V), L2.Vals vs us -> vs.length = n -> ok vs -> (∀ (j : Nat) (x : Str) (u : Value), ps[j + 1]? = some x -> us[j]? = some u -> m x = some u) -> Sets K C P w (ksEnv qual scope L f (.ref cda) cc) m ar.arg rest ((f1, v1) :: l vs)) (hz : ∀ vs, (l vs).length <= 800) :
   qol P w K mg C f n ok λ vs => (l vs).reverse ++ [(f1, v1)] := by
 intro A hp' g dr tk os us vs R X hg hb lim hA r hl hok hR
 obtain ⟨mb, hb1, hb2⟩ := hb
 have hlu : us.length = n := by rw [<- r.length]; exact hl
 have hl2 : (Value.ref (hp'.objs.size + 1) :: us).length = ps.length := by rw [List.length_cons, hlu, hn]
 have kk : ∀ b o, hp'.get? b = some o -> ((hp'.push (excTup us)).push (excObj C hp'.objs.size none .none)).get? b = some o := λ b o e => Heap.get?_push_of_some _ (Heap.get?_push_of_some _ e)
 have par : ∀ (j : Nat) (x : Str) (u : Value), ps[j + 1]? = some x -> us[j]? = some u -> (ps.zip (Value.ref (hp'.objs.size + 1) :: us)).reverse.lookup x = some u := λ j x u h1 h2 => par_at nd hl2 h1 (by simpa using h2)
 refine qxa (s := ⟨(hp'.push (excTup us)).push (excObj C hp'.objs.size none .none), g, dr, tk, os⟩) (h₀ := hp') (a := hp'.objs.size + 1) (t := hp'.objs.size) (binds := ps.zip (Value.ref (hp'.objs.size + 1) :: us)) T SF KF FB SP IC X hg hb1 hb2 hbody lk hcd hA (lim.keeps kk) kk ?_ (Heap.get?_none_of_le (Nat.le_succ _)) (by heap_get) (.of_eq (hbind _ hl2)) hp (par_at nd hl2 h0 rfl) (λ y hy => hloc _ (List.of_mem_zip hy).1) hcell hco hgen hks hkc (hloc _ (List.mem_of_getElem? h0)) hk hd (λ L => hm L _ us vs r hl hok par) hst ht hsw hi (λ L => hS L _ us vs r hl hok par) (hz vs) λ h' tk' t' dx mB k1 k2 k3 k4 k5 k6 => hR h' tk' t' dx mB k1 k2 k3 k4 k5 k6
 show hp'.objs.size <= _
 have : hp'.objs.size < ((hp'.push (excTup us)).push (excObj C hp'.objs.size none .none)).objs.size := Heap.lt_size (o := excTup us) (by heap_get)
 exact Nat.le_of_lt this
end
end ER
namespace L2
open PySem PySem.Spec PyProof.Rows
def tErr (C : Addr) (n : Nat) (ok : List V -> Prop) (fl : List V -> List (Str × V)) (ta : TA) : St -> Hp -> XK -> Prop := λ σ H Q => ta σ H λ vs H1 => vs.length = n /\ ok vs /\ n <= 1000 /\ ∀ dx, H1 dx = none -> Q (.ref C) (some dx) (upd H1 dx (.xd (fl vs)))
section
variable {X : Cx} {e : Expr} {es : List Expr} {ta : TA} {p pos : Pos} {x : Str} {C : Addr} {n : Nat} {ok : List V -> Prop} {fl : List V -> List (Str × V)}
theorem qt6 {pins : List (Addr × Obj)} {σ : St} {H1 : Hp} {Q : XK} {hp h' : Heap} {g : Array GenState} {dr : Drawn} {tk tk' : Nat} {os : OsState} {t' dx : Addr} {mB : Str -> Option Value} {fs : List (Str × V)} (T : Raises X (.ref C)) (I1 : Inv X pins σ H1 ⟨hp, g, dr, tk, os⟩)
   (k : ∀ b o, hp.get? b = some o -> h'.get? b = some o) (ha : h'.get? (hp.objs.size + 1) = some (PySem.W.excObj C t' (some dx) .none)) (hn : h'.Ns1 dx mB) (r : ∀ f, RelO (fs.lookup f) (mB f)) (hdx : hp.objs.size <= dx) (hne : hp.objs.size + 1 ≠ dx)
   (q : ∀ dx, H1 dx = none -> Q (.ref C) (some dx) (upd H1 dx (.xd fs))) : L2N.MkP X pins σ Q (.ref (hp.objs.size + 1)) ⟨h', g, dr, tk', os⟩ := by
 obtain ⟨G, g1', g2'⟩ := restrict h' λ b => decide (b ≠ hp.objs.size + 1)
 have gk : ∀ b, b ≠ hp.objs.size + 1 -> G.get? b = h'.get? b := λ b hb => g1' b (decide_eq_true hb)
 have ge : G.get? (hp.objs.size + 1) = none := g2' _ (by simp)
 have nn : ∀ b o, hp.get? b = some o -> b ≠ hp.objs.size + 1 := λ b o e => Nat.ne_of_lt (Nat.lt_succ_of_lt (Heap.lt_size e))
 have h0 : H1 dx = none := I1.hok.fresh hdx
 have J : Inv X pins σ (upd H1 dx (.xd fs)) ⟨G, g, dr, tk', os⟩ := I1.laid (a := dx) (o := .xd fs) (h' := G) (t' := tk') (λ b u e => (gk b (nn b u e)).trans (k b u e)) hdx ⟨mB, hn.at λ o y => (gk dx hne.symm).trans y, r⟩
 refine ⟨_, _, _, ⟨G, g, dr, tk', os⟩, _, .ref C, some dx, rfl, J, λ b o z => ?_, ge, ha, ⟨rfl, rfl, λ _ z => by cases z; rfl⟩, rfl, rfl, ?_, rfl, I1.bare, T, q dx h0⟩
 · by_cases hb : b = hp.objs.size + 1
   · rw [hb, ge] at z
     cases z
   · exact (gk b hb).symm.trans z
 · rw [upd_ne hne]
   exact I1.hok.fresh (Nat.le_succ _)
theorem qz4 {pins : List (Addr × Obj)} {σ : St} {H1 : Hp} {s1 : Shared} {Q : XK} {us : List Value} {vs : List V} {k : Nat} (M : ER.MkX X.prog X.w X.K X.mg x C n ok fl) (hr : Room (k + 1) X.A) (I1 : Inv X pins σ H1 s1) (r1 : Vals vs us) (hl : vs.length = n) (hok : ok vs) (hz : n <= 1000) (q : ∀ dx, H1 dx = none -> Q (.ref C) (some dx) (upd H1 dx (.xd (fl vs)))) :
   wpAny (model X.prog X.w) X.A (call (.ref C) us) (L2N.MkP X pins σ Q) X.xe s1 := by
 obtain ⟨B, i, newId, initId, bmB, f, T, FB, iC, tI, ER⟩ := M.ex
 have Xs := I1.kIn
 obtain ⟨nm, N', qn, bs, bm, hdct, sn, sub, ab, col, dd, k0, k1, k2, k3, k5, hC, hT⟩ := PySem.W.excInit_of Xs T.ini
 obtain ⟨oI, hoI, hcI⟩ : ∃ oI, s1.heap.get? f = some oI /\ oI.cls = .type "function" := by
   obtain ⟨o, ho, hc⟩ := Option.map_eq_some_iff.mp (show (X.K.lookup f).map (·.cls) = some (.type "function") from beq_iff_eq.mp tI)
   exact ⟨o, Xs _ _ ho, hc⟩
 have blt : ∃ mb, s1.heap.Ns builtinsNs mb /\ mb "super" = bootBuiltins "super" := by
   obtain ⟨mb, h1, h2⟩ := I1.mod.blt
   exact ⟨mb, h1.keeps I1.bk, h2 _ (by decide)⟩
 have us1 : us.length <= sizeLine := by
   rw [<- r1.length, hl]
   exact Nat.le_trans hz (by decide)
 obtain ⟨hp, g, dr, tk, os⟩ := s1
 refine wpAny_call (PySem.HandSPX.call_own FB hT hC (PySem.W.looks_findIn Xs iC) (λ self => PySem.W.exc_bind hoI hcI self) us1 (ER _ hp g dr tk os us vs _ Xs (I1.mod.glob.keeps I1.bk) blt I1.nolimit (hr.make C us []).depth r1 hl hok λ h' tk' t' dx mB kk ha hn rr hdx hne => ?_))
 exact ⟨rfl, qt6 (raises_own T.exC T.tyC) I1 kk ha hn rr hdx hne q⟩
theorem qtE {k : Nat} (M : ER.MkX X.prog X.w X.K X.mg x C n ok fl) (hr : Room (k + 1) X.A) (hk : PySem.W.keepIn X.K (.ref C) = true) (hg : Gl X x) (ha : PA X (e :: es) ta) (hdb : (x == ("__debug__" : Str)) = false := by decide) (he : starEach (e :: es) X.env = (false, eval e X.env) :: starEach es X.env := by rfl) (hpl : (backTo pos (starEach es X.env)).any (·.1) = false := by rfl) :
   L2N.PMk X (.Call (.Name x p) (e :: es) [] pos) (tErr C n ok fl ta) := by
 intro pins s σ H Q I h
 refine wpAny_Call_Name_kw (ld_glob I hg M.nm ?_ hdb)
 refine PySem.W.callWith_K (h₀ := X.base) I.ok.mod.kin hk (thn (ha.run pos pins s σ H _ I h) λ us s1 ⟨vs, H1, I1, r1, hl, hok, hz, q⟩ => ⟨I1.kIn, ?_⟩) he hpl
 exact qz4 M hr I1 r1 hl hok hz q
end
end L2
namespace DL
variable [TbC]
open PySem PySem.Spec PyProof.Rows L2
structure qfp (P : Program) (w : World) (K : PySem.W.Frag) (mg : Str -> Option Value) (x : Str) (C : Addr) (n : Nat) (okd : List D -> Prop) (mkd : List D -> List (Str × D)) : Prop where
 ex : ∃ (ok : List V -> Prop) (fl : List V -> List (Str × V)), ER.MkX P w K mg x C n ok fl /\ PySem.W.keepIn K (.ref C) = true /\ n <= 1000 /\ ∀ (H : Hp) (ds : List D) (vs : List V), ds.length = n -> Reps K H ds vs -> okd ds -> ok vs /\ Repf K H (mkd ds) (fl vs)
def qiS (C : Addr) (n : Nat) (okd : List D -> Prop) (mkd : List D -> List (Str × D)) (Ed : DX -> Prop) (da : DA) (_ : qao) (ρ : Rho) : Prop := da ρ λ ds => ds.length = n /\ okd ds /\ Ed (C, mkd ds)
section
variable {X : Cx} {Ed : DX -> Prop} {E : XK} {pos p2 p : Pos} {e : Expr} {es : List Expr} {tal : TA} {dal : DA} {x : Str} {C : Addr} {n k : Nat} {okd : List D -> Prop} {mkd : List D -> List (Str × D)}
def tRaise (P : Program) (w : World) (K : PySem.W.Frag) (mg : Str -> Option Value) (x : Str) (C : Addr) (n : Nat) (E : XK) (ta : TA) : TS := λ _ σ H => ∃ (ok : List V -> Prop) (fl : List V -> List (Str × V)), ER.MkX P w K mg x C n ok fl /\ tErr C n ok fl ta σ H λ c d H' => E c d H'
theorem st_raise (M : qfp X.prog X.w X.K X.mg x C n okd mkd) (hr : Room (k + 1) X.A) (hc : X.calm = true) (tk : L2N.Takes X λ c d _ H => E c d H) (ha : JA X Ed E (e :: es) tal dal) (hg : Gl X x := by rfl) (hdb : (x == ("__debug__" : Str)) = false := by decide) (he : starEach (e :: es) X.env = (false, eval e X.env) :: starEach es X.env := by rfl)
   (hpl : (backTo pos (starEach es X.env)).any (·.1) = false := by rfl) : JS X Ed E (.Raise (some (.Call (.Name x p) (e :: es) [] pos)) none p2) (tRaise X.prog X.w X.K X.mg x C n E tal) (qiS C n okd mkd Ed dal) := by
 obtain ⟨ok, fl, M, hk, hz, hm⟩ := M.ex
 refine ⟨⟨λ pins s σ H D I ⟨ok, fl, M, h⟩ => (L2N.ps_raise hc tk (qtE M hr hk hg ha.pe hdb he hpl)).run pins s σ H D I h⟩, λ B0 B1 A H0 H σ ρ R X d D r h => ⟨ok, fl, M, ha.sim B0 B1 A H0 H σ ρ R X _ h _ λ ds vs H1 H2 R1 g1 r1 ⟨hl, hok, q⟩ => ?_⟩⟩
 obtain ⟨h1, h2⟩ := hm H1 ds vs hl r1 hok
 refine ⟨by rw [r1.length, hl], h1, hz, λ dx hdx => X.ex C (mkd ds) (fl vs) dx H1 _ (R1.gr.trans ⟨.refl _, (same_upd hdx).ext, qbi R1.ex (R1.ex.free hdx), λ _ _ => rfl, λ t => qc5 t hdx⟩) upd_same h2 q⟩
end
end DL
namespace ER
open PySem PySem.W PySem.Calls PyProof.Rows L2
section
variable {B : Heap} {l : List Env} {a : Addr} {Z : Obj -> Prop} {h : Heap} {o : Obj}
theorem qCb : h.UpToSlots (h.push o) := λ _ u e _ => ⟨u.slots, Heap.get?_push_of_some _ e⟩
theorem qr1 (x : HandSPX.FlyingZ B l a Z h) : HandSPX.FlyingZ B l a Z (h.push o) := by
 obtain ⟨x1, x2, x3, oe, vs, T, oT, ts, y1, y2, y3, y4, y5, y6, y7, y8, y9⟩ := x
 exact ⟨λ b u e => Heap.get?_push_of_some _ (x1 b u e), x2, x3.of_keeps λ b u e _ => ⟨u, Heap.get?_push_of_some _ e, rfl⟩, oe, vs, T, oT, ts, Heap.get?_push_of_some _ y1, y2, y3, y4, y5, y6, Heap.get?_push_of_some _ y7, y8, y9⟩
end
def wWhy (K : Frag) (c1 c2 : Value) (i : Nat) (ts : Addr -> Value -> Option Addr -> TS) (D : Ends) : WX := λ cls d σ H => exmAny K cls [c1, c2] = some true /\ ∀ a, H a = none ->
 ts a cls d { nx := λ σ' H' => D.nx (σ'.set i none) H', rt := D.rt, bk := λ σ' H' => D.bk (σ'.set i none) H', ct := λ σ' H' => D.ct (σ'.set i none) H' } (σ.set i (some (.ref a))) H
section
variable {X : Cx} {x1 x2 n : Str} {c1 c2 : Value} {i kk : Nat} {body suite : List Stmt} {b₀ : Stmt} {q1 q2 tp pos pos' : Pos} {tb : WX -> TS} {ts : Addr -> Value -> Option Addr -> TS}
theorem qoY {pins : List (Addr × Obj)} {σ : L2.St} {H : Hp} {s : Shared} {x : Str} {c : Value} {q : Pos} {Q : Value -> Shared -> Prop} {E : Value -> Shared -> Prop} (I : Inv X pins σ H s) (hc : Names X x c) (h : Q c s) : wpAny (model X.prog X.w) X.A (eval (.Name x q) X.env) Q E s := by
 obtain ⟨hg, hd, hm | ⟨hm, hv, hn⟩⟩ := hc
 · exact ld_glob I hg hm h hd
 · exact ld_blt I hg hm hv h hn hd
theorem qr9 (hs : X.stack = X.env :: X.outer) (hf : X.env.frame = some X.env.locals) (hN : X.N.Nodup) (hi : X.N[i]? = some n) (hln : X.env.kindOf n = some .local) (hc1 : Names X x1 c1) (hc2 : Names X x2 c2) (hst : backTo tp (starEach [.Name x1 q1, .Name x2 q2] X.env) = (false, eval (.Name x1 q1) X.env) :: backTo tp (starEach [.Name x2 q2] X.env)) (hst2 : starEach [.Name x2 q2] X.env = [(false, eval (.Name x2 q2) X.env)])
   (hb : ∀ (W : WX) (pn : List (Addr × Obj)) (xe : Value -> Shared -> Prop), Takes (X.tr pn xe) W -> PassesOwn (model X.prog X.w) X.A X.env xe -> PSs (X.tr pn xe) body (tb W))
   (hsu : ∀ (a : Addr) (oe : Obj) (cls : Value) (d : Option Addr) (pn : List (Addr × Obj)), Zc cls d oe -> (∃ vs, oe.data = .fields vs) -> PSs (X.suite a ((a, oe) :: pn)) (b₀ :: suite) (ts a cls d)) :
   PS X (.Try body [.ExceptHandler (some (.Tuple [.Name x1 q1, .Name x2 q2] kk tp)) (some n) (b₀ :: suite) pos'] [] [] pos) (λ D σ H => tb (wWhy X.K c1 c2 i ts D) D σ H) := by
 refine ⟨λ pins s σ H D I h => ?_⟩
 have ok := I.ok
 have hfr : X.A.frames = some (X.env :: X.outer) := by rw [ok.frames, hs]
 refine wpAny_Try_except (wpAny_mono ((hb (wWhy X.K c1 c2 i ts D) (X.pn ++ pins) (λ e u1 => wpAny (model X.prog X.w) X.A (noteFrame e X.env) (λ _ u2 => wpAny (model X.prog X.w) X.A (setFlight e none) (λ _ u3 =>
   wpAny (model X.prog X.w) X.A (handleBy e X.env [.ExceptHandler (some (.Tuple [.Name x1 q1, .Name x2 q2] kk tp)) (some n) (b₀ :: suite) pos']) (SP X pins D) X.xe u3) X.xe u2) X.xe u1) (λ u s' xx => ?_) PassesOwn.looking).run [] s σ H D (I.toTry _) h) (λ f s1 hsp => ?_) λ e s1 he => he)
 · obtain ⟨a, Bg, sI, pins', σ', H', cls, d, rfl, J', nb, up, sky, na, os, ag, hm, hyes⟩ := xx
   have J : Inv X pins σ' H' sI := J'.ofTry ok
   have sky1 : Sky Bg (X.env :: X.outer) a (Zc cls d) X.env.locals s'.heap := by rw [<- hs]; exact sky
   refine Sky.land Zc.steady hfr hf sky1 λ hA flA upA => ?_
   have JA := J.landed (s' := { s' with heap := hA }) nb flA.1 (up.trans upA) os ag
   obtain ⟨oA, vA, gA, zA, dA⟩ := flA.there
   have far : ∀ {hh : Heap} {oo : Obj} {vv : Array Value}, hh.FunFrames Bg (X.env :: X.outer) -> hh.get? a = some oo -> oo.data = .fields vv -> a ∉ frs (X.env :: X.outer) := λ {hh oo vv} ff e dd hmem => by
     obtain ⟨_, o2, e2, hno⟩ := ff.mem hmem
     rw [e] at e2
     cases e2
     exact hno _ dd
   have nfr := far flA.2.2.1 gA dA
   have nL : a ≠ X.env.locals := λ z => nfr (List.mem_filterMap.mpr ⟨X.env, List.mem_cons_self, by rw [hf, z]⟩)
   have nF : a ∉ X.fs := λ hmem => by
     obtain ⟨e, he, q⟩ := List.mem_filterMap.mp hmem
     exact nfr (List.mem_filterMap.mpr ⟨e, List.mem_cons_of_mem _ he, q⟩)
   have SA := JA.suite gA dA na nL nF
   refine wpAny_handleBy_cons (codeAny_handlers_test ?_) (by intro q; cases q)
   refine wpAny_Tuple_spliced ?_
   rw [hst, hst2]
   refine Calls.spliced_cons (qoY (X := X.suite a ((a, oA) :: (X.pn ++ pins))) SA hc1 ?_)
   refine Calls.spliced_cons (qoY (X := X.suite a ((a, oA) :: (X.pn ++ pins))) SA hc2 ?_)
   refine Calls.spliced_nil ⟨by show 2 <= sizeLine; decide, ?_⟩
   have flB := qr1 (o := ({ cls := .type "tuple", data := .seq [c1, c2].toArray } : Obj)) flA
   have upB : hA.UpToSlots (hA.push ({ cls := .type "tuple", data := .seq [c1, c2].toArray } : Obj)) := qCb
   have JB := J.landed (s' := { s' with heap := hA.push ({ cls := .type "tuple", data := .seq [c1, c2].toArray } : Obj) }) nb flB.1 ((up.trans upA).trans upB) os ag
   obtain ⟨oB, vB, gB, zB, dB⟩ := flB.there
   have LT : Looks (model X.prog X.w) (hA.push ({ cls := .type "tuple", data := .seq [c1, c2].toArray } : Obj)) (typeOf (.ref a)) cls := λ A Q E s k q => wpAny_typeOf_ref (k _ _ gB) (by rw [zB.1]; exact q)
   refine (exm_tup2 (M := model X.prog X.w) JB.kIn LT (Heap.get?_push_size _ rfl) hm).here ?_
   refine codeAny_handlers_suite_as ?_
   refine HandSPX.lands_againZ flB λ hC flC upC => ?_
   have JC := J.landed (s' := { s' with heap := hC }) nb flC.1 (((up.trans upA).trans upB).trans upC) os ag
   obtain ⟨oC, vC, gC, zC, dC⟩ := flC.there
   have SC := JC.suite gC dC na nL nF
   refine store_ok (X := X.suite a ((a, oC) :: (X.pn ++ pins))) (v := .ref a) SC hN hi (.inl hln) rfl (λ sD SD => ?_) (.inr hln)
   refine wpAny_mono ((hsu a oC cls d (X.pn ++ pins) zC ⟨_, dC⟩).run [] sD _ H' _ SD (hyes a na)) (λ f sE hsp => ?_) (λ _ _ z => False.elim z)
   have over : ∀ {σE : L2.St} {HE : Hp} {Q : Shared -> Prop}, Inv (X.suite a ((a, oC) :: (X.pn ++ pins))) [] σE HE sE -> (∀ sF, Inv X pins (σE.set i none) HE sF -> Q sF) ->
       wpAny (model X.prog X.w) X.A (do bindName X.env n .none; unbindBehindTheSuite X.env n pos') (λ _ sF => Q sF) X.xe sE := λ {σE HE Q} SE hq => gone_ok (SE.unsuite ok) hN hi hln hq
   cases f with
   | next =>
     obtain ⟨σE, HE, SE, qE⟩ := hsp
     exact over SE λ sF JF => ⟨_, _, JF, qE⟩
   | brk =>
     obtain ⟨σE, HE, SE, qE⟩ := hsp
     exact over SE λ sF JF => ⟨_, _, JF, qE⟩
   | cont =>
     obtain ⟨σE, HE, SE, qE⟩ := hsp
     exact over SE λ sF JF => ⟨_, _, JF, qE⟩
   | ret u =>
     obtain ⟨vE, σE, HE, SE, rE, qE⟩ := hsp
     exact over SE λ sF JF => ⟨_, _, _, JF, rE, qE⟩
 · cases f with
   | next =>
     obtain ⟨σ2, H2, J2, qq⟩ := hsp
     exact wpAny_execs_nil ⟨σ2, H2, J2.ofTry ok, qq⟩
   | brk =>
     obtain ⟨σ2, H2, J2, qq⟩ := hsp
     exact ⟨σ2, H2, J2.ofTry ok, qq⟩
   | cont =>
     obtain ⟨σ2, H2, J2, qq⟩ := hsp
     exact ⟨σ2, H2, J2.ofTry ok, qq⟩
   | ret u =>
     obtain ⟨v2, σ2, H2, J2, r2, qq⟩ := hsp
     exact ⟨v2, σ2, H2, J2.ofTry ok, r2, qq⟩
end
end ER
namespace ER
open PySem PySem.Calls PyProof.Rows L2 L2H
theorem qAx {H : Hp} {p : Addr} {o : HO} (h : H p = none) : Same H (upd H p o) := λ b x e => by
 rw [upd_ne (ne_of_none e h)]
 exact e
abbrev St := L2.St
theorem qmD {P : Program} {w : World} {K : PySem.W.Frag} {mg : Str -> Option Value} {base : Heap} {k : Nat} {f : Addr} {name qual : Str} {params : Arguments} {body : List Stmt} {scope : Scope} {dV kV doc pm cdv ct oc : Value} {an od : Option Addr}
   {osl : Array (Option Value)} {N ps : List Str} (lk : K.lookup f = some ⟨oc, od, .func (PySem.W.fnOf name qual params body scope dV kV doc pm an cdv ct), osl⟩) (hcd : PySem.W.codeIn K cdv qual = true) (S : FnScope N ps scope)
   {A : Around} {outer : List Env} {s : Shared} {H : Hp} {us : List Value} {vs : List V} {Q : VK} {p : Addr × Obj} (hr : RoomH (k + 1) A) (hpin : PinOk outer H s p) (e0 : Env0 P w K mg base A outer s H) (hb : BindsTo s (PySem.W.fnOf name qual params body scope dV kV doc pm an cdv ct) ⟨us, []⟩ (ps.zip us)) (r : Vals vs us) (hl : vs.length = ps.length)
   (hbody : RoomH k (A.deeper (envOfC qual scope s.heap.objs.size f cdv)) -> ∃ t, PSs (cxH C8.CX0 P w K mg base N qual scope f cdv A outer s H C8.E0 p) body t /\ t { nx := λ _ H' => Q .non H', rt := Q } (L2.start N vs) H) :
   codeAny (model P w) A (.call (.ref f) ⟨us, []⟩) (CR C8.CX0 outer P w H s Q C8.E0) s := by
 have KX : K.In s.heap := e0.mod.kin.keeps λ b o e => (e0.bs b o e).1
 have lim : s.heap.NoLimit := e0.mod.nolimit.keeps λ b o e => (e0.bs b o e).1
 refine codeAny_call_function hr.depth (KX _ _ lk) rfl S.co S.gen rfl (PySem.W.codeRec_of KX hcd) (hb _ _ _ _ ?_)
 refine wpAny_newFunctionEnv_cells S.kind (λ ⟨n, v⟩ hy => (S.par n (List.of_mem_zip hy).1).elim .inl λ q => .inr ⟨q, PySem.W.cellsFrom_some _ _ _ (.inl q)⟩) λ env he s1 x => ?_
 subst he
 refine ⟨lim.keeps x.toInCall.keep, codeAny_func ?_⟩
 obtain ⟨t, ht, hq⟩ := hbody (hr.deeper _)
 have I : Inv (cxH C8.CX0 P w K mg base N qual scope f cdv A outer s H C8.E0 p) [] (L2.start N vs) H s1 := inv_startH S hpin e0 hl r x
 refine wpAny_mono (ht.run [] s1 (L2.start N vs) H _ I hq) (λ fl s' hs => ?_) λ e s' hs => hs
 cases fl with
 | ret u =>
   obtain ⟨v, σ', H', J, rv, q⟩ := hs
   exact ⟨v, H', J.os, J.bare, J.base, J.hok, rv, q⟩
 | next =>
   obtain ⟨σ', H', J, q⟩ := hs
   exact ⟨V.non, H', J.os, J.bare, J.base, J.hok, rfl, q⟩
 | brk =>
   obtain ⟨_, _, _, q⟩ := hs
   exact q.elim
 | cont =>
   obtain ⟨_, _, _, q⟩ := hs
   exact q.elim
abbrev LR := Value -> Option Addr -> Hp -> VK -> Prop
structure HotF (P : Program) (w : World) (K : PySem.W.Frag) (mg : Str -> Option Value) (base : Heap) (x : Str) (k : Nat) (lr : LR) : Prop where
 ex : ∃ f : Addr, mg x = some (.ref f) /\ PySem.W.keepIn K (.ref f) = true /\ ∀ (A : Around) (outer : List Env) (s : Shared) (H : Hp) (Q : VK) (p : Addr × Obj) (cls : Value) (d : Option Addr), RoomH k A -> PinOk outer H s p -> Env0 P w K mg base A outer s H -> Zc cls d p.2 -> (∃ vs, p.2.data = .fields vs) -> lr cls d H Q ->
   codeAny (model P w) A (.call (.ref f) ⟨[.ref p.1], []⟩) (CR C8.CX0 outer P w H s Q C8.E0) s
section
variable {X : Cx} {k : Nat} {x y n : Str} {lr : LR} {p : Addr × Obj} {cls : Value} {d : Option Addr} {q q2 pos : Pos} {i : Nat} {e : Expr} {te : TE} {C : Addr}
theorem ql2 (F : HotF X.prog X.w X.K X.mg X.base x k lr) (hr : RoomH k X.A) (hp : p ∈ X.pn) (hz : Zc cls d p.2) (hf : ∃ vs, p.2.data = .fields vs) (hg : Gl X x) (hN : X.N[i]? = some y) (hv : Vis X.env.scope y) (hdb : (x == ("__debug__" : Str)) = false := by decide) (hd : (y == ("__debug__" : Str)) = false := by decide) (hcd : (y == ("__classdict__" : Str)) = false := by decide)
   (he : starEach [.Name y q2] X.env = (false, eval (.Name y q2) X.env) :: starEach [] X.env := by rfl) (hpl : (backTo pos (starEach [] X.env)).any (·.1) = false := by rfl) :
   PE X (.Call (.Name x q) [.Name y q2] [] pos) (λ σ H Q => σ[i]? = some (some (.ref p.1)) /\ lr cls d H Q) := by
 obtain ⟨f, hm, hk, run⟩ := F.ex
 refine ⟨λ pins s σ H Q I h => ?_⟩
 refine wpAny_Call_Name_kw (ld_glob I hg hm ?_ hdb)
 refine PySem.W.callWith_K (h₀ := X.base) I.ok.mod.kin hk (thn ((pa_cons (pe_var (pos := q2) (i := i) hN hv hd hcd) pa_nil he).run pos pins s σ H (λ vs H1 => vs = [.ref p.1] /\ H1 = H) I ⟨.ref p.1, h.1, rfl, rfl⟩) λ us s1 ⟨vs, H1, I1, r1, e1, e2⟩ => ⟨I1.kIn, ?_⟩) he hpl
 subst e1 e2
 obtain ⟨u, rfl, ra⟩ : ∃ u, us = [u] /\ RelV (.ref p.1) u := by
   cases r1 with
   | cons ra rb =>
     cases rb
     exact ⟨_, rfl, ra⟩
 obtain rfl : u = Value.ref p.1 := ra
 have P1 := I1.pin p (List.mem_append_left _ hp)
 refine wpAny_call (codeAny_mono (run X.A X.stack s1 H1 Q p cls d hr ⟨P1.1, P1.2.1, λ hm => (List.mem_cons.mp (I1.stkSub p.1 hm)).elim P1.2.2.1 P1.2.2.2.1, P1.2.2.2.2⟩ I1.env0 hz hf h.2) λ r s' hq => ?_)
 cases r with
 | error e => exact (show False from hq).elim
 | ok fl =>
   cases fl with
   | ret u => exact I1.after hq
   | next => exact False.elim hq
   | brk => exact False.elim hq
   | cont => exact False.elim hq
theorem qep (hp : p ∈ X.pn) (T : XfC X.K C) (hno : PySem.W.findIn X.K (.ref C) n = some none) (hz : Zc (.ref C) d p.2) (hf : ∃ vs, p.2.data = .fields vs) (he : PE X e te) (hb : attributeBase e n X.env (eval e X.env) = eval e X.env := by rfl) : PE X (.Attribute e n pos) (tXf p.1 (.ref C) d C n te) := by
 refine ⟨λ pins s σ H Q I h => attr_of hb (thn (he.run pins s σ H _ I h) λ u s1 hh => ?_)⟩
 obtain ⟨z, H1, I1, rz, e1, _, dd, fs, v, e2, ea, l, q⟩ := hh
 subst e1 e2
 obtain rfl : u = Value.ref p.1 := rz
 obtain ⟨ha, _⟩ := I1.pin p (List.mem_append_left _ hp)
 obtain ⟨vs, hd⟩ := hf
 have hx : ObjOk X.prog X.w H1 s1.heap dd (.xd fs) := I1.hok dd _ ea
 obtain ⟨mA, hns, hr⟩ := hx
 obtain ⟨od, ho, hl⟩ := lookIn_ns hns
 obtain ⟨u, hu, ru⟩ := RelO.some_of (v := v) (o := mA n) (by rw [<- l]; exact hr n)
 exact HandSPX.exc_get I1.kIn (ox := p.2) (od := some od) ⟨ha, hz.1, by unfold PySem.W.notCls; rw [hd] <;> rfl, by rw [hz.2]; exact ho⟩ T.ga T.gg T.exC (PySem.W.findObj_own T.hdC hno rfl (by rw [hl, hu])) (handed_of ru) ⟨v, H1, I1.tok _, ru, q⟩
end
def NoF (K : PySem.W.Frag) (C : Addr) (fs : List (Str × V)) : Prop := ∀ f v, fs.lookup f = some v -> PySem.W.findIn K (.ref C) f = some none
def one (fs : List (Str × V)) (f : Str) (H : Hp) (Q : VK) : Prop := ∃ v, fs.lookup f = some v /\ ∀ H1, Same H H1 -> Q v H1
def qcC (code : Str) (fs : List (Str × V)) (H : Hp) (Q : VK) : Prop :=
 if code = "InvalidDrawing" then one fs ("name" : Str) H Q else if code = "NothingLeft" then one fs ("deed" : Str) H Q else if code = "Unsuited" then (∀ H1, Same H H1 -> Q .non H1) else one fs ("value" : Str) H Q
def FieldV (code : Str) (fs : List (Str × V)) (H : Hp) (Q : VK) : Prop :=
 if code = "TooLarge" then (∃ a b c, fs.lookup ("what" : Str) = some a /\ fs.lookup ("value" : Str) = some b /\ fs.lookup ("limit" : Str) = some c /\ ∀ H1 p, Same H H1 -> H1 p = none -> Q (.ref p) (upd H1 p (.tup [a, b, c])))
 else if code = "InvalidFact" ∨ code = "UnknownRow" then one fs ("index" : Str) H Q
 else if code = "InvalidText" then (∃ a b, fs.lookup ("line" : Str) = some a /\ fs.lookup ("reason" : Str) = some b /\ ∀ H1 p, Same H H1 -> H1 p = none -> Q (.ref p) (upd H1 p (.tup [a, b])))
 else qcC code fs H Q
def lrOf (K : PySem.W.Frag) (r : Str -> List (Str × V) -> Hp -> VK -> Prop) : LR := λ cls d H Q => ∃ (C dd : Addr) (fs : List (Str × V)) (code : Str), cls = .ref C /\ d = some dd /\ XfC K C /\ NoF K C fs /\ H dd = some (.xd fs) /\ fs.lookup ("code" : Str) = some (.str code) /\ r code fs H Q
section
variable {P : Program} {w : World} {K : PySem.W.Frag} {mg : Str -> Option Value} {base : Heap} {X : Cx} {p : Addr × Obj} {C dd : Addr} {fs : List (Str × V)} {a : Str} {i : Nat}
theorem qea {σ : St} {H : Hp} {Q : VK} {f : Str} {v : V} (h0 : σ[i]? = some (some (.ref p.1))) (hd : H dd = some (.xd fs)) (hl : fs.lookup f = some v) (q : Q v H) : tXf p.1 (.ref C) (some dd) C f (tVar i) σ H Q :=
 ⟨.ref p.1, h0, rfl, rfl, dd, fs, v, rfl, hd, hl, q⟩
theorem qt2 (x a b : Str) : inV (.str x) [.str a, .str b] = decide (x = a ∨ x = b) := by
 have e : ∀ y : Str, eqV (.str y) (.str x) = decide (x = y) := λ y => by
   by_cases h : x = y
   · subst h
     simp [eqV]
   · have h2 : ¬ y = x := λ z => h z.symm
     simp [eqV, h, h2]
 show (eqV (.str a) (.str x) || (eqV (.str b) (.str x) || false)) = _
 rw [e, e, Bool.or_false]
 by_cases h1 : x = a <;> by_cases h2 : x = b <;> simp [h1, h2]
theorem qkz {e : Expr} : PE X e λ _ _ _ => False := ⟨λ _ _ _ _ _ _ h => h.elim⟩
theorem qmk {code c : Str} {p1 p2 p3 p4 : Pos} {j : Nat} (hp : p ∈ X.pn) (T : XfC X.K C) (nf : NoF X.K C fs) (hz : Zc (.ref C) (some dd) p.2) (hf : ∃ vs, p.2.data = .fields vs) (hc : fs.lookup ("code" : Str) = some (.str code)) (hN : X.N[i]? = some a) (hv : Vis X.env.scope a) (hd : (a == ("__debug__" : Str)) = false) (hcd : (a == ("__classdict__" : Str)) = false) :
   PT X (.Compare (.Attribute (.Name a p1) "code" p2) [.Eq] [.Constant (.str c) j p3] p4) (λ σ H Q => σ[i]? = some (some (.ref p.1)) /\ H dd = some (.xd fs) /\ Q (decide (code = c)) H) :=
 ⟨λ pins s σ H Q I h => by
   refine (pt_cmpR op_eq (qep hp T (nf _ _ hc) hz hf (pe_var (i := i) hN hv hd hcd)) pe_str (nomark _)).run pins s σ H Q I ?_
   have e : decide (V.str code = V.str c) = decide (code = c) := by rw [Bool.eq_iff_iff]; simp
   exact qea (Q := λ x H1 => tC (.str c) σ H1 λ y H2 => rEq x y H2 λ x H' => ∃ k, x = .bl k /\ Q k H') h.1 h.2.1 hc ⟨rfl, _, rfl, by rw [e]; exact h.2.2⟩⟩
theorem qts {code k1 k2 : Str} {p1 p2 p3 p4 p5 p6 : Pos} {j1 j2 kk : Nat} (hp : p ∈ X.pn) (T : XfC X.K C) (nf : NoF X.K C fs) (hz : Zc (.ref C) (some dd) p.2) (hf : ∃ vs, p.2.data = .fields vs) (hc : fs.lookup ("code" : Str) = some (.str code)) (hN : X.N[i]? = some a) (hv : Vis X.env.scope a) (hd : (a == ("__debug__" : Str)) = false) (hcd : (a == ("__classdict__" : Str)) = false)
   (h1 : starEach [.Constant (.str k1) j1 p3, .Constant (.str k2) j2 p4] X.env = (false, eval (.Constant (.str k1) j1 p3) X.env) :: starEach [.Constant (.str k2) j2 p4] X.env) (h2 : starEach [.Constant (.str k2) j2 p4] X.env = (false, eval (.Constant (.str k2) j2 p4) X.env) :: starEach [] X.env)
   (hm : behindInMarks .In (.Tuple [.Constant (.str k1) j1 p3, .Constant (.str k2) j2 p4] kk p5) = false) :
   PT X (.Compare (.Attribute (.Name a p1) "code" p2) [.In] [.Tuple [.Constant (.str k1) j1 p3, .Constant (.str k2) j2 p4] kk p5] p6) (λ σ H Q => σ[i]? = some (some (.ref p.1)) /\ H dd = some (.xd fs) /\ ∀ H1, Same H H1 -> Q (decide (code = k1 ∨ code = k2)) H1) :=
 ⟨λ pins s σ H Q I h => by
   refine (pt_cmpR op_in_seq (qep hp T (nf _ _ hc) hz hf (pe_var (i := i) hN hv hd hcd)) (pe_tup (pa_cons pe_str (pa_cons pe_str pa_nil h2) h1)) hm).run pins s σ H Q I ?_
   refine qea (Q := λ x H1 => tTup (tCons (tC (.str k1)) (tCons (tC (.str k2)) tNil)) σ H1 λ y H2 => rIn X.K false x y H2 λ x H' => ∃ k, x = .bl k /\ Q k H') h.1 h.2.1 hc ?_
   refine ⟨by show 2 <= sizeLine; decide, λ t ht => ⟨t, [.str k1, .str k2], rfl, .inr (.inl (.inl upd_same)), rfl, rfl, _, rfl, ?_⟩⟩
   show Q (inV (.str code) [.str k1, .str k2]) _
   rw [qt2]
   exact h.2.2 _ (qAx ht)⟩
theorem qsf {k : Nat} {g0 : Addr} {cdv oc kV dV doc pm ct : Value} {an od : Option Addr} {osl : Array (Option Value)} {params : Arguments} {scope : Scope} {N : List Str} {nm qn : Str} {p1 p2 p3 p4 p5 p6 p7 p8 q1 q2 q3 q4 q5 q6 q7 q8 r1 r2 r3 r4 r5 r6 r7 r8 r9 : Pos} {j1 j2 j3 j4 : Nat}
   (lk : K.lookup g0 = some ⟨oc, od, .func (PySem.W.fnOf nm qn params
     [.If (.Compare (.Attribute (.Name a p1) "code" p2) [.Eq] [.Constant (.str "InvalidDrawing") j1 p3] p4) [.Return (some (.Attribute (.Name a p5) "name" p6)) p7] [] p8,
      .If (.Compare (.Attribute (.Name a q1) "code" q2) [.Eq] [.Constant (.str "NothingLeft") j2 q3] q4) [.Return (some (.Attribute (.Name a q5) "deed" q6)) q7] [] q8,
      .Return (some (.IfExp (.Compare (.Attribute (.Name a r1) "code" r2) [.Eq] [.Constant (.str "Unsuited") j3 r3] r4) (.Constant .none j4 r5) (.Attribute (.Name a r6) "value" r7) r8)) r9]
     scope dV kV doc pm an cdv ct), osl⟩) (hm : mg "_law_other_field" = some (.ref g0)) (hk : PySem.W.keepIn K (.ref g0) = true) (hcd : PySem.W.codeIn K cdv qn = true) (S : FnScope N [a] scope) (hN : N[0]? = some a) (hv : Vis scope a)
   (hb : ∀ (s : Shared) (v : Value), BindsTo s (PySem.W.fnOf nm qn params
     [.If (.Compare (.Attribute (.Name a p1) "code" p2) [.Eq] [.Constant (.str "InvalidDrawing") j1 p3] p4) [.Return (some (.Attribute (.Name a p5) "name" p6)) p7] [] p8,
      .If (.Compare (.Attribute (.Name a q1) "code" q2) [.Eq] [.Constant (.str "NothingLeft") j2 q3] q4) [.Return (some (.Attribute (.Name a q5) "deed" q6)) q7] [] q8,
      .Return (some (.IfExp (.Compare (.Attribute (.Name a r1) "code" r2) [.Eq] [.Constant (.str "Unsuited") j3 r3] r4) (.Constant .none j4 r5) (.Attribute (.Name a r6) "value" r7) r8)) r9]
     scope dV kV doc pm an cdv ct) ⟨[v], []⟩ [(a, v)]) (hd : (a == ("__debug__" : Str)) = false) (hcd2 : (a == ("__classdict__" : Str)) = false) : HotF P w K mg base "_law_other_field" (k + 1) (lrOf K qcC) := by
 refine ⟨g0, hm, hk, λ A outer s H Q p cls d hr hpin e0 hz hf h => ?_⟩
 obtain ⟨C, dd, fs, code, rfl, rfl, T, nf, hx, hc, h⟩ := h
 refine qmD (N := N) (ps := [a]) (us := [.ref p.1]) (vs := [.ref p.1]) lk hcd S hr hpin e0 (hb s _) (.cons rfl .nil) rfl λ hr' => ?_
 have s0 : (L2.start N [V.ref p.1])[0]? = some (some (.ref p.1)) := DL.qce rfl
 have xf : ∀ {f : Str} {v : V} {b1 b2 : Pos}, fs.lookup f = some v -> PE (cxH C8.CX0 P w K mg base N qn scope g0 cdv A outer s H C8.E0 p) (.Attribute (.Name a b1) f b2) (tXf p.1 (.ref C) (some dd) C f (tVar 0)) := λ {f v b1 b2} hl => qep (List.mem_singleton.mpr rfl) T (nf _ _ hl) hz hf (pe_var (i := 0) hN hv hd hcd2)
 have ct : ∀ {c : Str} {b1 b2 b3 b4 : Pos} {j : Nat}, PT (cxH C8.CX0 P w K mg base N qn scope g0 cdv A outer s H C8.E0 p) (.Compare (.Attribute (.Name a b1) "code" b2) [.Eq] [.Constant (.str c) j b3] b4) (λ σ H Q => σ[0]? = some (some (.ref p.1)) /\ H dd = some (.xd fs) /\ Q (decide (code = c)) H) := λ {c b1 b2 b3 b4 j} => qmk (List.mem_singleton.mpr rfl) T nf hz hf hc hN hv hd hcd2
 have rd : ∀ {f : Str} {v : V} {H1 : Hp}, fs.lookup f = some v -> H1 dd = some (.xd fs) -> Q v H1 -> tXf p.1 (.ref C) (some dd) C f (tVar 0) (L2.start N [V.ref p.1]) H1 Q := λ {f v H1} hl hd q => qea s0 hd hl q
 unfold qcC at h
 by_cases c1 : code = "InvalidDrawing"
 · rw [if_pos c1] at h
   obtain ⟨v, hl, q⟩ := h
   refine ⟨_, pss_cons (ps_if ct (pss_one (ps_ret (xf hl))) pss_nil) pss_never, s0, hx, ?_⟩
   rw [decide_eq_true c1]
   exact rd hl hx (q H (.refl _))
 · rw [if_neg c1] at h
   by_cases c2 : code = "NothingLeft"
   · rw [if_pos c2] at h
     obtain ⟨v, hl, q⟩ := h
     refine ⟨_, pss_cons (ps_if ct pss_never pss_nil) (pss_cons (ps_if ct (pss_one (ps_ret (xf hl))) pss_nil) pss_never), s0, hx, ?_⟩
     rw [decide_eq_false c1]
     refine ⟨s0, hx, ?_⟩
     rw [decide_eq_true c2]
     exact rd hl hx (q H (.refl _))
   · rw [if_neg c2] at h
     by_cases c3 : code = "Unsuited"
     · rw [if_pos c3] at h
       refine ⟨_, pss_cons (ps_if ct pss_never pss_nil) (pss_cons (ps_if ct pss_never pss_nil) (pss_one (ps_ret (pe_ifExp ct pe_non qkz)))), s0, hx, ?_⟩
       rw [decide_eq_false c1]
       refine ⟨s0, hx, ?_⟩
       rw [decide_eq_false c2]
       refine ⟨s0, hx, ?_⟩
       rw [decide_eq_true c3]
       exact h H (.refl _)
     · rw [if_neg c3] at h
       obtain ⟨v, hl, q⟩ := h
       refine ⟨_, pss_cons (ps_if ct pss_never pss_nil) (pss_cons (ps_if ct pss_never pss_nil) (pss_one (ps_ret (pe_ifExp ct qkz (xf hl))))), s0, hx, ?_⟩
       rw [decide_eq_false c1]
       refine ⟨s0, hx, ?_⟩
       rw [decide_eq_false c2]
       refine ⟨s0, hx, ?_⟩
       rw [decide_eq_false c3]
       exact rd hl hx (q H (.refl _))
theorem qyd {k : Nat} {g0 : Addr} {cdv oc kV dV doc pm ct : Value} {an od : Option Addr} {osl : Array (Option Value)} {params : Arguments} {scope : Scope} {N : List Str} {nm qn : Str} {body : List Stmt} {p0 p1 p2 p3 p4 p5 p6 p7 p8 p9 t1 t2 t3 t4 t5 q1 q2 q3 q4 q5 q6 q7 q8 q9 r1 r2 r3 r4 r5 r6 r7 r8 r9 u1 u2 u3 u4 u5 : Pos} {j1 j2 j3 j4 k1 k2 k3 : Nat}
   (lk : K.lookup g0 = some ⟨oc, od, .func (PySem.W.fnOf nm qn params body scope dV kV doc pm an cdv ct), osl⟩)
   (hbd : body = [.If (.Compare (.Attribute (.Name a p1) "code" p2) [.Eq] [.Constant (.str "TooLarge") j1 p3] p4) [.Return (some (.Tuple [.Attribute (.Name a p5) "what" p6, .Attribute (.Name a t1) "value" t2, .Attribute (.Name a t3) "limit" t4] k1 t5)) p7] [] p8,
      .If (.Compare (.Attribute (.Name a q1) "code" q2) [.In] [.Tuple [.Constant (.str "InvalidFact") j2 q3, .Constant (.str "UnknownRow") j3 q4] k2 q5] q9) [.Return (some (.Attribute (.Name a q6) "index" q7)) q8] [] p9,
      .If (.Compare (.Attribute (.Name a r1) "code" r2) [.Eq] [.Constant (.str "InvalidText") j4 r3] r4) [.Return (some (.Tuple [.Attribute (.Name a r5) "line" r6, .Attribute (.Name a r7) "reason" r8] k3 r9)) u1] [] u2,
      .Return (some (.Call (.Name "_law_other_field" u3) [.Name a u4] [] u5)) p0])
   (FO : HotF P w K mg base "_law_other_field" k (lrOf K qcC)) (hgo : scope.names.lookup ("_law_other_field" : Str) = some .globalImplicit)
   (hm : mg "_law_field" = some (.ref g0)) (hk : PySem.W.keepIn K (.ref g0) = true) (hcd : PySem.W.codeIn K cdv qn = true) (S : FnScope N [a] scope) (hN : N[0]? = some a) (hv : Vis scope a)
   (hst : ∀ (es : List Expr) (e : Expr) (env : Env), (e = .Attribute (.Name a p5) "what" p6 ∨ e = .Attribute (.Name a t1) "value" t2 ∨ e = .Attribute (.Name a t3) "limit" t4 ∨ e = .Attribute (.Name a r5) "line" r6 ∨ e = .Attribute (.Name a r7) "reason" r8 ∨ e = .Constant (.str "InvalidFact") j2 q3 ∨ e = .Constant (.str "UnknownRow") j3 q4) -> starEach (e :: es) env = (false, eval e env) :: starEach es env)
   (hmk : behindInMarks .In (.Tuple [.Constant (.str "InvalidFact") j2 q3, .Constant (.str "UnknownRow") j3 q4] k2 q5) = false)
   (hb : ∀ (s : Shared) (v : Value), BindsTo s (PySem.W.fnOf nm qn params body scope dV kV doc pm an cdv ct) ⟨[v], []⟩ [(a, v)]) (hd : (a == ("__debug__" : Str)) = false) (hcd2 : (a == ("__classdict__" : Str)) = false) : HotF P w K mg base "_law_field" (k + 1) (lrOf K FieldV) := by
 subst hbd
 refine ⟨g0, hm, hk, λ A outer s H Q p cls d hr hpin e0 hz hf h => ?_⟩
 obtain ⟨C, dd, fs, code, rfl, rfl, T, nf, hx, hc, h⟩ := h
 refine qmD (N := N) (ps := [a]) (us := [.ref p.1]) (vs := [.ref p.1]) lk hcd S hr hpin e0 (hb s _) (.cons rfl .nil) rfl λ hr' => ?_
 have s0 : (L2.start N [V.ref p.1])[0]? = some (some (.ref p.1)) := DL.qce rfl
 have xf : ∀ {f : Str} {v : V} {b1 b2 : Pos}, fs.lookup f = some v -> PE (cxH C8.CX0 P w K mg base N qn scope g0 cdv A outer s H C8.E0 p) (.Attribute (.Name a b1) f b2) (tXf p.1 (.ref C) (some dd) C f (tVar 0)) := λ {f v b1 b2} hl => qep (List.mem_singleton.mpr rfl) T (nf _ _ hl) hz hf (pe_var (i := 0) hN hv hd hcd2)
 have ct : ∀ {c : Str} {b1 b2 b3 b4 : Pos} {j : Nat}, PT (cxH C8.CX0 P w K mg base N qn scope g0 cdv A outer s H C8.E0 p) (.Compare (.Attribute (.Name a b1) "code" b2) [.Eq] [.Constant (.str c) j b3] b4) (λ σ H Q => σ[0]? = some (some (.ref p.1)) /\ H dd = some (.xd fs) /\ Q (decide (code = c)) H) := λ {c b1 b2 b3 b4 j} => qmk (List.mem_singleton.mpr rfl) T nf hz hf hc hN hv hd hcd2
 have ci := qts (X := cxH C8.CX0 P w K mg base N qn scope g0 cdv A outer s H C8.E0 p) (p1 := q1) (p2 := q2) (p6 := q9) (List.mem_singleton.mpr rfl) T nf hz hf hc hN hv hd hcd2 (hst _ _ _ (by simp)) (hst _ _ _ (by simp)) hmk
 have rd : ∀ {f : Str} {v : V} {H1 : Hp} {Q : VK}, fs.lookup f = some v -> H1 dd = some (.xd fs) -> Q v H1 -> tXf p.1 (.ref C) (some dd) C f (tVar 0) (L2.start N [V.ref p.1]) H1 Q := λ {f v H1 Q} hl hd q => qea s0 hd hl q
 unfold FieldV at h
 by_cases c1 : code = "TooLarge"
 · rw [if_pos c1] at h
   obtain ⟨va, vb, vc, la, lb, lc, q⟩ := h
   refine ⟨_, pss_cons (ps_if ct (pss_one (ps_ret (pe_tup (pa_cons (xf la) (pa_cons (xf lb) (pa_cons (xf lc) pa_nil (hst _ _ _ (by simp))) (hst _ _ _ (by simp))) (hst _ _ _ (by simp)))))) pss_nil) pss_never, s0, hx, ?_⟩
   rw [decide_eq_true c1]
   exact rd (Q := λ x H1 => tXf p.1 (.ref C) (some dd) C "value" (tVar 0) (L2.start N [V.ref p.1]) H1 λ y H2 => tXf p.1 (.ref C) (some dd) C "limit" (tVar 0) (L2.start N [V.ref p.1]) H2 λ z H3 => [x, y, z].length <= sizeLine /\ ∀ t, H3 t = none -> Q (.ref t) (upd H3 t (.tup [x, y, z]))) la hx
     (rd (Q := λ y H2 => tXf p.1 (.ref C) (some dd) C "limit" (tVar 0) (L2.start N [V.ref p.1]) H2 λ z H3 => [va, y, z].length <= sizeLine /\ ∀ t, H3 t = none -> Q (.ref t) (upd H3 t (.tup [va, y, z]))) lb hx
       (rd (Q := λ z H3 => [va, vb, z].length <= sizeLine /\ ∀ t, H3 t = none -> Q (.ref t) (upd H3 t (.tup [va, vb, z]))) lc hx ⟨by show 3 <= sizeLine; decide, λ t ht => q H t (.refl _) ht⟩))
 · rw [if_neg c1] at h
   by_cases c2 : code = "InvalidFact" ∨ code = "UnknownRow"
   · rw [if_pos c2] at h
     obtain ⟨v, hl, q⟩ := h
     refine ⟨_, pss_cons (ps_if ct pss_never pss_nil) (pss_cons (ps_if ci (pss_one (ps_ret (xf hl))) pss_nil) pss_never), s0, hx, ?_⟩
     rw [decide_eq_false c1]
     refine ⟨s0, hx, λ H1 sm => ?_⟩
     rw [decide_eq_true c2]
     exact rd hl (sm _ _ hx) (q H1 sm)
   · rw [if_neg c2] at h
     by_cases c3 : code = "InvalidText"
     · rw [if_pos c3] at h
       obtain ⟨va, vb, la, lb, q⟩ := h
       refine ⟨_, pss_cons (ps_if ct pss_never pss_nil) (pss_cons (ps_if ci pss_never pss_nil) (pss_cons (ps_if ct (pss_one (ps_ret (pe_tup (pa_cons (xf la) (pa_cons (xf lb) pa_nil (hst _ _ _ (by simp))) (hst _ _ _ (by simp)))))) pss_nil) pss_never)), s0, hx, ?_⟩
       rw [decide_eq_false c1]
       refine ⟨s0, hx, λ H1 sm => ?_⟩
       rw [decide_eq_false c2]
       refine ⟨s0, sm _ _ hx, ?_⟩
       rw [decide_eq_true c3]
       exact rd (Q := λ x H2 => tXf p.1 (.ref C) (some dd) C "reason" (tVar 0) (L2.start N [V.ref p.1]) H2 λ y H3 => [x, y].length <= sizeLine /\ ∀ t, H3 t = none -> Q (.ref t) (upd H3 t (.tup [x, y]))) la (sm _ _ hx)
         (rd (Q := λ y H3 => [va, y].length <= sizeLine /\ ∀ t, H3 t = none -> Q (.ref t) (upd H3 t (.tup [va, y]))) lb (sm _ _ hx) ⟨by show 2 <= sizeLine; decide, λ t ht => q H1 t sm ht⟩)
     · rw [if_neg c3] at h
       refine ⟨_, pss_cons (ps_if ct pss_never pss_nil) (pss_cons (ps_if ci pss_never pss_nil) (pss_cons (ps_if ct pss_never pss_nil) (pss_one (ps_ret (ql2 FO hr' (List.mem_singleton.mpr rfl) hz hf hgo hN hv (by decide) hd hcd2))))), s0, hx, ?_⟩
       rw [decide_eq_false c1]
       refine ⟨s0, hx, λ H1 sm => ?_⟩
       rw [decide_eq_false c2]
       refine ⟨s0, sm _ _ hx, ?_⟩
       rw [decide_eq_false c3]
       refine ⟨s0, C, dd, fs, code, rfl, rfl, T, nf, sm _ _ hx, hc, ?_⟩
       unfold qcC one at h ⊢
       by_cases d1 : code = "InvalidDrawing"
       · rw [if_pos d1] at h ⊢
         obtain ⟨v, hl, q⟩ := h
         exact ⟨v, hl, λ H2 s2 => q H2 (sm.trans s2)⟩
       · rw [if_neg d1] at h ⊢
         by_cases d2 : code = "NothingLeft"
         · rw [if_pos d2] at h ⊢
           obtain ⟨v, hl, q⟩ := h
           exact ⟨v, hl, λ H2 s2 => q H2 (sm.trans s2)⟩
         · rw [if_neg d2] at h ⊢
           by_cases d3 : code = "Unsuited"
           · rw [if_pos d3] at h ⊢
             exact λ H2 s2 => h H2 (sm.trans s2)
           · rw [if_neg d3] at h ⊢
             obtain ⟨v, hl, q⟩ := h
             exact ⟨v, hl, λ H2 s2 => q H2 (sm.trans s2)⟩
end
end ER
namespace ER
open PySem PySem.Calls PyProof.Rows L2 L2H LamX
def EWhy (K : PySem.W.Frag) (CE AB : Addr) (Q : VK) : XK := λ cls d H' => ∃ (C dd : Addr) (fs : List (Str × V)) (code : Str), cls = .ref C /\ d = some dd /\ XfC K C /\ NoF K C fs /\ H' dd = some (.xd fs) /\ fs.lookup ("code" : Str) = some (.str code) /\ PySem.W.exmAny K (.ref C) [.ref CE, .ref AB] = some true /\
 FieldV code fs H' λ v H2 => ∀ t, H2 t = none -> Q (.ref t) (upd H2 t (.tup [.str code, v]))
def qet (K : PySem.W.Frag) (CE AB : Addr) : (XK -> Hp -> VK -> Prop) -> Hp -> VK -> Prop := λ tl H Q => tl (EWhy K CE AB Q) H λ v H' => [V.str "value", v].length <= sizeLine /\ ∀ t, H' t = none -> Q (.ref t) (upd H' t (.tup [.str "value", v]))
theorem FieldV.imp {code : Str} {fs : List (Str × V)} {H : Hp} {Q Q' : VK} (h : FieldV code fs H Q) (k : ∀ v H', Q v H' -> Q' v H') : FieldV code fs H Q' := by
 unfold FieldV qcC one at h ⊢
 split at h
 · obtain ⟨a, b, c, h1, h2, h3, h4⟩ := h
   rename_i z
   rw [if_pos z]
   exact ⟨a, b, c, h1, h2, h3, λ H1 p s n => k _ _ (h4 H1 p s n)⟩
 · rename_i z
   rw [if_neg z]
   split at h
   · rename_i z
     rw [if_pos z]
     obtain ⟨v, h1, h2⟩ := h
     exact ⟨v, h1, λ H1 s => k _ _ (h2 H1 s)⟩
   · rename_i z
     rw [if_neg z]
     split at h
     · obtain ⟨a, b, h1, h2, h4⟩ := h
       rename_i z
       rw [if_pos z]
       exact ⟨a, b, h1, h2, λ H1 p s n => k _ _ (h4 H1 p s n)⟩
     · rename_i z
       rw [if_neg z]
       split at h
       · rename_i z
         rw [if_pos z]
         obtain ⟨v, h1, h2⟩ := h
         exact ⟨v, h1, λ H1 s => k _ _ (h2 H1 s)⟩
       · rename_i z
         rw [if_neg z]
         split at h
         · rename_i z
           rw [if_pos z]
           obtain ⟨v, h1, h2⟩ := h
           exact ⟨v, h1, λ H1 s => k _ _ (h2 H1 s)⟩
         · rename_i z
           rw [if_neg z]
           split at h
           · rename_i z
             rw [if_pos z]
             exact λ H1 s => k _ _ (h H1 s)
           · rename_i z
             rw [if_neg z]
             obtain ⟨v, h1, h2⟩ := h
             exact ⟨v, h1, λ H1 s => k _ _ (h2 H1 s)⟩
theorem roomH_mark {k : Nat} {A : Around} {v : Option Value} (r : RoomH k A) : RoomH k (A.mark v) := ⟨r.dp, r.un⟩
section
variable {X : Cx}
theorem qsx {Ng : List Str} {a e q : Str} {sg : Scope} {g CE AB : Addr} {cdg : Value} {k j k1 k2 k3 : Nat} {bg : List Stmt} {b1 b2 b3 p1 p2 q1 q2 tp r1 r2 r3 r4 r5 r6 r7 pos pos' : Pos}
   (hbg : bg = [.Try [.Return (some (.Tuple [.Constant (.str "value") j b1, .Call (.Name a p1) [] [] p2] k1 b2)) b3] [.ExceptHandler (some (.Tuple [.Name "CurveError" q1, .Name "Absent" q2] k2 tp)) (some e) [.Return (some (.Tuple [.Attribute (.Name e r1) "code" r2, .Call (.Name "_law_field" r3) [.Name e r4] [] r5] k3 r6)) r7] pos'] [] [] pos])
   (hce : sg.names.lookup ("CurveError" : Str) = some .globalImplicit) (hab : sg.names.lookup ("Absent" : Str) = some .globalImplicit) (hgf : sg.names.lookup ("_law_field" : Str) = some .globalImplicit) (mce : X.mg "CurveError" = some (.ref CE)) (mab : X.mg "Absent" = some (.ref AB)) (hN : Ng.Nodup) (he : Ng[1]? = some e) (hle : sg.names.lookup e = some .local)
   (FO : HotF X.prog X.w X.K X.mg X.base "_law_field" k (lrOf X.K FieldV)) (hr : Room (k + 1) X.A) (hed : (e == ("__debug__" : Str)) = false) (hec : (e == ("__classdict__" : Str)) = false)
   (s1 : ∀ env : Env, starEach [.Constant (.str "value") j b1, .Call (.Name a p1) [] [] p2] env = (false, eval (.Constant (.str "value") j b1) env) :: starEach [.Call (.Name a p1) [] [] p2] env) (s2 : ∀ env : Env, starEach [.Call (.Name a p1) [] [] p2] env = (false, eval (.Call (.Name a p1) [] [] p2) env) :: starEach [] env)
   (s3 : ∀ env : Env, starEach [.Attribute (.Name e r1) "code" r2, .Call (.Name "_law_field" r3) [.Name e r4] [] r5] env = (false, eval (.Attribute (.Name e r1) "code" r2) env) :: starEach [.Call (.Name "_law_field" r3) [.Name e r4] [] r5] env) (s4 : ∀ env : Env, starEach [.Call (.Name "_law_field" r3) [.Name e r4] [] r5] env = (false, eval (.Call (.Name "_law_field" r3) [.Name e r4] [] r5) env) :: starEach [] env)
   (s5 : ∀ env : Env, backTo tp (starEach [.Name "CurveError" q1, .Name "Absent" q2] env) = (false, eval (.Name "CurveError" q1) env) :: backTo tp (starEach [.Name "Absent" q2] env)) (s6 : ∀ env : Env, starEach [.Name "Absent" q2] env = [(false, eval (.Name "Absent" q2) env)]) :
   GivesTo X Ng "_law_why" sg g cdg bg a q (qet X.K CE AB) := by
 subst hbg
 intro f c' s H Q tl act hc h
 have hr' : Room k (X.A.deeper (envOfC "_law_why" sg s.heap.objs.size g cdg)) := hr.deeper _
 refine ⟨_, pss_one (qr9 (X := (cxOf C8.CX0 X.prog X.w X.K X.mg X.base Ng "_law_why" sg g cdg X.A X.stack s H C8.E0).nox) (c1 := .ref CE) (c2 := .ref AB) (i := 1)
     (tb := λ W D σ H => ∃ Ech : XK, (∀ cls d σ' H', Ech cls d H' -> W cls d σ' H') /\ σ[0]? = some (some (.ref f)) /\ H c' = some (CodeO c' q) /\ tl Ech H λ v H' => [V.str "value", v].length <= sizeLine /\ ∀ t, H' t = none -> D.rt (.ref t) (upd H' t (.tup [.str "value", v])))
     (ts := λ a cls d D σ H => (∃ σ0 : St, σ = σ0.set 1 (some (.ref a))) /\ lrOf X.K (λ code fs H Q => FieldV code fs H λ v H2 => ∀ t, H2 t = none -> Q (.ref t) (upd H2 t (.tup [.str code, v]))) cls d H D.rt)
     rfl rfl hN he hle ⟨hce, by decide, .inl mce⟩ ⟨hab, by decide, .inl mab⟩ (s5 _) (s6 _) (λ W pn xe tk _ => ?_) (λ z oe cls d pn hz hf => ?_)), ?_⟩
 · refine ⟨λ pins s' σ H' D I h' => ?_⟩
   obtain ⟨Ech, hW, h1, h2, h3⟩ := h'
   have hp := act W pn xe Ech p1 p2 tk hW
   refine (pss_one (ps_ret (pos := b3) (pe_tup (x1 := k1) (pos := b2) (pa_cons (pe_str (x := "value") (j := j) (pos := b1)) (pa_cons hp pa_nil (s2 _)) (s1 _))))).run pins s' σ H' D I ?_
   exact ⟨h1, h2, h3⟩
 · refine ⟨λ pins s' σ H' D I h' => ?_⟩
   obtain ⟨⟨σ0, hσ⟩, C, dd, fs, code, rfl, rfl, T, nf, hx, hcd, hq⟩ := h'
   have hlen : 1 < Ng.length := (List.getElem?_eq_some_iff.mp he).1
   have e1 : σ[1]? = some (some (.ref z)) := by
     have := I.len
     rw [hσ, List.length_set] at this
     rw [hσ, List.getElem?_set_self (by rw [this]; exact hlen)]
   have hp : ((z, oe) : Addr × Obj) ∈ (z, oe) :: pn := List.mem_cons_self
   have pf := qep (X := (cxOf C8.CX0 X.prog X.w X.K X.mg X.base Ng "_law_why" sg g cdg X.A X.stack s H C8.E0).nox.suite z ((z, oe) :: pn)) (p := (z, oe)) (n := "code") (pos := r2) hp T (nf _ _ hcd) hz hf (pe_var (pos := r1) (i := 1) he (.inl hle) hed hec)
   have ph := ql2 (X := (cxOf C8.CX0 X.prog X.w X.K X.mg X.base Ng "_law_why" sg g cdg X.A X.stack s H C8.E0).nox.suite z ((z, oe) :: pn)) (p := (z, oe)) (q := r3) (q2 := r4) (pos := r5) FO (roomH_mark (roomH_of hr')) hp hz hf hgf he (.inl hle) (by decide) hed hec
   refine (pss_one (ps_ret (pos := r7) (pe_tup (x1 := k3) (pos := r6) (pa_cons pf (pa_cons ph pa_nil (s4 _)) (s3 _))))).run pins s' σ H' D I ?_
   refine qea (p := (z, oe)) (Q := λ x H1 => σ[1]? = some (some (.ref z)) /\ lrOf X.K FieldV (.ref C) (some dd) H1 λ y H2 => [x, y].length <= sizeLine /\ ∀ t, H2 t = none -> D.rt (.ref t) (upd H2 t (.tup [x, y]))) e1 hx hcd ⟨e1, C, dd, fs, code, rfl, rfl, T, nf, hx, hcd, hq.imp λ v H2 k => ⟨by show 2 <= sizeLine; decide, k⟩⟩
 · refine ⟨EWhy X.K CE AB Q, λ cls d σ' H' hE => ?_, DL.qce rfl, hc, h⟩
   obtain ⟨C, dd, fs, code, rfl, rfl, T, nf, hx, hcd, hm, hq⟩ := hE
   exact ⟨hm, λ z _ => ⟨⟨σ', rfl⟩, C, dd, fs, code, rfl, rfl, T, nf, hx, hcd, hq⟩⟩
end
end ER
namespace ER
open PySem PySem.Calls PyProof.Rows L2 L2H LamX
section
variable {X : Cx} {pins : List (Addr × Obj)} {σ : L2.St} {H : Hp} {s : Shared}
theorem qkv (I : Inv X pins σ H s) {f : Addr} (hf : s.heap.objs.size <= f) : f ∉ frs X.stack := λ z => by
 rcases List.mem_cons.mp (I.stkSub _ z) with e | e
 · have k := I.lt
   rw [<- e] at k
   exact Nat.lt_irrefl _ (Nat.lt_of_lt_of_le k hf)
 · exact I.nofs hf e
abbrev lamO (X : Cx) (params : Arguments) (body : Expr) (scope : Scope) (pm : Value) (c' : Addr) (ctv : Value) : Obj := PySem.W.kla_obj "<lambda>" (X.env.qual ++ "<lambda>") params body scope (cloFrom X.env.cells scope.names []) pm c' ctv
theorem qBC {T : List (Addr × Str)} {c P : Addr} {params : Arguments} {body : Expr} {scope : Scope} {pos : Pos} {Er : Value -> Shared -> Prop} {Q : Value -> Shared -> Prop} (I : Inv X pins σ H s) (TB : TabB X.base X.mg c P) (hcode : X.env.code = .ref c)
   (hm : (P, X.env.qual ++ "<lambda>") ∈ T) (hu : ∀ p ∈ T, p.1 = P -> p.2 = X.env.qual ++ "<lambda>") (hT : Tabs T H) (hdef : defaultsOf params X.env = ([], [])) (hfree : ∀ y ∈ scope.names, y.2 = .free -> ∃ c, X.env.cells.lookup y.1 = some c)
   (k : ∀ (f c' : Addr) (pm ctv : Value) (H1 : Hp) (s' : Shared), Inv X pins σ H1 s' -> DL.Ext H H1 -> Tabs T H1 -> s'.heap.get? f = some (lamO X params body scope pm c' ctv) -> H1 f = none -> f ∉ frs X.stack -> H1 c' = some (CodeO c' (X.env.qual ++ "<lambda>")) -> Q (.ref f) s') :
   wpAny (model X.prog X.w) X.A (eval (.Lambda params body scope pos) X.env) Q Er s := by
 obtain ⟨ps, e0, tr, am⟩ := hT _ hm
 have oP := I.hok P _ e0
 have gl := I.mod.glob.keeps I.bk
 have cd := TB.code.keeps I.bk
 have bt := TB.bm.keeps I.bk
 refine PySem.W.kla_eval hdef ?_
 cases q : codeAmong pos ps.toList with
 | some cv =>
   obtain ⟨c1, rfl, ec⟩ := am pos cv q
   refine PySem.W.kla_makeFunctionHit (mg := X.mg) (c := c) (P := P) (ps := ps) (closure_ok hfree) I.ok.glob gl hcode cd oP tr q bt λ ctv h' tk old sz => ?_
   exact k _ c1 _ ctv H _ (I.kept λ b o e => Heap.get?_push_of_some _ (old b o e)) (.refl H) hT (Heap.get?_push_size _ rfl) (I.hok.fresh sz) (qkv I sz) ec
 | none =>
   refine PySem.W.kla_makeFunction (mg := X.mg) (c := c) (P := P) (ps := ps) (closure_ok hfree) I.ok.glob gl hcode cd oP tr q TB.gP bt λ c1 ctv h' tk old lo hi rec tab => ?_
   obtain ⟨c2, oc, vs, t, e2, e3, e4, e5⟩ := rec
   cases e2
   have sz : s.heap.objs.size <= h'.objs.size := by omega
   have n1 : H c1 = none := I.hok.fresh lo
   have nP : P ≠ c1 := ne_of_none e0 n1
   let H1 : Hp := upd (upd H P (.tbl (ps ++ #[rawInt pos.line, rawInt pos.col, .ref c1]))) c1 (CodeO c1 (X.env.qual ++ "<lambda>"))
   have hP1 : H1 P = some (.tbl (ps ++ #[rawInt pos.line, rawInt pos.col, .ref c1])) := (upd_ne nP).trans upd_same
   have hE : DL.Ext H H1 := λ b o e => by
     have b1 : b ≠ c1 := ne_of_none e n1
     by_cases bP : b = P
     · subst bP
       rw [e0] at e
       cases e
       exact .inr ⟨_, _, rfl, hP1⟩
     · exact .inl ((upd_ne b1).trans ((upd_ne bP).trans e))
   have code : ∀ d r, H d = some (CodeO d r) -> H1 d = some (CodeO d r) := λ d r e => hE.at e λ ps z => codeO_ne ps z
   have J : Inv X pins σ H1 { s with heap := h'.push (lamO X params body scope ((X.mg "__name__").getD .none) c1 ctv), toks := tk } := inv_table (q := X.env.qual ++ "<lambda>") (t' := tk) I e0 (λ b o nb e => Heap.get?_push_of_some _ (old b o nb e)) (Heap.get?_push_of_some _ tab) lo ⟨oc, vs, t, Heap.get?_push_of_some _ e3, e4, e5⟩
   refine k h'.objs.size c1 _ ctv H1 _ J hE (λ p hp => ?_) (Heap.get?_push_size _ rfl) ?_ (qkv I sz) upd_same
   · obtain ⟨ps2, a1, a2, a3⟩ := hT p hp
     by_cases bP : p.1 = P
     · rw [bP] at a1 ⊢
       rw [e0] at a1
       cases a1
       refine ⟨_, hP1, by rw [Array.toList_append]; exact PySem.TriplesOk_snoc _ _ _ _ tr, λ p' cv hc => ?_⟩
       rw [Array.toList_append] at hc
       rcases among_app _ tr hc with z | z
       · obtain ⟨d, z1, z2⟩ := a3 p' cv z
         exact ⟨d, z1, code _ _ z2⟩
       · exact ⟨c1, z, by rw [hu p hp bP]; exact upd_same⟩
     · refine ⟨ps2, (upd_ne (ne_of_none a1 n1)).trans ((upd_ne bP).trans a1), a2, λ p' cv hc => ?_⟩
       obtain ⟨d, z1, z2⟩ := a3 p' cv hc
       exact ⟨d, z1, code _ _ z2⟩
   · have b1 : h'.objs.size ≠ c1 := by omega
     have b2 : h'.objs.size ≠ P := λ z => by
       have z1 := Heap.lt_size oP
       rw [<- z] at z1
       exact Nat.lt_irrefl _ (Nat.lt_of_lt_of_le z1 sz)
     exact (upd_ne b1).trans ((upd_ne b2).trans (I.hok.fresh sz))
end
def qj2 (T : List (Addr × Str)) (TT : (XK -> Hp -> VK -> Prop) -> Hp -> VK -> Prop) (t : XK -> TE) : TE := λ σ H Q => Tabs T H /\ ∀ H1, DL.Ext H H1 -> Tabs T H1 -> TT (λ E H' Q' => t E σ H' Q') H1 Q
theorem qv8 {X : Cx} {T : List (Addr × Str)} {TT : (XK -> Hp -> VK -> Prop) -> Hp -> VK -> Prop} {x a : Str} {g c P : Addr} {k : Nat} {pg : Arguments} {bg : List Stmt} {sg : Scope} {dV kV doc pm cdv ct oc : Value} {an od : Option Addr} {osl : Array (Option Value)} {Ng : List Str} {params : Arguments} {body : Expr} {scope : Scope} {t : XK -> TE} {p lpos pos : Pos}
   (hg : Gl X x) (hm : X.mg x = some (.ref g)) (hk : PySem.W.keepIn X.K (.ref g) = true) (lk : X.K.lookup g = some ⟨oc, od, .func (PySem.W.fnOf x x pg bg sg dV kV doc pm an cdv ct), osl⟩) (hcg : PySem.W.codeIn X.K cdv x = true) (hb : L2.Binds X.K (PySem.W.fnOf x x pg bg sg dV kV doc pm an cdv ct) [a] [])
   (Sg : FnScope Ng [a] sg) (hNg : Ng[0]? = some a) (hva : Vis sg a) (hG : GivesTo X Ng x sg g cdv bg a (X.env.qual ++ "<lambda>") TT) (TB : TabB X.base X.mg c P) (hcode : X.env.code = .ref c) (hmT : (P, X.env.qual ++ "<lambda>") ∈ T) (hu : ∀ p ∈ T, p.1 = P -> p.2 = X.env.qual ++ "<lambda>")
   (hr : Room (k + 2) X.A) (L : LamS X.env.scope scope) (hdef : defaultsOf params X.env = ([], [])) (hbind : ∀ (q : Str) (cl : List (Str × Addr)) (pm cv ctv : Value), bindArgs (PySem.W.kla_fn "<lambda>" q params body scope cl pm cv ctv) ⟨[], []⟩ = pure [])
   (hbody : ∀ (A : Around) (outer : List Env) (s : Shared) (H : Hp) (E : XK) (f c' : Addr), Room k (A.deeper (lamEnv X scope s.heap.objs.size f c')) -> PE (lamCx X A outer s H E scope f c') body (t E))
   (hdb : (x == ("__debug__" : Str)) = false := by decide) (hd : (a == ("__debug__" : Str)) = false := by decide) (hcd : (a == ("__classdict__" : Str)) = false := by decide) : PE X (.Call (.Name x p) [.Lambda params body scope lpos] [] pos) (qj2 T TT t) := by
 refine ⟨λ pins s σ H Q I ⟨hT, h⟩ => wpAny_Call_Name_kw (ld_glob I hg hm (PySem.W.callWith_K (h₀ := X.base) I.ok.mod.kin hk ?_ (by rfl) (by rfl)) hdb)⟩
 show wpAny _ _ (spliced ((false, eval (.Lambda params body scope lpos) X.env) :: backTo pos (starEach [] X.env))) _ _ s
 refine Calls.spliced_cons (qBC I TB hcode hmT hu hT hdef (L.has I.ok) λ f c1 pm1 ctv H1 s1 J eE T1 e1 e2 e3 e4 => Calls.spliced_nil ⟨J.kIn, wpAny_call ?_⟩)
 have run : codeAny (model X.prog X.w) X.A (.call (.ref g) ⟨[.ref f], []⟩) (CR C8.CX0 X.stack X.prog X.w H1 s1 Q C8.E0) s1 := run_ofS (N := Ng) (ps := [a]) (us := [.ref f]) (vs := [.ref f]) lk hcg Sg hr J.env0 (hb s1 [.ref f] J.kIn rfl) (.cons rfl .nil) rfl λ hr1 => by
   obtain ⟨tt, h1, h2⟩ := hG f c1 s1 H1 Q (λ E H' Q' => t E σ H' Q') (λ W pn xe E p1 p2 tk hW => pe_act (i := 0) J L e1 e2 e3 (hbind _ _ _ _ _) tk hW hr1 (λ A outer s H hr2 => hbody A outer s H E f c1 hr2) hNg hva hd hcd) e4 (h H1 eE T1)
   exact ⟨tt, h1.nox, h2⟩
 refine codeAny_mono run λ r s2 z => ?_
 match r, z with
 | .error _, z => exact False.elim z
 | .ok (.ret u), z => exact J.after z
 | .ok .next, z => exact False.elim z
 | .ok .brk, z => exact False.elim z
 | .ok .cont, z => exact False.elim z
end ER
namespace DL
variable [TbC]
open PySem PySem.Spec PyProof.Rows L2
def qew (code : Str) (fs : List (Str × D)) (Q : D -> Prop) : Prop :=
 if code = "TooLarge" then onS (fget "what" fs) λ a => onS (fget "value" fs) λ b => onS (fget "limit" fs) λ c => Q (.tup [a, b, c])
 else if code = "InvalidFact" ∨ code = "UnknownRow" then onS (fget "index" fs) Q
 else if code = "InvalidText" then onS (fget "line" fs) λ a => onS (fget "reason" fs) λ b => Q (.tup [a, b])
 else if code = "InvalidDrawing" then onS (fget "name" fs) Q
 else if code = "NothingLeft" then onS (fget "deed" fs) Q
 else if code = "Unsuited" then Q .non
 else onS (fget "value" fs) Q
def qhk (Ks : List (Addr × List Str)) (Q : D -> Prop) : DX -> Prop := λ x => (x.1, x.2.map (·.1)) ∈ Ks /\ onS (fget "code" x.2) λ cd => (match cd with | .str code => qew code x.2 (λ v => Q (.tup [.str code, v])) | _ => False)
structure ErrK (K : PySem.W.Frag) (CE AB : Addr) (C : Addr) (ns : List Str) : Prop where
 xf : XfC K C
 ex : PySem.W.exmAny K (.ref C) [.ref CE, .ref AB] = some true
 no : ∀ f ∈ ns, PySem.W.findIn K (.ref C) f = some none
def qen : Option SV -> Option SV
 | some (.d x) => some (.d x)
 | none => none
 | some (.lst _ _) => none
 | some (.ins _ _ _) => none
 | some (.dk _ _) => none
 | some (.dt _ _ _) => none
 | some (.pg _ _ _ _ _) => none
def qbq : Rho -> Rho
 | [] => []
 | w :: r => qen w :: qbq r
theorem qgy : ∀ ρ : Rho, (qbq ρ).length = ρ.length
 | [] => rfl
 | _ :: r => congrArg (· + 1) (qgy r)
theorem qjt : ∀ {ρ : Rho} {i : Nat} {w : Option SV}, (qbq ρ)[i]? = some w -> ∃ u, ρ[i]? = some u /\ w = qen u
 | [], i, w, h => by simp [qbq] at h
 | u :: r, 0, w, h => ⟨u, rfl, (Option.some.inj (show some (qen u) = some w from h)).symm⟩
 | u :: r, i + 1, w, h => by
   obtain ⟨x, h1, h2⟩ := qjt (ρ := r) (i := i) (w := w) (by simpa [qbq] using h)
   exact ⟨x, by simpa using h1, h2⟩
def dWhy (Ks : List (Addr × List Str)) (de : (DX -> Prop) -> DE) (ρ : Rho) (Q : D -> Prop) : Prop := de (qhk Ks Q) (qbq ρ) λ v => Q (.tup [.str "value", v])
section
variable {K : PySem.W.Frag} {Ed : DX -> Prop} {E : XK} {H0 H : Hp}
theorem qfC {H1 : Hp} (sm : Same H0 H) (s : Same H H1) : Grow H0 H H0 H1 := ⟨.refl _, s.ext, sm.trans s, λ _ _ => rfl, λ t => qb3 t s⟩
theorem qcl {fs : List (Str × D)} {fvs : List (Str × V)} {f : Str} {Q : D -> Prop} (r : Repf K H0 fs fvs) (h : onS (fget f fs) Q) : ∃ d v, fvs.lookup f = some v /\ Rep K H0 d v /\ Q d := by
 obtain ⟨d, hd, q⟩ := qaB h
 rw [qgh] at hd
 obtain ⟨v, e, rv⟩ := r.get hd
 exact ⟨d, v, e, rv, q⟩
theorem qe5 {fs : List (Str × D)} {fvs : List (Str × V)} {f : Str} {Qd : D -> Prop} {Q : VK} (sm : Same H0 H) (rf : Repf K H0 fs fvs) (h : onS (fget f fs) Qd) (q : ∀ d v A' B', Grow H0 H A' B' -> Rep K A' d v -> Qd d -> Q v B') : ER.one fvs f H Q := by
 obtain ⟨d, v, e, rv, k⟩ := qcl rf h
 exact ⟨v, e, λ H1 s => q d v H0 H1 (qfC sm s) rv k⟩
theorem qAX {code : Str} {fs : List (Str × D)} {fvs : List (Str × V)} {Qd : D -> Prop} {Q : VK} (sm : Same H0 H) (rf : Repf K H0 fs fvs) (h : qew code fs Qd) (q : ∀ d v A' B', Grow H0 H A' B' -> Rep K A' d v -> Qd d -> Q v B') : ER.FieldV code fvs H Q := by
 unfold qew at h
 unfold ER.FieldV ER.qcC
 by_cases c1 : code = "TooLarge"
 · rw [if_pos c1] at h ⊢
   obtain ⟨a, va, ea, ra, h⟩ := qcl rf h
   obtain ⟨b, vb, eb, rb, h⟩ := qcl rf h
   obtain ⟨c, vc, ec, rc, h⟩ := qcl rf h
   refine ⟨va, vb, vc, ea, eb, ec, λ H1 p s hp => ?_⟩
   have g := (qfC sm s).trans (Grow.new (o := .tup [va, vb, vc]) (sm.trans s) hp)
   have k := same_upd (o := .tup [va, vb, vc]) ((sm.trans s).free hp)
   exact q (.tup [a, b, c]) (.ref p) _ _ g ⟨p, _, rfl, .inl (.inl upd_same), va, _, rfl, Rep.mono k _ _ ra, vb, _, rfl, Rep.mono k _ _ rb, vc, _, rfl, Rep.mono k _ _ rc, rfl⟩ h
 rw [if_neg c1] at h ⊢
 by_cases c2 : code = "InvalidFact" ∨ code = "UnknownRow"
 · rw [if_pos c2] at h ⊢
   exact qe5 sm rf h q
 rw [if_neg c2] at h ⊢
 by_cases c3 : code = "InvalidText"
 · rw [if_pos c3] at h ⊢
   obtain ⟨a, va, ea, ra, h⟩ := qcl rf h
   obtain ⟨b, vb, eb, rb, h⟩ := qcl rf h
   refine ⟨va, vb, ea, eb, λ H1 p s hp => ?_⟩
   have g := (qfC sm s).trans (Grow.new (o := .tup [va, vb]) (sm.trans s) hp)
   have k := same_upd (o := .tup [va, vb]) ((sm.trans s).free hp)
   exact q (.tup [a, b]) (.ref p) _ _ g ⟨p, _, rfl, .inl (.inl upd_same), va, _, rfl, Rep.mono k _ _ ra, vb, _, rfl, Rep.mono k _ _ rb, rfl⟩ h
 rw [if_neg c3] at h ⊢
 by_cases c4 : code = "InvalidDrawing"
 · rw [if_pos c4] at h ⊢
   exact qe5 sm rf h q
 rw [if_neg c4] at h ⊢
 by_cases c5 : code = "NothingLeft"
 · rw [if_pos c5] at h ⊢
   exact qe5 sm rf h q
 rw [if_neg c5] at h ⊢
 by_cases c6 : code = "Unsuited"
 · rw [if_pos c6] at h ⊢
   exact λ H1 s => q .non .non H0 H1 (qfC sm s) rfl h
 rw [if_neg c6] at h ⊢
 exact qe5 sm rf h q
theorem qrH : ∀ {fs : List (Str × D)} {fvs : List (Str × V)} {f : Str} {v : V}, Repf K H0 fs fvs -> fvs.lookup f = some v -> f ∈ fs.map (·.1)
 | [], _, f, v, h, e => by
   cases (show _ = _ from h)
   simp at e
 | (g, d) :: r, _, f, v, ⟨u, ur, e1, h1, h2⟩, e => by
   subst e1
   by_cases hg : f = g
   · subst hg
     exact List.mem_cons_self
   · have hb : (f == g) = false := by simpa using hg
     simp only [List.lookup, hb] at e
     exact List.mem_cons_of_mem _ (qrH h2 e)
theorem qt3 {Ks : List (Addr × List Str)} {CE AB : Addr} {t : XK -> TE} {de : (DX -> Prop) -> DE} (hK : ∀ e ∈ Ks, ErrK K CE AB e.1 e.2) (hs : ∀ Ed' E', SimE K Ed' E' (t E') (de Ed')) : SimE K Ed E (ER.qj2 TbC.T (ER.qet K CE AB) t) (dWhy Ks de) := λ B0 B1 A H0 H σ ρ R X Qd h Q q => by
 have td : TD H0 H := R.gr.tb X.td
 refine ⟨td.2, λ H1 e1 t1 => ?_⟩
 have s1 : Same H0 H1 := λ b o e => e1.at (R.ex _ _ e) λ ps z => td.1 b ps (by rw [e, z])
 have g1 : Grow H0 H H0 H1 := ⟨.refl _, e1, s1, λ _ _ => rfl, λ t => ⟨t.1, t1⟩⟩
 have R1 : RepS K B0 B1 A H0 H1 σ ρ := R.grow g1
 have RM : RepS K H0 H1 (λ _ => none) H0 H1 σ (qbq ρ) := by
   refine ⟨s1, .refl s1, by rw [qgy]; exact R.len, λ i w e => ?_, (λ _ _ _ z => nomatch z), (λ _ _ z => nomatch z), by rw [qgy]; exact R.sz, λ i x C fs q xs e => ?_⟩
   · obtain ⟨u, e2, rfl⟩ := qjt e
     obtain ⟨v, e3, s⟩ := R1.slot i u e2
     refine ⟨v, e3, ?_⟩
     cases u with
     | none => exact rfl
     | some u =>
       cases u with
       | d x => exact ⟨rfl, s.2⟩
       | lst _ _ => exact rfl
       | ins _ _ _ => exact rfl
       | dk _ _ => exact rfl
       | dt _ _ _ => exact rfl
       | pg _ _ _ _ _ => exact rfl
   · obtain ⟨u, _, e2⟩ := qjt e
     cases u with
     | none => cases e2
     | some u => cases u <;> cases e2
 refine hs (qhk Ks Qd) _ H0 H1 _ H0 H1 σ (qbq ρ) RM ⟨λ C fs fvs dx H0' H' g hx rf hE => ?_, g1.tb td⟩ _ h _ λ x v H0' H' R2 g r k => ⟨by show 2 <= sizeLine; decide, λ p hp => ?_⟩
 · obtain ⟨hk, hc⟩ := hE
   obtain ⟨cd, vc, ec, rc, hc⟩ := qcl rf hc
   split at hc
   · rename_i code
     cases (show vc = _ from rc)
     have k := hK _ hk
     have gg := g1.trans g
     refine ⟨C, dx, fvs, code, rfl, rfl, k.xf, λ f v e => k.no f (qrH rf e), hx, ec, k.ex, qAX g.g2 rf hc λ d v A' B' g3 r3 k3 p hp => ?_⟩
     have g4 := Grow.new (o := .tup [.str code, v]) g3.g2 hp
     exact q (.tup [.str code, d]) (.ref p) _ _ (R.grow ((gg.trans g3).trans g4)) ((gg.trans g3).trans g4) ⟨p, _, rfl, .inl (.inl upd_same), .str code, _, rfl, rfl, v, _, rfl, Rep.mono g4.g0 _ _ r3, rfl⟩ k3
   · exact hc.elim
 · have gg := g1.trans g
   have g4 := Grow.new (o := .tup [.str "value", v]) R2.ex hp
   exact q (.tup [.str "value", x]) (.ref p) _ _ (R.grow (gg.trans g4)) (gg.trans g4) ⟨p, _, rfl, .inl (.inl upd_same), .str "value", _, rfl, rfl, v, _, rfl, Rep.mono g4.g0 _ _ r, rfl⟩ k
end
structure WhyF (P : Program) (w : World) (K : PySem.W.Frag) (mg : Str -> Option Value) (base : Heap) (k : Nat) (CE AB : Addr) : Prop where
 ex : ∃ (a e : Str) (g : Addr) (pg : Arguments) (bg : List Stmt) (sg : Scope) (dV kV doc pm cdv ct oc : Value) (an od : Option Addr) (osl : Array (Option Value)), mg "_law_why" = some (.ref g) /\ PySem.W.keepIn K (.ref g) = true /\
   K.lookup g = some ⟨oc, od, .func (PySem.W.fnOf "_law_why" "_law_why" pg bg sg dV kV doc pm an cdv ct), osl⟩ /\ PySem.W.codeIn K cdv "_law_why" = true /\ L2.Binds K (PySem.W.fnOf "_law_why" "_law_why" pg bg sg dV kV doc pm an cdv ct) [a] [] /\ FnScope [a, e] [a] sg /\ Vis sg a /\ (a == ("__debug__" : Str)) = false /\ (a == ("__classdict__" : Str)) = false /\
   ∀ (X : Cx) (q : Str), X.prog = P -> X.w = w -> X.K = K -> X.mg = mg -> X.base = base -> Room (k + 1) X.A -> LamX.GivesTo X [a, e] "_law_why" sg g cdv bg a q (ER.qet K CE AB)
section
variable {X : Cx} {Ed : DX -> Prop} {E : XK} {p pos lpos : Pos} {k : Nat} {CE AB c Pt : Addr} {params : Arguments} {body : Expr} {scope : Scope} {t : XK -> TE} {de : (DX -> Prop) -> DE} {Ks : List (Addr × List Str)}
theorem qwB {P : Program} {w : World} {outer : List Env} {H : Hp} {s : Shared} {E : XK} {u : Value} {s' : Shared} (h : L2N.CX P w outer H s E u s') : L2.CX P w outer H s E u s' := by
 obtain ⟨a, B, H', cls, d, e, ⟨f1, f2, f3, oe, vs, T, oT, ts, g1, g2, g3⟩, r⟩ := h
 exact ⟨a, B, H', cls, d, e, ⟨f1, f2, f3, oe, vs, T, oT, ts, g1, g2.zc, g3⟩, r⟩
theorem passL {X : Cx} {A : Around} {outer : List Env} {s : Shared} {H : Hp} {E : XK} {scope : Scope} {f c' : Addr} : Passes (L2N.CX X.prog X.w) (LamX.lamCx X A outer s H E scope f c') E :=
 λ pins σ H' s' e s'' I c => passes_call (X := LamX.lamCx X A outer s H E scope f c') (W := λ c d _ H => E c d H) (takes_of rfl rfl rfl rfl) (λ _ _ _ _ h => h) pins σ H' s' e s'' I (qwB c)
theorem qnA (F : WhyF X.prog X.w X.K X.mg X.base k CE AB) (hT : (Pt, X.env.qual ++ "<lambda>") ∈ TbC.T) (hu : ∀ p ∈ TbC.T, p.1 = Pt -> p.2 = X.env.qual ++ "<lambda>") (TB : LamX.TabB X.base X.mg c Pt) (hcode : X.env.code = .ref c) (hK : ∀ e ∈ Ks, ErrK X.K CE AB e.1 e.2) (hr : Room (k + 2) X.A) (L : LamX.LamS X.env.scope scope)
   (hbody : ∀ (A : Around) (outer : List Env) (s : Shared) (H : Hp) (E : XK) (f c' : Addr) (Ed' : DX -> Prop), Room k (A.deeper (LamX.lamEnv X scope s.heap.objs.size f c')) -> JE (LamX.lamCx X A outer s H E scope f c') Ed' E body (t E) (de Ed'))
   (hg : Gl X "_law_why" := by rfl) (hdef : defaultsOf params X.env = ([], []) := by rfl) (hbind : ∀ (q : Str) (cl : List (Str × Addr)) (pm cv ctv : Value), bindArgs (PySem.W.kla_fn "<lambda>" q params body scope cl pm cv ctv) ⟨[], []⟩ = pure [] := by intros; rfl) :
   JE X Ed E (.Call (.Name "_law_why" p) [.Lambda params body scope lpos] [] pos) (ER.qj2 TbC.T (ER.qet X.K CE AB) t) (dWhy Ks de) := by
 obtain ⟨a, e, g, pg, bg, sg, dV, kV, doc, pm, cdv, ct, oc, an, od, osl, h1, h2, h3, h4, h5, h6, h7, h8, h9, h10⟩ := F.ex
 refine ⟨ER.qv8 (k := k) (Ng := [a, e]) (a := a) hg h1 h2 h3 h4 h5 h6 rfl h7 (h10 X _ rfl rfl rfl rfl rfl (hr.mono (by omega))) TB hcode hT hu hr L hdef hbind (λ A outer s H E f c' hr2 => (hbody A outer s H E f c' (λ _ => False) hr2).pe) (by decide) h8 h9, qt3 hK λ Ed' E' => ?_⟩
 exact (hbody X.A [] X.s_0 X.H_0 E' 0 0 Ed' ((hr.mono (by omega : k + 1 <= k + 2)).deeper _)).sim
end
end DL
namespace ER
open PySem PySem.W PySem.Calls PyProof.Rows
section
variable {P : Program} {w : World} {env : Env} {m : Str -> Option Value} {c x y : Str} {u : Value} {j : Nat} {pos p1 p2 p3 p4 : Pos}
theorem qzH : Says P w env m (.Constant (.str c) j pos) := λ A s Q E _ h => Calls.Constant_str (h _ _)
end
end ER
namespace DL
variable [TbC]
open PySem PySem.Spec PyProof.Rows L2
structure ErrS (ps : List Str) (sc : Scope) : Prop where
 kind : sc.kind = .function
 co : sc.isCoroutine = false
 gen : sc.isGenerator = false
 sup : sc.names.lookup ("super" : Str) = some .globalImplicit
 cel : sc.names.lookup ("__class__" : Str) = some .free
 par : ∀ y ∈ ps, sc.names.lookup y = some .local
 noc : ∀ x ∈ sc.names, x.2 ≠ .cell
def mk1 (f code : Str) : List D -> List (Str × D)
 | [v] => [(f, v), ("code", .str code)]
 | _ => []
def mk1V (f : Str) : List V -> List (Str × V)
 | [v] => [(f, v)]
 | _ => []
def mk3 (f1 f2 f3 code : Str) : List D -> List (Str × D)
 | [a, b, c] => [(f3, c), (f2, b), (f1, a), ("code", .str code)]
 | _ => []
def ok3 : List D -> Prop
 | [.str y, _, _] => y.length <= 1000
 | _ => False
section
variable {P : Program} {w : World} {K : PySem.W.Frag} {mg : Str -> Option Value} {st : Stmt} {x qual code msgt c : Str} {C f cda cc : Addr} {B i newId : String} {bmB : List Value} {oc dV kV doc pm ct : Value} {od an : Option Addr} {osl : Array (Option Value)} {ar : Arg} {pl : Sem Bool}
 {p0 p1 p2 p3 p4 q0 q1 q2 q3 q4 r1 r2 r3 r4 s1 s2 s3 s4 t1 t2 t3 t4 m1 m2 m3 m4 : Pos} {j1 j2 : Nat}
abbrev qi6 (p0 p1 p2 p3 : Pos) (msg : Expr) : Expr := .Call (.Attribute (.Call (.Name "super" p0) [] [] p1) "__init__" p2) [msg] [] p3
theorem err1 {fld : Str} (T : ER.EC K B i newId bmB C) (SF : StoreFacts B bmB "object.__setattr__" "object") (KF : PySem.W.KxsFacts B i) (FB : ExcBaseFacts B newId i bmB) (SP : ER.SupF P K mg) (IC : ER.IniC P K C cda cc) (nm : mg x = some (.ref C)) (hini : PySem.W.findIn K (.ref C) "__init__" = some (some (.ref f))) (hfn : PySem.W.isFn K (.ref f) = true)
   (lk : K.lookup f = some ⟨oc, od, .func (PySem.W.ksFn "__init__" qual (defArgs st) (defBody st) (defScope st) dV kV doc pm an (.ref cda) ct cc), osl⟩) (hcd : PySem.W.codeIn K (.ref cda) qual = true) (tc : PySem.W.takerIn K C "code" = some none) (tf : PySem.W.takerIn K C fld = some none)
   (hbody : defBody st = .Expr (qi6 p0 p1 p2 p3 (.Constant (.str msgt) j1 q0)) p4 :: .Assign [.Attribute (.Name "self" q1) "code" q2] (.Constant (.str code) j2 q3) q4 :: .Assign [.Attribute (.Name "self" r1) fld r2] (.Name fld r3) r4 :: [])
   (hbind : ∀ us : List Value, us.length = 2 -> bindArgs (PySem.W.ksFn "__init__" qual (defArgs st) (defBody st) (defScope st) dV kV doc pm an (.ref cda) ct cc) ⟨us, []⟩ = pure ((["self", fld] : List Str).zip us)) (har : ((defArgs st).posonlyargs ++ (defArgs st).args).head? = some ar) (hself : ar.arg = "self")
   (S : ErrS ["self", fld] (defScope st)) (nd : (["self", fld] : List Str).Nodup) (hfd : (fld == ("__debug__" : Str)) = false)
   (ht : ∀ L, eval (qi6 p0 p1 p2 p3 (.Constant (.str msgt) j1 q0)) (PySem.W.ksEnv qual (defScope st) L f (.ref cda) cc) = (do
     let ov <- attributeBase (.Call (.Name "super" p0) [] [] p1) "__init__" (PySem.W.ksEnv qual (defScope st) L f (.ref cda) cc) (eval (.Call (.Name "super" p0) [] [] p1) (PySem.W.ksEnv qual (defScope st) L f (.ref cda) cc))
     standAt p2.atName
     let (fm, first) <- holding [ov] (getMethod ov "__init__" pl)
     callWith p3 fm first (backTo p3 (starEach [.Constant (.str msgt) j1 q0] (PySem.W.ksEnv qual (defScope st) L f (.ref cda) cc))) []))
   (hsw : ∀ L, swapsWith (qi6 p0 p1 p2 p3 (.Constant (.str msgt) j1 q0)) none p4.line (PySem.W.ksEnv qual (defScope st) L f (.ref cda) cc) = pure false) (hi : ∀ L, interactive (PySem.W.ksEnv qual (defScope st) L f (.ref cda) cc) = false)
   (hs1 : ∀ L, swapsWith (.Constant (.str code) j2 q3) (some (.Attribute (.Name "self" q1) "code" q2)) q4.line (PySem.W.ksEnv qual (defScope st) L f (.ref cda) cc) = pure false) (hs2 : ∀ L, swapsWith (.Name fld r3) (some (.Attribute (.Name "self" r1) fld r2)) r4.line (PySem.W.ksEnv qual (defScope st) L f (.ref cda) cc) = pure false) :
   qfp P w K mg x C 1 (λ _ => True) (mk1 fld code) := by
 have R := ER.qBg (P := P) (w := w) (mg := mg) (ps := ["self", fld]) (n := 1) (ok := λ _ => True) (f1 := "code") (v1 := .str code) (l := mk1V fld) T SF KF FB SP IC hbody lk hcd hbind rfl nd har (by rw [hself]; rfl) S.par S.noc S.co S.gen S.sup S.cel S.kind (by rw [hself]; decide) (λ L m us vs _ _ _ _ => ER.qzH) (λ L => rfl) ht hsw hi
   (λ L m us vs rv hl _ hp => by
     match vs, us, rv, hl with
     | [v], [u], .cons r .nil, _ =>
       have h0 : m fld = some u := hp 0 fld u rfl rfl
       have hn : ar.arg = "self" := hself
       rw [hn]
       exact .cons ER.qCl tc (hs1 L) (.cons (ER.qCe S.kind (S.par fld (by simp)) h0 r hfd) tf (hs2 L) .nil)) (λ vs => by
     match vs with
     | [] => exact Nat.zero_le _
     | [v] => show 1 <= 800; decide
     | _ :: _ :: _ => exact Nat.zero_le _)
 refine ⟨λ _ => True, _, ⟨nm, B, i, newId, i, bmB, f, T, FB, hini, hfn, R⟩, T.kC, by decide, λ H ds vs hl rr _ => ⟨trivial, ?_⟩⟩
 match ds, hl with
 | [d], _ =>
   obtain ⟨v, r, rfl, rv, e⟩ := rr
   cases (show r = _ from e)
   exact ⟨v, _, rfl, rv, .str code, _, rfl, rfl, rfl⟩
end
structure FunC (K : PySem.W.Frag) (x qual : Str) (st : Stmt) (f : Addr) (fd : FuncData) (c : Addr) : Prop where
 ex : ∃ (oc : Value) (od : Option Addr) (dV kV doc pm : Value) (an : Option Addr) (ct : Value) (osl : Array (Option Value)), fd = PySem.W.fnOf x qual (defArgs st) (defBody st) (defScope st) dV kV doc pm an (.ref c) ct /\ K.lookup f = some ⟨oc, od, .func fd, osl⟩ /\ PySem.W.codeIn K (.ref c) qual = true
section
variable {P : Program} {w : World} {K : PySem.W.Frag} {mg : Str -> Option Value} {base : Heap}
theorem qsy {x qual : Str} {st : Stmt} {f c : Addr} {fd : FuncData} {N ps : List Str} {k : Nat} {wp : Wp} (n : Nat) (hn : N.length = n) (F : FunC K x qual st f fd c) (S : FnScope N ps (defScope st)) (len : ∀ ds Q Ed, wp ds Q Ed -> ds.length = ps.length)
   (body : ∀ (A : Around) (outer : List Env) (s : Shared) (H : Hp) (E : XK), Room k (A.deeper (envOfC qual (defScope st) s.heap.objs.size f (.ref c))) -> ∀ (ds : List D) (Qd : D -> Prop) (Ed : DX -> Prop), wp ds Qd Ed ->
     ∃ ts bs, JB (bx P w K mg base N qual st f (.ref c) A outer s H E) Ed E (defBody st) ts bs /\ bs { nx := λ _ => Qd .non, rt := λ x _ => Qd x } (qai n ds)) (hz : n <= 1000 := by decide) : FnOk P w K mg base (L2N.CX P w) (k + 1) f fd ps (SpW K wp) := by
 obtain ⟨oc, od, dV, kV, doc, pm, an, ct, osl, rfl, lk, hcd⟩ := F.ex
 have hpl : ps.length <= N.length := by
   have e := congrArg List.length S.pre
   rw [List.length_take] at e
   omega
 subst hn
 refine fn_of lk hcd S (λ vs H Q E h => ?_) λ A outer s H vs Q E hr h => ?_
 · obtain ⟨H0, ds, Qd, Ed, sm, r, hw, _⟩ := h
   rw [r.length]
   exact len ds Qd Ed hw
 · obtain ⟨H0, ds, Qd, Ed, sm, r, hw, q, x⟩ := h
   obtain ⟨ts, bs, jb, hb⟩ := body A outer s H E hr ds Qd Ed hw
   refine ⟨ts, jb.pe, jb.sim H0 H _ H0 H _ _ (startS sm r (by rw [len ds Qd Ed hw]; exact hpl) hz) x { nx := λ _ => Qd .non, rt := λ x _ => Qd x } _ ⟨λ A H0' H' σ ρ R h => q .non .non H0' H' R.gr rfl h, λ A H0' H' σ ρ d v R rv h => q d v H0' H' R.gr rv h, λ _ _ _ _ _ _ h => h.elim, λ _ _ _ _ _ _ h => h.elim⟩ hb⟩
structure LamP (mg : Str -> Option Value) (base : Heap) (qual : Str) (c Pt : Addr) : Prop where
 t : (Pt, (qual ++ ".<locals>.") ++ "<lambda>") ∈ TbC.T
 u : ∀ p ∈ TbC.T, p.1 = Pt -> p.2 = (qual ++ ".<locals>.") ++ "<lambda>"
 b : LamX.TabB base mg c Pt
end
abbrev qc8 (Pt : Addr) (q : Str) : TbC := ⟨[(Pt, q)]⟩
omit [TbC] in
theorem qB4 {mg : Str -> Option Value} {base : Heap} {qual : Str} {c Pt : Addr} (b : LamX.TabB base mg c Pt) : @LamP (qc8 Pt ((qual ++ ".<locals>.") ++ "<lambda>")) mg base qual c Pt := @LamP.mk (qc8 Pt _) _ _ _ _ _ (List.mem_singleton.mpr rfl) (λ p hp _ => by rw [List.mem_singleton.mp hp]) b
omit [TbC] in
theorem qtN {K : PySem.W.Frag} {H : Hp} {a Pt : Addr} {q : Str} {ns : List Int} (hl : ns.length <= 63) (hS : SqL K H a (ns.map V.int)) (hT : H Pt = some (.tbl #[])) : @SpW (qc8 Pt q) K qfD [.ref a] H (λ v _ => v = .bl true) λ _ _ _ => False :=
 @qBH (qc8 Pt q) _ _ _ _ hl hS λ p hp => by
   rw [List.mem_singleton.mp hp]
   exact LamX.TabS.nil hT
omit [TbC] in
theorem quR {K : PySem.W.Frag} {h : Heap} {Pt : Addr} (X : K.In h) (hT : h.get? Pt = some { cls := .none, data := .fields #[] }) (hK : PySem.W.noTabs K = true) : K.lookup Pt = none := by
 cases e : K.lookup Pt with
 | none => rfl
 | some o =>
   have h1 := X _ _ e
   rw [hT] at h1
   cases h1
   exact absurd (show false = true from List.all_eq_true.mp hK _ (PySem.W.mem_of_lookupK e)) Bool.false_ne_true
section
variable {P : Program} {w : World} {K : PySem.W.Frag} {mg : Str -> Option Value} {base : Heap}
theorem qmo {N : List Str} {qual : Str} {st : Stmt} {f : Addr} {cdv : Value} {A : Around} {outer : List Env} {s : Shared} {H : Hp} {E : XK} : L2N.Takes (bx P w K mg base N qual st f cdv A outer s H E) λ c d _ H => E c d H := L2N.takes_of rfl rfl rfl rfl
theorem lamK {X : Cx} {A : Around} {outer : List Env} {s : Shared} {H : Hp} {E : XK} {scope : Scope} {f c' : Addr} : (LamX.lamCx X A outer s H E scope f c').K = X.K := rfl
theorem lamW {X : Cx} {A : Around} {outer : List Env} {s : Shared} {H : Hp} {E : XK} {scope : Scope} {f c' : Addr} : (LamX.lamCx X A outer s H E scope f c').w = X.w := rfl
theorem lamR {X : Cx} {A : Around} {outer : List Env} {s : Shared} {H : Hp} {E : XK} {scope : Scope} {f c' : Addr} : (LamX.lamCx X A outer s H E scope f c').prog = X.prog := rfl
theorem bxK {N : List Str} {qual : Str} {st : Stmt} {f : Addr} {cdv : Value} {A : Around} {outer : List Env} {s : Shared} {H : Hp} {E : XK} : (bx P w K mg base N qual st f cdv A outer s H E).K = K := rfl
theorem bxW {N : List Str} {qual : Str} {st : Stmt} {f : Addr} {cdv : Value} {A : Around} {outer : List Env} {s : Shared} {H : Hp} {E : XK} : (bx P w K mg base N qual st f cdv A outer s H E).w = w := rfl
theorem bxR {N : List Str} {qual : Str} {st : Stmt} {f : Addr} {cdv : Value} {A : Around} {outer : List Env} {s : Shared} {H : Hp} {E : XK} : (bx P w K mg base N qual st f cdv A outer s H E).prog = P := rfl
theorem qci {t u : DS} {d : qao} {ρ : Rho} (h : ∀ N : Rho -> Prop, t { nx := N, rt := d.rt, bk := d.bk, ct := d.ct } ρ) : dSeq t u d ρ := h (u d)
omit [TbC] in
theorem quq {C CE AB : Addr} {b1 b2 : Bool} (e1 : PySem.W.subIn K (.ref CE) (.type "BaseException") = some true) (c1 : PySem.W.isClsIn K CE = true) (t1 : PySem.W.typeIn K (.ref CE) = some (.type "type")) (s1 : PySem.W.subIn K (.ref C) (.ref CE) = some b1)
   (e2 : PySem.W.subIn K (.ref AB) (.type "BaseException") = some true) (c2 : PySem.W.isClsIn K AB = true) (t2 : PySem.W.typeIn K (.ref AB) = some (.type "type")) (s2 : PySem.W.subIn K (.ref C) (.ref AB) = some b2) (h : (b1 || b2) = true) : PySem.W.exmAny K (.ref C) [.ref CE, .ref AB] = some true := by
 unfold PySem.W.isClsIn at c1 c2
 simp [PySem.W.exmAny, PySem.W.exmOne, PySem.W.kitCls, e1, e2, c1, c2, t1, t2, s1, s2]
 simpa using h
omit [TbC] in
theorem qAL {l : PySem.W.OpenLaw} {fa c Pt : Addr} {h : Heap} {fd : FuncData} {x q : Str} {k : Nat} (X : K.In h) (hT : h.get? Pt = some { cls := .none, data := .fields #[] }) (nT : PySem.W.noTabs K = true) (hc : PySem.W.codeHdIn K c Pt = true) (hb : ∀ (s : Shared) (u : Value), BindsTo s fd ⟨[u], []⟩ [(x, u)])
   (F : ∀ base : Heap, K.In base -> base.Ns mainGlobals mg -> LamX.TabB base mg c Pt -> FnOk l.prog w K mg base (L2N.CX l.prog w) k fa fd [x] (@SpW (qc8 Pt q) K qfD)) : LamX.LawAtS l w K (L2N.CX l.prog w) k 63 x mg fa h := by
 refine ⟨fd, [(c, Pt)], _, λ p hp => ?_, λ p hp => ?_, λ p hp => ?_, hb, λ H a ns hl _ hH hS => qtN hl hS (hH (c, Pt) (List.mem_singleton.mpr rfl)), λ base b1 b2 b3 => F base b1 b2 (b3 (c, Pt) (List.mem_singleton.mpr rfl))⟩
 · rw [List.mem_singleton.mp hp]
   exact hT
 · rw [List.mem_singleton.mp hp]
   exact quR X hT nT
 · rw [List.mem_singleton.mp hp]
   exact PySem.W.codeHd_of_K X hc
end
def seeS : Option SV -> Option SV
 | some (.d x) => some (.d x)
 | none => none
 | some (.lst _ xs) => some (.d (.lst xs))
 | some (.ins _ C fs) => some (.d (.ins C fs))
 | some (.dk _ kvs) => some (.d (.dk kvs))
 | some (.dt _ w kvs) => some (.d (.dt w kvs))
 | some (.pg _ C fs q xs) => some (.d (.ins C (pgD q xs fs)))
def seeD : Rho -> Rho
 | [] => []
 | w :: r => seeS w :: seeD r
def D.scal : D -> Bool
 | .non => true
 | .bl _ => true
 | .int _ => true
 | .str _ => true
 | _ => false
def dSee (de : DE) (ρ : Rho) (Q : D -> Prop) : Prop := de (seeD ρ) λ d => d.scal = true /\ Q d
section
variable {X : Cx} {Ed : DX -> Prop} {E : XK} {K : PySem.W.Frag} {e : Expr} {te : TE} {de : DE}
def qqk (dt : DT) (ρ : Rho) (Q : Bool -> Prop) : Prop := dt (seeD ρ) Q
end
section
variable {X : Cx} {Ed : DX -> Prop} {E : XK} {K : PySem.W.Frag} {pos : Pos} {a b : Expr} {ta tb : TE} {da db : DE}
def qnd (i j k : Nat) (da db : DE) (d : qao) (ρ : Rho) : Prop := da ρ λ x => db ρ λ y => k < ρ.length /\ ∀ q, d.nx (((ρ.set i (some (.d x))).set j (some (.d y))).set k (some (.lst q [])))
def qnp (i j k : Nat) (da : DA) (d : qao) (ρ : Rho) : Prop := da ρ λ xs => match xs with
 | [x, y, z] => d.nx (((ρ.set i (some (.d x))).set j (some (.d y))).set k (some (.d z)))
 | _ => False
end
abbrev DEL := Rho -> (List D -> Prop) -> Prop
abbrev WpL := List D -> (List D -> Prop) -> (DX -> Prop) -> Prop
def ofL (wp : WpL) : Wp := λ ds Q Ed => wp ds (λ xs => Q (.lst xs)) Ed
section
variable {P : Program} {w : World} {K : PySem.W.Frag} {mg : Str -> Option Value} {base : Heap} {k : Nat} {f : Addr} {fd : FuncData} {ps : List Str}
def ofP (wp : WpP) : WpI := λ ds Qf Ed => wp ds (λ q fs xs => Qf (pgD q xs fs)) Ed
def lOut (Qf : List D -> Prop) (d : D) (ρ : Rho) : Prop := match ρ with
 | [some (.lst x xs)] => d = .cls x /\ Qf xs
 | _ => False
end
section
variable {X : Cx} {Ed : DX -> Prop} {E : XK} {K : PySem.W.Frag} {pos p p2 p3 : Pos} {e : Expr} {es : List Expr} {te : TE} {de : DEL} {ta : TE} {da : DE} {tal : TA} {dal : DA} {k : Nat} {x : Str}
def qo1 (de : DEL) (d : qao) (ρ : Rho) : Prop := de ρ λ xs => ∀ q, d.rt (.cls q) [some (.lst q xs)]
def qqm (i : Nat) (de : DEL) (d : qao) (ρ : Rho) : Prop := de ρ λ xs => i < ρ.length /\ ∀ q, d.nx (ρ.set i (some (.lst q xs)))
def qnm (_ : Rho) (Q : List D -> Prop) : Prop := Q []
def ql0 (wp : WpL) (Ed : DX -> Prop) (da : DA) (ρ : Rho) (Q : List D -> Prop) : Prop := da ρ λ ds => wp ds Q Ed
def qqD (C : Addr) (wp : WpL) (da : DE) (ρ : Rho) (Q : List D -> Prop) : Prop := da ρ λ o => match o with
 | .ins C1 fs => C1 = C /\ wp [.ins C1 fs] Q (λ _ => False)
 | _ => False
end
section
variable {X : Cx} {Ed : DX -> Prop} {E : XK} {K : PySem.W.Frag} {P : Program} {w : World} {pos p p2 : Pos} {tg iter elt : Expr} {te : TE} {de : DE} {ifs : List Expr} {tt : TT} {dt : DT} {ti : TI} {di : DI} {g : TG} {dg : DG} {scope : Scope} {own : List (Str × Nat)}
def qlx (di : DI) (g : DG) (tt : DT) (te : DE) (vs : List Nat) (ρ : Rho) (Q : List D -> Prop) : Prop :=
 di ρ λ xs => ∃ (B : List (List Key)) (sh : Nat -> Bool), B.length < 305 /\ (∀ k ∈ B, DS.Shaped sh k) /\ qbw B g tt te xs [] (qak ρ vs) λ acc => ∀ ys, qbP acc ys -> Q (ys.map tupD)
end
section
variable {X : Cx} {Ed : DX -> Prop} {E : XK} {K : PySem.W.Frag} {pos p : Pos} {e : Expr} {es : List Expr} {te : TE} {de : DE} {tal : TA} {dal : DA} {k : Nat} {C : Addr} {wp : Wp}
def qj4 (C : Addr) (wp : Wp) (Ed : DX -> Prop) (ds : List D) (Q : D -> Prop) : Prop := match ds with
 | [.ins C1 fs] => C1 = C /\ wp [.ins C1 fs] (λ z => ∃ i : Int, z = .int i /\ (0 <= i /\ i < 2 ^ 63) /\ Q (.int i)) Ed
 | _ => False
def qkR (C : Addr) (wp : Wp) (Ed : DX -> Prop) (da : DA) (ρ : Rho) (Q : D -> Prop) : Prop := da ρ λ ds => qj4 C wp Ed ds Q
end
section
variable {X : Cx} {Ed : DX -> Prop} {E : XK} {K : PySem.W.Frag} {pos p : Pos} {e a b c o e2 : Expr} {te ta tb tc : TE} {de da db dc : DE} {tal : TA} {dal : DA} {es : List Expr} {k : Nat} {x : Str} {tt : TT} {dt : DT}
def qpk (di : DI) (g : DG) (tt : DT) (te : DE) (vs : List Nat) (ρ : Rho) (Q : List D -> Prop) : Prop := di ρ λ xs => qaG g tt te xs [] (qak ρ vs) λ z => ∃ xs, z = D.lst xs /\ Q xs
end
section
variable {X : Cx} {Ed : DX -> Prop} {E : XK} {K : PySem.W.Frag} {pos p p2 : Pos} {e : Expr} {es : List Expr} {ta : TE} {da : DE} {k : Nat} {C : Addr}
def qrw (C : Addr) (m : Str) (wp : WpL) (Ed : DX -> Prop) (da : DE) (ρ : Rho) (Q : List D -> Prop) : Prop := da ρ λ o => match o with
 | .ins C1 fs => C1 = C /\ fget m fs = none /\ wp [.ins C1 fs] Q Ed
 | _ => False
end
abbrev DTW := Rho -> (Bool -> Rho -> Prop) -> Prop
section
variable {X : Cx} {Ed : DX -> Prop} {E : XK} {K : PySem.W.Frag} {pos : Pos} {a b c : Expr} {es : List Expr} {ta : TE} {da : DEW} {tt tu : TT} {dt du : DTW} {ts us : TS} {ds dus : DS}
def qqB (da : DEW) (ρ : Rho) (Q : Bool -> Rho -> Prop) : Prop := da ρ λ x ρ' => Q (!qcJ x) ρ'
def dOrW (dt du : DTW) (ρ : Rho) (Q : Bool -> Rho -> Prop) : Prop := dt ρ λ b ρ' => if b = true then Q true ρ' else du ρ' Q
def dIfW (c : DTW) (t u : DS) (d : qao) (ρ : Rho) : Prop := c ρ λ b ρ' => if b = true then t d ρ' else u d ρ'
end
abbrev DEP := Rho -> (Addr -> Addr -> List (Str × D) -> List D -> Prop) -> Prop
section
variable {X : Cx} {Ed : DX -> Prop} {E : XK} {K : PySem.W.Frag} {pos p p3 : Pos} {a b e : Expr} {es : List Expr} {ta tb : TE} {tal : TA} {dal : DA} {da db : DEP} {db2 : DE} {k : Nat} {C : Addr} {x : Str} {wp : WpP} {dvs : List V} {dd : List D}
def qod (wp : WpP) (dd : List D) (Ed : DX -> Prop) (da : DA) (ρ : Rho) (Q : Addr -> Addr -> List (Str × D) -> List D -> Prop) : Prop := da ρ λ ds => wp (ds ++ dd) (λ q fs xs => ∀ x, Q x q fs xs) Ed
def qpM (i j : Nat) (C : Addr) (da : DEP) (db : DE) (d : qao) (ρ : Rho) : Prop := da ρ λ x q fs xs => db ρ λ y => i < ρ.length /\ d.nx ((ρ.set i (some (.pg x C fs q xs))).set j (some (.d y)))
def qld (i j : Nat) (C : Addr) (da db : DEP) (d : qao) (ρ : Rho) : Prop := da ρ λ x q fs xs => db ρ λ x2 q2 fs2 xs2 => i < ρ.length /\ j < ρ.length /\ d.nx ((ρ.set i (some (.pg x C fs q xs))).set j (some (.pg x2 C fs2 q2 xs2)))
def ofR (C : Addr) (wp : WpP) : Wp := λ ds Q Ed => wp ds (λ q fs xs => Q (.ins C (pgD q xs fs))) Ed
end
omit [TbC] in
theorem qzb {P : Program} {w : World} : StX.CXUp (L2N.CX P w) := by
 intro outer s H s2 H2 E e s' un kp ho hc
 obtain ⟨a, B, H', cls, d, ea, fl, hok, ub, na, os, ag, he⟩ := hc
 refine ⟨a, B, H', cls, d, ea, fl, hok, ?_, na, os.trans ho, ag, he⟩
 have fr : ∀ b o, s.heap.get? b = some o -> H b = none -> H2 b = none := λ b o q n => un.free b o q n (by simp)
 refine ⟨λ b o q n hb => ub.keep b o (kp b o q) (fr b o q n) hb, λ b o q hb => ub.slot b o (kp b o q) hb, ?_, ?_, ?_, ?_, ?_⟩
 · exact λ b o q n => ub.free b o (kp b o q) (fr b o q n)
 · exact λ b o q hb => ub.there b o (kp b o q) hb
 · exact λ b xs q => ub.tups b xs (un.tups b xs q)
 · exact λ b o xs q => ub.frzs b o xs (un.frzs b o xs q)
 · intro b ps q
   obtain ⟨m1, e1⟩ := un.tbls b ps q
   obtain ⟨m2, e2⟩ := ub.tbls b _ e1
   exact ⟨m1 ++ m2, e2.trans (by rw [Array.append_assoc])⟩
structure BndV (K : PySem.W.Frag) (fd : FuncData) (ps : List Str) (pv : Str) (m : Nat) (ks : List Str) (g : List Value -> List Value -> List Value) (gV : List V -> List V -> List V) : Prop where
 to : ∀ {M : Model} {A : Around} {Q : List (Str × Value) -> Shared -> Prop} {E : Value -> Shared -> Prop} {s : Shared} (us rest ws : List Value), K.In s.heap -> us.length = m -> ws.length = ks.length ->
   wpAny M A (newTuple rest >>= λ t => pure (ps.zip (g us ws) ++ [(pv, t)])) Q E s -> wpAny M A (bindArgs fd ⟨us ++ rest, ks.zip ws⟩) Q E s
 rel : ∀ {vs : List V} {us : List Value} {zs : List V} {ws : List Value}, Vals vs us -> Vals zs ws -> Vals (gV vs zs) (g us ws)
 len : ∀ {us ws : List Value}, us.length = m -> ws.length = ks.length -> (g us ws).length = ps.length
def FnV (P : Program) (w : World) (K : PySem.W.Frag) (mg : Str -> Option Value) (base : Heap) (CX : CXT) (k : Nat) (f : Addr) (ks : List Str) (sp : List V -> List V -> Hp -> VK -> XK -> Prop) : Prop :=
 ∀ (A : Around) (outer : List Env) (s : Shared) (H : Hp) (us ws : List Value) (vs zs : List V) (Q : VK) (E : XK), Room k A -> Env0 P w K mg base A outer s H -> Vals vs us -> Vals zs ws -> zs.length = ks.length -> sp vs zs H Q E ->
   codeAny (model P w) A (.call (.ref f) ⟨us, ks.zip ws⟩) (CR CX outer P w H s Q E) s
def SpV (K : PySem.W.Frag) (m : Nat) (gV : List V -> List V -> List V) (wp : Wp) (vs zs : List V) (H : Hp) (Q : VK) (E : XK) : Prop :=
 ∃ v1 v2, vs = v1 ++ v2 /\ v1.length = m /\ v2.length <= sizeLine /\ ∀ p, H p = none -> SpW K wp (gV v1 zs ++ [.ref p]) (upd H p (.tup v2)) Q E
section
variable {P : Program} {w : World} {K : PySem.W.Frag} {mg : Str -> Option Value} {base : Heap}
theorem qBv {x qual : Str} {st : Stmt} {f : Addr} {fd : FuncData} {N ps : List Str} {pv : Str} {ks : List Str} {k m : Nat} {g : List Value -> List Value -> List Value} {gV : List V -> List V -> List V} {wp : Wp} (n : Nat) (hn : N.length = n) (F : FunX K x qual st f fd) (S : FnScope N (ps ++ [pv]) (defScope st))
   (hb : BndV K fd ps pv m ks g gV) (len : ∀ ds Q Ed, wp ds Q Ed -> ds.length = ps.length + 1)
   (body : ∀ (cdv : Value) (A : Around) (outer : List Env) (s : Shared) (H : Hp) (E : XK), Room k (A.deeper (envOfC qual (defScope st) s.heap.objs.size f cdv)) -> ∀ (ds : List D) (Qd : D -> Prop) (Ed : DX -> Prop), wp ds Qd Ed ->
     ∃ ts bs, JB (bx P w K mg base N qual st f cdv A outer s H E) Ed E (defBody st) ts bs /\ bs { nx := λ _ => Qd .non, rt := λ x _ => Qd x } (qai n ds)) (hz : n <= 1000 := by decide) : FnV P w K mg base (L2N.CX P w) (k + 1) f ks (SpV K m gV wp) := by
 have hpl : ps.length + 1 <= N.length := by
   have e := congrArg List.length S.pre
   rw [List.length_take, List.length_append, List.length_singleton] at e
   omega
 subst hn
 intro A outer s H us ws vs zs Q E hr e0 r rz hl ⟨v1, v2, ev, h1, h2, hq⟩
 obtain ⟨oc, od, dV, kV, doc, pm, an, cdv, ct, osl, rfl, lk, hcd⟩ := F.ex
 subst ev
 obtain ⟨u1, u2, eu, r1, r2⟩ := StX.vals_split r
 subst eu
 have hn : H s.heap.objs.size = none := e0.hok.fresh (Nat.le_refl _)
 have l1 : u1.length = m := by rw [<- r1.length]; exact h1
 have l2 : u2.length <= sizeLine := by rw [<- r2.length]; exact h2
 have l3 : ws.length = ks.length := by rw [<- rz.length]; exact hl
 have rg := hb.rel r1 rz
 have lg : (g u1 ws).length = ps.length := hb.len l1 l3
 refine StX.run_bnd lk hcd S hr e0 (G := λ xs H2 => ∃ p, H p = none /\ xs = gV v1 zs ++ [V.ref p] /\ H2 = upd H p (.tup v2)) (λ A' Ex Q' h => ?_) λ s2 H2 xs ⟨p, hp, ex, eH⟩ hr' => ?_
 · refine hb.to u1 u2 ws (e0.mod.kin.keeps λ b o e => (e0.bs b o e).1) l1 l3 ?_
   refine wpAny_bind (wpAny_newTuple (wpAny_pure ?_) l2)
   have new : ObjOk P w (upd H s.heap.objs.size (.tup v2)) (s.heap.push ({ cls := .type "tuple", data := .seq u2.toArray } : Obj)) s.heap.objs.size (.tup v2) := ⟨h2, u2, r2, ⟨_, Heap.get?_push_size _ rfl, rfl, _, rfl⟩⟩
   have un := StX.un_laid (fs := frs outer) (s := s) (o := ({ cls := .type "tuple", data := .seq u2.toArray } : Obj)) (u := .tup v2) hn
   have z := h _ _ (gV v1 zs ++ [V.ref s.heap.objs.size]) (g u1 ws ++ [Value.ref s.heap.objs.size]) (StX.env0_laid e0 new) un rfl (λ e s' => qzb outer s H _ _ E e s' un (λ b o q => Heap.get?_push_of_some _ q) rfl) (rg.append (.cons rfl .nil))
     (by rw [List.length_append, List.length_append, rg.length, lg] <;> rfl) ⟨_, hn, rfl, rfl⟩
   rw [List.zip_append lg.symm] at z
   exact z
 · subst ex eH
   obtain ⟨H0, ds, Qd, Ed, sm, r, hw, q, x⟩ := hq p hp
   obtain ⟨ts, bs, jb, hb⟩ := body cdv A outer s2 _ E hr' ds Qd Ed hw
   exact ⟨ts, jb.pe, jb.sim H0 _ _ H0 _ _ _ (startS sm r (by rw [len ds Qd Ed hw]; exact hpl) hz) x { nx := λ _ => Qd .non, rt := λ x _ => Qd x } _ ⟨λ A H0' H' σ ρ R h => q .non .non H0' H' R.gr rfl h, λ A H0' H' σ ρ d v R rv h => q d v H0' H' R.gr rv h, λ _ _ _ _ _ _ h => h.elim, λ _ _ _ _ _ _ h => h.elim⟩ hb⟩
end
section
variable {K : PySem.W.Frag} {fd : FuncData} {pv : Str} {ks : List Str}
theorem quN (h0 : ∀ ws : List Value, ws.length = ks.length -> bindArgs fd ⟨[], ks.zip ws⟩ = (newTuple [] >>= λ t => pure (ks.zip ws ++ [(pv, t)]))) (h1 : ∀ (ws : List Value) (r : Value) (rs : List Value), ws.length = ks.length -> bindArgs fd ⟨r :: rs, ks.zip ws⟩ = (newTuple (r :: rs) >>= λ t => pure (ks.zip ws ++ [(pv, t)]))) :
   BndV K fd ks pv 0 ks (λ _ ws => ws) (λ _ zs => zs) where
 to us rest ws hK e1 e2 h := by
   rw [List.length_eq_zero_iff.mp e1]
   cases rest with
   | nil => rw [show ([] : List Value) ++ [] = [] from rfl, h0 ws e2]; exact h
   | cons r rs => rw [show ([] : List Value) ++ (r :: rs) = r :: rs from rfl, h1 ws r rs e2]; exact h
 rel _ r := r
 len _ e := e
end
section
variable {P : Program} {w : World} {K : PySem.W.Frag} {mg : Str -> Option Value} {base : Heap}
structure qgk (P : Program) (w : World) (K : PySem.W.Frag) (mg : Str -> Option Value) (base : Heap) (x : Str) (k : Nat) (wp : Wp) (ks : List Str) (gV : List V -> List V -> List V) (gd : List D -> List D) : Prop where
 ex : ∃ (f : Addr), mg x = some (.ref f) /\ PySem.W.keepIn K (.ref f) = true /\ FnV P w K mg base (L2N.CX P w) k f ks (SpV K 0 gV wp) /\
   ∀ (H : Hp) (ds : List D) (zs : List V), ds.length = ks.length -> Reps K H ds zs -> Reps K H (gd ds) (gV [] zs)
end
section
variable {X : Cx} {Ed : DX -> Prop} {E : XK} {K : PySem.W.Frag} {pos p : Pos} {e : Expr} {es : List Expr} {kws : List Keyword} {tal tkl t tk : TA} {dal dkl : DA} {wp : Wp} {k m : Nat} {x : Str} {ks : List Str} {f : Addr} {CX : CXT} {sp : List V -> List V -> Hp -> VK -> XK -> Prop} {gV : List V -> List V -> List V} {gd : List D -> List D}
theorem qlr {pins : List (Addr × Obj)} {σ : L2.St} {H : Hp} {s : Shared} {Q : VK} {us ws : List Value} {vs zs : List V} (F : FnV X.prog X.w X.K X.mg X.base CX k f ks sp) (hr : Room k X.A) (hx : Passes CX X E)
   (I : Inv X pins σ H s) (r : Vals vs us) (rz : Vals zs ws) (l2 : zs.length = ks.length) (h : sp vs zs H Q E) : wpAny (model X.prog X.w) X.A (call (.ref f) us (ks.zip ws)) (EP X pins σ Q) X.xe s := by
 refine wpAny_call (codeAny_mono (F X.A X.stack s H us ws vs zs Q E hr I.env0 r rz l2 h) λ r s' hq => ?_)
 cases r with
 | error e => exact hx pins σ H s e s' I hq
 | ok fl =>
   cases fl with
   | ret u => exact I.after hq
   | next => exact False.elim hq
   | brk => exact False.elim hq
   | cont => exact False.elim hq
def tCallV (n : Nat) (sp : List V -> List V -> Hp -> VK -> XK -> Prop) (E : XK) (t tk : TA) : TE := λ σ H Q => t σ H λ vs H1 => tk σ H1 λ zs H2 => zs.length = n /\ sp vs zs H2 Q E
theorem qzc (F : FnV X.prog X.w X.K X.mg X.base CX k f ks sp) (hr : Room k X.A) (hg : Gl X x) (hm : X.mg x = some (.ref f)) (hk : PySem.W.keepIn X.K (.ref f) = true) (hx : Passes CX X E)
   (ha : PA X (e :: es) t) (hkw : PK X kws tk) (hall : (backToKw pos (keywordEach kws X.env)).all (·.1.isSome) = true) (hks : (backToKw pos (keywordEach kws X.env)).filterMap (·.1) = ks)
   (hdb : (x == ("__debug__" : Str)) = false) (he : starEach (e :: es) X.env = (false, eval e X.env) :: starEach es X.env)
   (hpl : ((backTo pos (starEach (e :: es) X.env)).any (·.1) || (backToKw pos (keywordEach kws X.env)).any (·.1.isNone)) = false) :
   PE X (.Call (.Name x p) (e :: es) kws pos) (tCallV ks.length sp E t tk) := by
 refine ⟨λ pins s σ H Q I h => ?_⟩
 refine wpAny_Call_Name_kw (ld_glob I hg hm ?_ hdb)
 refine PySem.W.callWith_KW (h₀ := X.base) I.ok.mod.kin hk hall (thn (ha.run pos pins s σ H _ I h) λ us s1 ⟨vs, H1, I1, r, q⟩ => ?_) hpl he
 refine thn (hkw.run pos pins s1 σ H1 _ I1 q) λ ws s2 ⟨zs, H2, I2, rz, l2, q2⟩ => ⟨I2.kIn, ?_⟩
 rw [hks]
 exact qlr F hr hx I2 r rz l2 q2
theorem qvi (F : FnV X.prog X.w X.K X.mg X.base CX k f ks sp) (hr : Room k X.A) (hg : Gl X x) (hm : X.mg x = some (.ref f)) (hk : PySem.W.keepIn X.K (.ref f) = true) (hx : Passes CX X E)
   (hkw : PK X kws tk) (hall : (backToKw pos (keywordEach kws X.env)).all (·.1.isSome) = true) (hks : (backToKw pos (keywordEach kws X.env)).filterMap (·.1) = ks)
   (hdb : (x == ("__debug__" : Str)) = false) (hpl : ((backTo pos (starEach [] X.env)).any (·.1) || (backToKw pos (keywordEach kws X.env)).any (·.1.isNone)) = false) :
   PE X (.Call (.Name x p) [] kws pos) (tCallV ks.length sp E tNil tk) := by
 refine ⟨λ pins s σ H Q I h => ?_⟩
 refine wpAny_Call_Name_kw (ld_glob I hg hm ?_ hdb)
 refine PySem.W.callWith_KW0 (h₀ := X.base) I.ok.mod.kin hk hall ?_ hpl
 refine thn (hkw.run pos pins s σ H _ I h) λ ws s2 ⟨zs, H2, I2, rz, l2, q2⟩ => ⟨I2.kIn, ?_⟩
 rw [hks]
 exact qlr (us := []) F hr hx I2 .nil rz l2 q2
def qec (n : Nat) (wp : Wp) (gd : List D -> List D) (Ed : DX -> Prop) (da dk : DA) (ρ : Rho) (Q : D -> Prop) : Prop := da ρ λ ds => dk ρ λ es => es.length = n /\ ds.length <= 200000 /\ wp (gd es ++ [.tup ds]) Q Ed
theorem qnH {n : Nat} (hd : ∀ (H : Hp) (ds : List D) (zs : List V), ds.length = n -> Reps K H ds zs -> Reps K H (gd ds) (gV [] zs)) (ha : SimA K Ed E tal dal) (hk : SimA K Ed E tkl dkl) : SimE K Ed E (tCallV n (SpV K 0 gV wp) E tal tkl) (qec n wp gd Ed dal dkl) := λ B0 B1 A H0 H σ ρ R X Qd h Q q =>
 ha B0 B1 A H0 H σ ρ R X _ h _ λ ds vs H1 H2 R1 g1 r1 k1 => hk B0 B1 A H1 H2 σ ρ R1 X _ k1 _ λ es zs H3 H4 R2 g2 r2 k2 => by
   obtain ⟨l1, l2, k2⟩ := k2
   refine ⟨r2.length.trans l1, [], vs, rfl, rfl, by rw [r1.length]; exact Nat.le_trans l2 (by decide), λ p hp => ?_⟩
   have g := Grow.new (o := .tup vs) R2.ex hp
   have R3 := R2.grow g
   have rp : Rep K (upd H3 p (.tup vs)) (.tup ds) (.ref p) := ⟨p, vs, rfl, .inl (.inl upd_same), Reps.mono (g2.g0.trans g.g0) _ _ r1⟩
   exact qdQ R3 X ((Reps.mono g.g0 _ _ (hd H3 es zs l1 r2)).append (show Reps K _ [.tup ds] [.ref p] from ⟨_, _, rfl, rp, rfl⟩)) k2 λ x v H0' H' R4 g4 rv hq => q x v H0' H' R4 (g1.trans (g2.trans (g.trans g4))) rv hq
theorem qnC (F : qgk X.prog X.w X.K X.mg X.base x k wp ks gV gd) (hr : Room k X.A) (hx : Passes (L2N.CX X.prog X.w) X E) (ha : JA X Ed E (e :: es) tal dal) (hkw : JK X Ed E kws tkl dkl) (hg : Gl X x := by rfl) (hall : (backToKw pos (keywordEach kws X.env)).all (·.1.isSome) = true := by rfl) (hks : (backToKw pos (keywordEach kws X.env)).filterMap (·.1) = ks := by rfl)
   (hdb : (x == ("__debug__" : Str)) = false := by decide) (he : starEach (e :: es) X.env = (false, eval e X.env) :: starEach es X.env := by rfl) (hpl : ((backTo pos (starEach (e :: es) X.env)).any (·.1) || (backToKw pos (keywordEach kws X.env)).any (·.1.isNone)) = false := by rfl) :
   JE X Ed E (.Call (.Name x p) (e :: es) kws pos) (tCallV ks.length (SpV X.K 0 gV wp) E tal tkl) (qec ks.length wp gd Ed dal dkl) := by
 obtain ⟨f, h1, h2, h3, h4⟩ := F.ex
 exact ⟨qzc h3 hr hg h1 h2 hx ha.pe hkw.pe hall hks hdb he hpl, qnH h4 ha.sim hkw.sim⟩
theorem qzJ (F : qgk X.prog X.w X.K X.mg X.base x k wp ks gV gd) (hr : Room k X.A) (hx : Passes (L2N.CX X.prog X.w) X E) (hkw : JK X Ed E kws tkl dkl) (hg : Gl X x := by rfl) (hall : (backToKw pos (keywordEach kws X.env)).all (·.1.isSome) = true := by rfl) (hks : (backToKw pos (keywordEach kws X.env)).filterMap (·.1) = ks := by rfl)
   (hdb : (x == ("__debug__" : Str)) = false := by decide) (hpl : ((backTo pos (starEach [] X.env)).any (·.1) || (backToKw pos (keywordEach kws X.env)).any (·.1.isNone)) = false := by rfl) :
   JE X Ed E (.Call (.Name x p) [] kws pos) (tCallV ks.length (SpV X.K 0 gV wp) E tNil tkl) (qec ks.length wp gd Ed dNil dkl) := by
 obtain ⟨f, h1, h2, h3, h4⟩ := F.ex
 exact ⟨qvi h3 hr hg h1 h2 hx hkw.pe hall hks hdb hpl, qnH h4 qeT hkw.sim⟩
end
section
variable {P : Program} {w : World} {K : PySem.W.Frag} {mg : Str -> Option Value} {base : Heap} {X : Cx} {Ed : DX -> Prop} {E : XK} {pos p p2 p3 apos : Pos} {a b e o : Expr} {es : List Expr} {te ta tb to : TE} {tal : TA} {dal : DA} {de da db : DEP} {dob dx dy : DE} {k : Nat} {C : Addr} {x : Str} {wp : WpP} {dvs : List V} {dd : List D} {sts : List Stmt} {ts : TS} {ds : DS}
def qpv (C : Addr) (de : DEP) (d : qao) (ρ : Rho) : Prop := de ρ λ x q fs xs => d.rt (.cls x) [some (.pg x C fs q xs)]
def qph (i : Nat) (C : Addr) (de : DEP) (d : qao) (ρ : Rho) : Prop := de ρ λ x q fs xs => i < ρ.length /\ d.nx (ρ.set i (some (.pg x C fs q xs)))
def qkc (C : Addr) (wp : WpP) (Ed : DX -> Prop) (da db : DE) (ρ : Rho) (Q : Addr -> Addr -> List (Str × D) -> List D -> Prop) : Prop := da ρ λ x => db ρ λ y => match x, y with
 | .ins C1 f1, .ins C2 f2 => C1 = C /\ C2 = C /\ wp [.ins C1 f1, .ins C2 f2] (λ q fs xs => ∀ x, Q x q fs xs) Ed
 | _, _ => False
def qkw (C : Addr) (m : Str) (wp : WpP) (Ed : DX -> Prop) (da : DE) (dal : DA) (ρ : Rho) (Q : Addr -> Addr -> List (Str × D) -> List D -> Prop) : Prop := da ρ λ o => match o with
 | .ins C1 fs => C1 = C /\ fget m fs = none /\ dal ρ λ ds => wp (.ins C1 fs :: ds) (λ q fs xs => ∀ x, Q x q fs xs) Ed
 | _ => False
end
section
variable {X : Cx} {Ed : DX -> Prop} {E : XK} {pos apos : Pos} {o e : Expr} {to te : TE} {dob de : DE}
def qnS (da db : DE) (ρ : Rho) (Q : D -> Prop) : Prop := da ρ λ x => (∃ a, x = .str a) /\ db ρ λ y => match x, y with
 | .str a, .str b => (b.length == 0) = false /\ a.length + 2 <= 16777216 /\ Q (.lst ((Txt.split a b).map D.str))
 | _, _ => False
end
end DL
namespace L2
open PySem PySem.Spec PyProof.Rows
end L2
namespace DL
variable [TbC]
open PySem PySem.Spec PyProof.Rows L2
section
variable {X : Cx} {Ed : DX -> Prop} {E : XK} {K : PySem.W.Frag} {pos p sp_ : Pos} {e : Expr} {es : List Expr} {kws : List Keyword} {te : TE} {de : DE} {tal tkl t tk : TA} {dal dkl : DA} {wp : WpI} {k : Nat} {x : Str} {ks : List Str} {f C : Addr} {CX : CXT} {sp : List V -> List V -> Hp -> VK -> XK -> Prop} {gV : List V -> List V -> List V} {gd : List D -> List D}
def dMkV (C : Addr) (n : Nat) (wp : WpI) (gd : List D -> List D) (Ed : DX -> Prop) (da dk : DA) (ρ : Rho) (Q : D -> Prop) : Prop := da ρ λ ds => dk ρ λ es => es.length = n /\ ds.length <= 200000 /\ wp (gd es ++ [.tup ds]) (λ fs => Q (.ins C fs)) Ed
def dMkS (C : Addr) (n : Nat) (wp : WpI) (gd : List D -> List D) (Ed : DX -> Prop) (de : DE) (dk : DA) (ρ : Rho) (Q : D -> Prop) : Prop := de ρ λ y => dk ρ λ es => match y with
 | .tup ds => es.length = n /\ ds.length <= 200000 /\ wp (gd es ++ [.tup ds]) (λ fs => Q (.ins C fs)) Ed
 | _ => False
end
end DL
namespace PySem
open Sem (wp)
end PySem
namespace L2
open PySem PySem.Spec PyProof.Rows
end L2
namespace DL
variable [TbC]
open PySem PySem.Spec PyProof.Rows L2
section
variable {X : Cx} {Ed : DX -> Prop} {E : XK} {K : PySem.W.Frag} {pos p : Pos} {e : Expr} {tal : TA} {dal : DA}
def qqd (da : DA) (ρ : Rho) (L : List D -> Prop) : Prop := da ρ λ ds => match ds with
 | [.lst xs] => L (qfk 0 xs)
 | [.tup xs] => L (qfk 0 xs)
 | _ => False
end
section
variable {X : Cx} {Ed : DX -> Prop} {E : XK} {pos p1 p2 : Pos}
def qq1 (i j : Nat) (d : qao) (ρ : Rho) : Prop := i < ρ.length /\ j < ρ.length /\ ∀ q1 q2, d.nx ((ρ.set i (some (.lst q1 []))).set j (some (.lst q2 [])))
end
section
variable {X : Cx} {Ed : DX -> Prop} {E : XK} {pos p2 : Pos} {e : Expr} {te : TE} {de : DE}
def dSlN (de : DE) (dl dh : DO) (ρ : Rho) (Q : List D -> Prop) : Prop := de ρ λ x => dl ρ λ l => dh ρ λ h => match x with
 | .lst xs => Q (cutD xs l h)
 | _ => False
end
section
variable {X : Cx} {Ed : DX -> Prop} {E : XK} {K : PySem.W.Frag} {pos : Pos} {a b : Expr} {ta tb : TE} {da db : DE} {k : Nat} {C : Addr} {wp : Wp}
def qqY (n : Nat) (fs : List (Str × D)) : Bool := fs.all λ p => p.2.isData n
def dEqT (C : Addr) (wp : Wp) (Ed : DX -> Prop) : List D -> List D -> (D -> Prop) -> Prop
 | [], ys, Q => Q (.bl ys.isEmpty)
 | _ :: _, [], Q => Q (.bl false)
 | x :: xs, y :: ys, Q => ∃ n f1 f2, x = .ins C f1 /\ y = .ins C f2 /\ (qqY n f1 = true /\ qqY n f2 = true) /\ (f1 = f2 -> dEqT C wp Ed xs ys Q) /\ wp [.ins C f1, .ins C f2] (λ z => ∃ b, z = .bl b /\ if b = true then dEqT C wp Ed xs ys Q else Q (.bl false)) Ed
def dEqO (C : Addr) (wp : Wp) (Ed : DX -> Prop) (da db : DE) (ρ : Rho) (Q : D -> Prop) : Prop := da ρ λ x => db ρ λ y => match x, y with
 | .tup xs, .tup ys => dEqT C wp Ed xs ys Q
 | _, _ => False
end
section
variable {X : Cx} {Ed : DX -> Prop} {E : XK} {K : PySem.W.Frag} {pos p p1 p2 p3 : Pos} {a b e : Expr} {ta tb te : TE} {da db de : DE} {k : Nat} {C : Addr} {wp : Wp}
def qmg (C : Addr) (wp : Wp) (Ed : DX -> Prop) (da db : DE) (ρ : Rho) (Q : D -> Prop) : Prop := da ρ λ x => db ρ λ y => match y with
 | .ins C1 f1 => C1 = C /\ wp [.ins C1 f1, x] (λ z => ∃ b, z = .bl b /\ Q (.bl b)) Ed
 | _ => False
def qpU (de : DE) (ρ : Rho) (Q : D -> Prop) : Prop := de ρ λ x => match x with
 | .lst xs => Q (.lst xs.reverse)
 | _ => False
def qm0 (de : DE) (ρ : Rho) (Q : D -> Prop) : Prop := de ρ λ x => ∃ xs : List Str, x = .lst (xs.map D.str) /\ xs.length < 64 /\ ∀ ys : List Str, ys.Perm xs -> sortedS ys = true -> Q (.lst (ys.map D.str))
end
theorem qtC {X : Cx} {A : Around} {outer : List Env} {s : Shared} {H : Hp} {E : XK} {sc scope : Scope} {f c' : Addr} {N : List Str} {own : List (Str × Nat)} (h : blkC N sc scope own = true) (e : X.N = N := by rfl) : BlkOk (LamX.lamCx X A outer s H E sc f c').N (LamX.lamCx X A outer s H E sc f c').env.scope scope own := by
 subst e
 exact blkOk_by h
section
variable {X : Cx} {E : XK} {K : PySem.W.Frag} {pos p : Pos} {e a b c o : Expr} {te ta tb tc : TE}
def dInK (neg : Bool) (x y : D) (Q : D -> Prop) : Prop := match y with
 | .dk kvs => onS (keyOf x) λ k => Q (.bl (neg ^^ (valD kvs k).isSome))
 | _ => False
def subT (i j : Str) : Bool := !(Builtin.Str.occurrences j i 0 j.length 1).isEmpty
def dInT (x y : D) (Q : D -> Prop) : Prop := match x, y with
 | .str i, .str j => Q (.bl (subT i j))
 | _, _ => False
end
def mk2 (f1 f2 code : Str) : List D -> List (Str × D)
 | [a, b] => [(f2, b), (f1, a), ("code", .str code)]
 | _ => []
def ok2 : List D -> Prop
 | [.int i, .str y] => i.natAbs.log2 < 1920 /\ (Str.ofString (toString i)).length <= 1000 /\ y.length <= 1000
 | _ => False
inductive SO where
 | ins (C : Addr) (fs : List (Str × D)) | lst (xs : List D) | dk (kvs : List (Key × D))
abbrev Sto := Addr -> Option SO
def put (l : Sto) (a : Addr) (o : SO) : Sto := λ p => if p = a then some o else l p
theorem put_same {l : Sto} {a : Addr} {o : SO} : put l a o a = some o := if_pos rfl
class StC where
 cs : List Addr
def quJ (K : PySem.W.Frag) (H0 : Hp) : SO -> HO -> Prop
 | .ins C fs, o => ∃ dx fvs, o = .ins C dx fvs /\ Repf K H0 fs fvs
 | .lst xs, o => ∃ vs, o = .lst vs /\ Reps K H0 xs vs
 | .dk kvs, o => ∃ vs, o = .dK vs /\ Repk K H0 kvs vs
structure FrX (K : PySem.W.Frag) (H0 : Hp) (σ : L2.St) (ρ : Rho) : Prop where
 len : σ.length = ρ.length
 slot : ∀ (i : Nat) (w : Option SV), ρ[i]? = some w -> (w = none /\ ∃ v, σ[i]? = some v) ∨ ∃ (d : D) (v : V), w = some (.d d) /\ σ[i]? = some (some v) /\ Rep K H0 d v
 sz : ρ.length <= 1000
section
variable {K : PySem.W.Frag} {H0 H H0' H' : Hp} {σ : L2.St} {ρ : Rho}
end
variable [StC]
def SO.Cl : SO -> Prop
 | .ins C _ => C ∈ StC.cs
 | _ => True
structure StoX (K : PySem.W.Frag) (B0 B1 H0 H : Hp) (l : Sto) : Prop where
 ex : Same H0 H
 gr : Grow B0 B1 H0 H
 ob : ∀ a o, l a = some o -> H0 a = none /\ B1 a = none /\ (∃ ho, H a = some ho /\ quJ K H0 o ho) /\ o.Cl
section
variable {K : PySem.W.Frag} {B0 B1 H0 H H0' H' : Hp} {l : Sto} {a : Addr} {o : SO} {ho : HO}
structure ExX (K : PySem.W.Frag) (B0 B1 : Hp) (Ed : DX -> Sto -> Prop) (E : XK) : Prop where
 ex : ∀ (C : Addr) (fs : List (Str × D)) (fvs : List (Str × V)) (dx : Addr) (H0' H' : Hp) (l' : Sto), StoX K B0 B1 H0' H' l' -> H' dx = some (.xd fvs) -> Repf K H0' fs fvs -> Ed (C, fs) l' -> E (.ref C) (some dx) H'
 td : TD B0 B1
def woL (H : Hp) (l : Sto) : Hp := λ p => match l p with
 | some _ => none
 | none => H p
end
def mapV (g : D -> D) (fs : List (Str × D)) : List (Str × D) := fs.map λ p => (p.1, g p.2)
def mapK (g : D -> D) (kvs : List (Key × D)) : List (Key × D) := kvs.map λ p => (p.1, g p.2)
def seeV (l : Sto) : Nat -> D -> D
 | 0, d => d
 | n + 1, d => match d with
   | .cls a => match l a with
     | some (.ins C fs) => .ins C (mapV (seeV l n) fs)
     | some (.lst xs) => .lst (xs.map (seeV l n))
     | some (.dk kvs) => .dk (mapK (seeV l n) kvs)
     | none => .cls a
   | d => d
def seeR (l : Sto) (n : Nat) : List Nat -> Rho -> Rho
 | [], ρ => ρ
 | i :: r, ρ => match lk i ρ with
   | some (.d x) => seeR l n r (ρ.set i (some (.d (seeV l n x))))
   | _ => seeR l n r ρ
mutual
def D.Cln : D -> Prop
 | .non => True
 | .bl _ => True
 | .int _ => True
 | .str _ => True
 | .ty _ => True
 | .cls _ => True
 | .tup xs => Clns xs
 | .lst _ => False
 | .ins C fs => C ∉ StC.cs /\ Clnf fs
 | .bag => False
 | .lat _ _ => False
 | .dk _ => False
 | .dt _ _ => False
def Clns : List D -> Prop
 | [] => True
 | d :: r => d.Cln /\ Clns r
def Clnf : List (Str × D) -> Prop
 | [] => True
 | (_, d) :: r => d.Cln /\ Clnf r
end
end DL
namespace DL
variable [TbC] [StC]
open PySem PySem.Spec PyProof.Rows L2
abbrev EdX := DX -> Sto -> Prop
abbrev DEX := Rho -> Sto -> (D -> Sto -> Prop) -> Prop
abbrev DTX := Rho -> Sto -> (Bool -> Sto -> Prop) -> Prop
abbrev DAX := Rho -> Sto -> (List D -> Sto -> Prop) -> Prop
def edM (Ed : EdX) (l : Sto) : DX -> Prop := λ e => Ed e l
def edS (Ed : EdX) (l : Sto) : DX -> Prop := λ e => Clnf e.2 /\ Ed e l
def dM (de : (DX -> Prop) -> DE) (Ed : EdX) (ρ : Rho) (l : Sto) (Q : D -> Sto -> Prop) : Prop := de (edM Ed l) ρ λ d => Q d l
def dMT (de : (DX -> Prop) -> DT) (Ed : EdX) (ρ : Rho) (l : Sto) (Q : Bool -> Sto -> Prop) : Prop := de (edM Ed l) ρ λ d => Q d l
def dMA (de : (DX -> Prop) -> DA) (Ed : EdX) (ρ : Rho) (l : Sto) (Q : List D -> Sto -> Prop) : Prop := de (edM Ed l) ρ λ d => Q d l
def dS (n : Nat) (is : List Nat) (de : (DX -> Prop) -> DE) (Ed : EdX) (ρ : Rho) (l : Sto) (Q : D -> Sto -> Prop) : Prop := de (edS Ed l) (seeR l n is ρ) λ d => d.Cln /\ Q d l
def dST (n : Nat) (is : List Nat) (de : (DX -> Prop) -> DT) (Ed : EdX) (ρ : Rho) (l : Sto) (Q : Bool -> Sto -> Prop) : Prop := de (edS Ed l) (seeR l n is ρ) λ d => Q d l
def dSA (n : Nat) (is : List Nat) (de : (DX -> Prop) -> DA) (Ed : EdX) (ρ : Rho) (l : Sto) (Q : List D -> Sto -> Prop) : Prop := de (edS Ed l) (seeR l n is ρ) λ d => Clns d /\ Q d l
section
variable {X : Cx} {Ed : EdX} {E : XK} {K : PySem.W.Frag} {pos p : Pos} {e a b c o : Expr} {te ta tb tc : TE} {de da db dc : DEX} {tt tu : TT} {dt du : DTX} {tal : TA} {dal : DAX} {es : List Expr} {x : Str} {k : Nat}
def qmB (_ : Rho) (l : Sto) (Q : List D -> Sto -> Prop) : Prop := Q [] l
def qpQ (de : DEX) (dr : DAX) (ρ : Rho) (l : Sto) (Q : List D -> Sto -> Prop) : Prop := de ρ l λ x l1 => dr ρ l1 λ xs l2 => Q (x :: xs) l2
def qb1 (C : Addr) (o : D) (l : Sto) (k : Addr -> List (Str × D) -> Prop) : Prop := match o with
 | .cls a => match l a with
   | some (.ins C' fs) => C' = C /\ k a fs
   | _ => False
 | _ => False
def qa7 (o : D) (l : Sto) (k : Addr -> List D -> Prop) : Prop := match o with
 | .cls a => match l a with
   | some (.lst xs) => k a xs
   | _ => False
 | _ => False
def dkAt (o : D) (l : Sto) (k : Addr -> List (Key × D) -> Prop) : Prop := match o with
 | .cls a => match l a with
   | some (.dk xs) => k a xs
   | _ => False
 | _ => False
def qnY (C : Addr) (f : Str) (da : DEX) (ρ : Rho) (l : Sto) (Q : D -> Sto -> Prop) : Prop := da ρ l λ o l1 => qb1 C o l1 λ _ fs => onS (fget f fs) λ d => Q d l1
def dxOp (r : D -> D -> (D -> Prop) -> Prop) (da db : DEX) (ρ : Rho) (l : Sto) (Q : D -> Sto -> Prop) : Prop := da ρ l λ x l1 => db ρ l1 λ y l2 => r x y λ z => Q z l2
def dxUn (r : D -> (D -> Prop) -> Prop) (da : DEX) (ρ : Rho) (l : Sto) (Q : D -> Sto -> Prop) : Prop := da ρ l λ x l1 => r x λ z => Q z l1
def ql5 (da : DAX) (ρ : Rho) (l : Sto) (Q : D -> Sto -> Prop) : Prop := da ρ l λ xs l1 => xs.length <= 1000 /\ Q (.tup xs) l1
def qmG (da : DAX) (ρ : Rho) (l : Sto) (Q : D -> Sto -> Prop) : Prop := da ρ l λ xs l1 => xs.length <= 1000 /\ ∀ q, l1 q = none -> Q (.cls q) (put l1 q (.lst xs))
def qkX (da : DAX) (ρ : Rho) (l : Sto) (Q : D -> Sto -> Prop) : Prop := da ρ l λ xs l1 => xs.length <= 1000 /\ Q (.lst xs) l1
def qm8 (ρ : Rho) (l : Sto) (Q : D -> Sto -> Prop) : Prop := ∀ q, l q = none -> Q (.cls q) (put l q (.dk []))
def qm6 (da : DEX) (ρ : Rho) (l : Sto) (Q : D -> Sto -> Prop) : Prop := da ρ l λ o l1 => qa7 o l1 λ a xs => onS xs.getLast? λ y => Q y (put l1 a (.lst xs.dropLast))
def qlz (da db : DEX) (ρ : Rho) (l : Sto) (Q : D -> Sto -> Prop) : Prop := da ρ l λ o l1 => qa7 o l1 λ _ _ => db ρ l1 λ y l2 => qa7 o l2 λ a xs => xs.length < 100000 /\ Q .non (put l2 a (.lst (xs ++ [y])))
def qoE (da db : DEX) (ρ : Rho) (l : Sto) (Q : D -> Sto -> Prop) : Prop := da ρ l λ o l1 => db ρ l1 λ z l2 => dkAt o l2 λ _ kvs => onS (keyOf z) λ k => onS (valD kvs k) λ d => Q d l2
def dxB (de : DEX) (ρ : Rho) (l : Sto) (Q : Bool -> Sto -> Prop) : Prop := de ρ l λ x l1 => match x with
 | .bl b => Q b l1
 | _ => False
def qlv (t u : DTX) (ρ : Rho) (l : Sto) (Q : Bool -> Sto -> Prop) : Prop := t ρ l λ c l1 => if c = true then u ρ l1 Q else Q false l1
def dxOr (t u : DTX) (ρ : Rho) (l : Sto) (Q : Bool -> Sto -> Prop) : Prop := t ρ l λ c l1 => if c = true then Q true l1 else u ρ l1 Q
def qpJ (t : DTX) (ρ : Rho) (l : Sto) (Q : Bool -> Sto -> Prop) : Prop := t ρ l λ c l1 => Q (!c) l1
def dxIf (t : DTX) (da db : DEX) (ρ : Rho) (l : Sto) (Q : D -> Sto -> Prop) : Prop := t ρ l λ c l1 => if c = true then da ρ l1 Q else db ρ l1 Q
end
abbrev WpS := Sto -> List D -> (D -> Sto -> Prop) -> EdX -> Prop
structure qaN where
 nx : Rho -> Sto -> Prop
 rt : D -> Rho -> Sto -> Prop
 bk : Rho -> Sto -> Prop := λ _ _ => False
 ct : Rho -> Sto -> Prop := λ _ _ => False
abbrev DSX := qaN -> Rho -> Sto -> Prop
structure qCL (K : PySem.W.Frag) (B0 B1 : Hp) (d : qaN) (e : Ends) : Prop where
 nx : ∀ H0 H σ ρ l, StoX K B0 B1 H0 H l -> FrX K H0 σ ρ -> d.nx ρ l -> e.nx σ H
 rt : ∀ H0 H σ ρ l x v, StoX K B0 B1 H0 H l -> FrX K H0 σ ρ -> Rep K H0 x v -> d.rt x ρ l -> e.rt v H
 bk : ∀ H0 H σ ρ l, StoX K B0 B1 H0 H l -> FrX K H0 σ ρ -> d.bk ρ l -> e.bk σ H
 ct : ∀ H0 H σ ρ l, StoX K B0 B1 H0 H l -> FrX K H0 σ ρ -> d.ct ρ l -> e.ct σ H
section
variable {X : Cx} {Ed : EdX} {E : XK} {K : PySem.W.Frag} {pos p : Pos} {e a b c o : Expr} {te ta tb tc : TE} {de da db dc : DEX} {tt tu : TT} {dt du : DTX} {tal : TA} {dal : DAX} {es : List Expr} {x : Str} {k : Nat} {st : Stmt} {sts : List Stmt} {ts us : TS} {ds dus : DSX}
def qqI (wp : WpS) (dd : List D) (Ed : EdX) (da : DAX) (ρ : Rho) (l : Sto) (Q : D -> Sto -> Prop) : Prop := da ρ l λ ds l1 => wp l1 (ds ++ dd) Q Ed
def qlU (C : Addr) (m : Str) (wp : WpS) (dd : List D) (Ed : EdX) (da : DEX) (dal : DAX) (ρ : Rho) (l : Sto) (Q : D -> Sto -> Prop) : Prop := da ρ l λ o l1 => qb1 C o l1 λ a fs => fget m fs = none /\ dal ρ l1 λ ds l2 => wp l2 (.cls a :: (ds ++ dd)) Q Ed
def qqV (C : Addr) (wp : WpS) (dd : List D) (Ed : EdX) (da : DAX) (ρ : Rho) (l : Sto) (Q : D -> Sto -> Prop) : Prop := da ρ l λ ds l1 => C ∈ StC.cs /\ ∀ q, l1 q = none -> wp (put l1 q (.ins C [])) (.cls q :: (ds ++ dd)) (λ d l2 => d = .non /\ Q (.cls q) l2) Ed
def qlL (d : qaN) (ρ : Rho) (l : Sto) : Prop := d.nx ρ l
def qmn (t u : DSX) (d : qaN) (ρ : Rho) (l : Sto) : Prop := t { d with nx := u d } ρ l
def qlq (d : qaN) (ρ : Rho) (l : Sto) : Prop := d.bk ρ l
def qpY (d : qaN) (ρ : Rho) (l : Sto) : Prop := d.ct ρ l
def qrk (de : DEX) (d : qaN) (ρ : Rho) (l : Sto) : Prop := de ρ l λ _ l1 => d.nx ρ l1
def qoj (de : DEX) (d : qaN) (ρ : Rho) (l : Sto) : Prop := de ρ l λ x l1 => d.rt x ρ l1
def qpS (d : qaN) (ρ : Rho) (l : Sto) : Prop := d.rt .non ρ l
def qlF (c : DTX) (t u : DSX) (d : qaN) (ρ : Rho) (l : Sto) : Prop := c ρ l λ b l1 => if b = true then t d ρ l1 else u d ρ l1
def qkn (de : DEX) (g : DG) (d : qaN) (ρ : Rho) (l : Sto) : Prop := de ρ l λ x l1 => g x ρ λ ρ' => d.nx ρ' l1
def qlI (i j : Nat) (da : DAX) (d : qaN) (ρ : Rho) (l : Sto) : Prop := da ρ l λ xs l1 => match xs with
 | [x, y] => d.nx ((ρ.set i (some (.d x))).set j (some (.d y))) l1
 | _ => False
def qom (i : Nat) (r : D -> D -> (D -> Prop) -> Prop) (de : DEX) (d : qaN) (ρ : Rho) (l : Sto) : Prop := match lk i ρ with
 | some (.d x) => de ρ l λ y l1 => r x y λ z => d.nx (ρ.set i (some (.d z))) l1
 | _ => False
def qpP (C : Addr) (f : Str) (da de : DEX) (d : qaN) (ρ : Rho) (l : Sto) : Prop := de ρ l λ y l1 => da ρ l1 λ o l2 => qb1 C o l2 λ a fs => fs.length < 1000 /\ d.nx ρ (put l2 a (.ins C (fput f y fs)))
def qlT (da db de : DEX) (d : qaN) (ρ : Rho) (l : Sto) : Prop := de ρ l λ v l1 => da ρ l1 λ o l2 => db ρ l2 λ z l3 => dkAt o l3 λ a kvs => onS (keyOf z) λ k => kvs.length < 100000 /\ d.nx ρ (put l3 a (.dk (stoD kvs k v)))
end
section
variable {X : Cx} {Ed : EdX} {E : XK} {K : PySem.W.Frag} {pos p : Pos} {e a b c o : Expr} {te ta tb tc : TE} {de da db dc : DEX} {tt tu : TT} {dt du : DTX} {tal : TA} {dal : DAX} {es : List Expr} {x : Str} {k : Nat} {st : Stmt} {sts : List Stmt} {ts us : TS} {ds dus : DSX}
def qje (g : DG) (tb : DSX) (d : qaN) : List D -> Rho -> Sto -> Prop
 | [], ρ, l => d.nx ρ l
 | x :: r, ρ, l => g x ρ λ ρ' => tb { d with nx := qje g tb d r, ct := qje g tb d r, bk := d.nx } ρ' l
def qqb (di : (DX -> Prop) -> DI) (Ed : EdX) (g : DG) (tb : DSX) (d : qaN) (ρ : Rho) (l : Sto) : Prop := di (edM Ed l) ρ λ xs => qje g tb d xs ρ l
def noE : qao := { nx := λ _ => False, rt := λ _ _ => False }
def dxRs (de : (DX -> Prop) -> DS) (Ed : EdX) (_ : qaN) (ρ : Rho) (l : Sto) : Prop := de (edM Ed l) noE ρ
def qmK (n : Nat) (is : List Nat) (de : (DX -> Prop) -> DS) (Ed : EdX) (_ : qaN) (ρ : Rho) (l : Sto) : Prop := de (edS Ed l) noE (seeR l n is ρ)
def qoU (C : Addr) (f : Str) (rd : D -> D -> (D -> Prop) -> Prop) (da de : DEX) (d : qaN) (ρ : Rho) (l : Sto) : Prop := da ρ l λ o l1 => qb1 C o l1 λ a fs => onS (fget f fs) λ z => de ρ l1 λ y l2 => qb1 C (.cls a) l2 λ a fs => rd z y λ w => fs.length < 1000 /\ d.nx ρ (put l2 a (.ins C (fput f w fs)))
def qoD (de : (DX -> Prop) -> DEL) (Ed : EdX) (ρ : Rho) (l : Sto) (Q : D -> Sto -> Prop) : Prop := de (edM Ed l) ρ λ xs => ∀ q, l q = none -> Q (.cls q) (put l q (.lst xs))
def qn9 (n : Nat) (is : List Nat) (de : (DX -> Prop) -> DEL) (Ed : EdX) (ρ : Rho) (l : Sto) (Q : D -> Sto -> Prop) : Prop := de (edS Ed l) (seeR l n is ρ) λ xs => Clns xs /\ ∀ q, l q = none -> Q (.cls q) (put l q (.lst xs))
end
def del (l : Sto) (a : Addr) : Sto := λ p => if p = a then none else l p
section
variable {X : Cx} {Ed : EdX} {E : XK} {K : PySem.W.Frag} {pos p : Pos} {e a b c o : Expr} {te ta tb tc : TE} {de da db dc : DEX} {tt tu : TT} {dt du : DTX} {tal : TA} {dal : DAX} {es : List Expr} {x : Str} {k : Nat} {st : Stmt} {sts : List Stmt} {ts us : TS} {ds dus : DSX}
def qnq (i : Nat) (ds : DSX) (d : qaN) (ρ : Rho) (l : Sto) : Prop := match lk i ρ with
 | some (.d o) => qa7 o l λ a xs => ds d (ρ.set i (some (.d (.lst xs)))) (del l a)
 | _ => False
def qkk (de : DEX) (ρ : Rho) (l : Sto) (Q : D -> Sto -> Prop) : Prop := de ρ l λ o l1 => qa7 o l1 λ a xs => Q (.lst xs) (del l1 a)
def onI (y : D) (k : Int -> Prop) : Prop := match y with
 | .int i => k i
 | _ => False
def qkJ (da db : DEX) (ρ : Rho) (l : Sto) (Q : D -> Sto -> Prop) : Prop := da ρ l λ o l1 => db ρ l1 λ y l2 => qa7 o l2 λ _ xs => onI y λ i => onS (atI xs i) λ d => Q d l2
end
section
variable {X : Cx} {Ed : EdX} {E : XK} {K : PySem.W.Frag} {pos p : Pos} {e a b c o : Expr} {te ta tb tc : TE} {de da db dc : DEX} {k : Nat}
def qqT (x y : D) (Q : D -> Prop) : Prop := match x, y with
 | .int i, .int j => Q (.int (i + j))
 | _, _ => False
def qk9 (x y : D) (Q : D -> Prop) : Prop := match x, y with
 | .int i, .int j => Q (.int (i - j))
 | _, _ => False
end
def wpOf (wp : Wp) : WpS := λ l ds Q Ed => wp ds (λ d => Q d l) λ e => Ed e l
def wpE (wp : Wp) : WpS := λ l ds Q Ed => wp ds (λ d => Q d l) λ e => ∀ l', Ed e l'
end DL
namespace DL
variable [TbC]
open PySem PySem.Spec PyProof.Rows L2
section
variable {X : Cx} {Ed : DX -> Prop} {E : XK} {K : PySem.W.Frag} {pos p : Pos} {e a b c o : Expr} {te ta tb tc : TE} {de da db dc : DE} {tal : TA} {dal : DA} {es : List Expr} {k : Nat}
def qmt (ds : List D) (Q : D -> Prop) : Prop := match ds with
 | [.str z] => ∃ n, PySem.intText? z = some n /\ z.length <= 640 /\ Q (.int n)
 | _ => False
def dNeL (x y : D) (Q : D -> Prop) : Prop := match x, y with
 | .lst xs, .lst [] => Q (.bl (!xs.isEmpty))
 | _, _ => False
def dEqL (x y : D) (Q : D -> Prop) : Prop := match x, y with
 | .lst xs, .lst [] => Q (.bl xs.isEmpty)
 | _, _ => False
end
end DL
namespace DL
variable [TbC] [StC]
open PySem PySem.Spec PyProof.Rows L2
def wpG (wp : Wp) : WpS := λ _ ds Q Ed => wp ds (λ d => ∀ l', Q d l') λ e => ∀ l', Ed e l'
section
variable {X : Cx} {Ed : EdX} {E : XK} {K : PySem.W.Frag} {pos p : Pos} {e a b c o : Expr} {te ta tb tc : TE} {de da db dc : DEX} {tal : TA} {dal : DAX} {es : List Expr} {k : Nat}
def qmw (dal : DAX) (ρ : Rho) (l : Sto) (Q : D -> Sto -> Prop) : Prop := dal ρ l λ xs l1 => match xs with
 | [.tup ys] => ∀ q, l1 q = none -> Q (.cls q) (put l1 q (.lst ys))
 | [.lst ys] => ∀ q, l1 q = none -> Q (.cls q) (put l1 q (.lst ys))
 | _ => False
end
end DL
namespace DL
variable [TbC]
open PySem PySem.Spec PyProof.Rows L2
section
variable {X : Cx} {Ed : DX -> Prop} {E : XK} {e : Expr} {t1 t2 : TE} {d1 d2 : DE} {C C2 : Addr}
variable {K : PySem.W.Frag} {pos p : Pos} {es : List Expr} {tal : TA} {dal : DA}
def qmE (ds : List D) (Q : D -> Prop) : Prop := match ds with
 | [.dk kvs] => Q (.int kvs.length)
 | _ => False
end
end DL
namespace ER
open PySem PySem.Spec PySem.Calls PyProof.Rows L2 L2H LamX HotX
structure LamH (N : List Str) (h : Str) (sc scope : Scope) : Prop where
 kind : scope.kind = .function
 co : scope.isCoroutine = false
 gen : scope.isGenerator = false
 par : scope.names.lookup h = some .local
 cel : ∀ y ∈ scope.names, y.2 ≠ .cell
 own : ∀ y ∈ scope.names, y.2 = .local -> y.1 = h
 out : h ∉ N
 free : ∀ y ∈ scope.names, y.2 = .free -> (sc.names.lookup y.1 = some .cell ∨ sc.names.lookup y.1 = some .free)
section
variable {X : Cx} {pins : List (Addr × Obj)} {σ : L2.St} {H HZ : Hp} {s s1 : Shared} {scope : Scope} {h : Str}
end
end ER
namespace DL
variable [TbC] [StC]
open PySem PySem.Spec PyProof.Rows L2
def qpF (CP a : Addr) (m c : D) (R : Sto -> Prop) (l : Sto) : Prop := qb1 CP (.cls a) l λ _ fs => fs.length < 900 /\ R (put l a (.ins CP (fput "cut_now" c (fput "now" m fs))))
def qzE (CP a : Addr) (m c : D) (Ed : EdX) : EdX := λ e l => qpF CP a m c (λ l2 => Ed e l2) l
def qlK (CP : Addr) (da : DEX) (de : EdX -> DEX) (Ed : EdX) (ρ : Rho) (l : Sto) (Q : D -> Sto -> Prop) : Prop := da ρ l λ o l1 => qb1 CP o l1 λ a fs => fget "keep" fs = none /\ onS (fget "now" fs) λ m => onS (fget "cut_now" fs) λ c => de (qzE CP a m c Ed) ρ l1 λ d l2 => qpF CP a m c (Q d) l2
end DL
namespace DL
variable [TbC]
open PySem PySem.Spec PyProof.Rows L2
section
variable {P : Program} {w : World} {K : PySem.W.Frag} {mg : Str -> Option Value} {base : Heap} {k : Nat} {f : Addr} {fd : FuncData} {ps : List Str}
def qpy (i : Nat) (Qf : List D -> Prop) (d : D) (ρ : Rho) : Prop := match lk i ρ with
 | some (.lst x xs) => d = .cls x /\ Qf xs
 | _ => False
end
section
variable {X : Cx} {Ed : DX -> Prop} {E : XK} {pos : Pos}
def qoC (i : Nat) (ρ : Rho) (Q : D -> Prop) : Prop := match lk i ρ with
 | some (.lst x _) => Q (.cls x)
 | _ => False
end
section
variable {X : Cx} {Ed : DX -> Prop} {E : XK} {K : PySem.W.Frag} {pos p sp_ : Pos} {e : Expr} {es : List Expr} {kws : List Keyword} {te : TE} {de : DE} {tal tkl t tk : TA} {dal dkl : DA} {wp : WpI} {k : Nat} {x : Str} {ks : List Str} {f C : Addr} {CX : CXT} {sp : List V -> List V -> Hp -> VK -> XK -> Prop} {gV : List V -> List V -> List V} {gd : List D -> List D}
def qeR (C : Addr) (n : Nat) (wp : WpI) (gd : List D -> List D) (Ed : DX -> Prop) (de : DE) (dk : DA) (ρ : Rho) (Q : D -> Prop) : Prop := de ρ λ y => dk ρ λ es => match y with
 | .lst ds => es.length = n /\ ds.length <= 200000 /\ wp (gd es ++ [.tup ds]) (λ fs => Q (.ins C fs)) Ed
 | _ => False
end
end DL
namespace LamD
open PySem PySem.Spec PySem.Calls PyProof.Rows L2 L2H LamX
structure qCS (sc scope : Scope) (b : Str) : Prop where
 kind : scope.kind = .function
 co : scope.isCoroutine = false
 gen : scope.isGenerator = false
 own : ∀ y ∈ scope.names, y.2 ≠ .cell /\ (y.2 = .local -> y.1 = b)
 par : scope.names.lookup b = some .local
 free : ∀ y ∈ scope.names, y.2 = .free -> sc.names.lookup y.1 = some .cell ∨ sc.names.lookup y.1 = some .free
end LamD
namespace DL
open PySem PySem.Spec PyProof.Rows L2
instance (priority := low) dfltTb : TbC := noTb
def qgq (t m x y : Int) : Int × Int :=
 if t = 1 then (-y, if m = 1 then -x else x) else if t = 2 then (-(if m = 1 then -x else x), -y) else if t = 3 then (y, -(if m = 1 then -x else x)) else (if m = 1 then -x else x, y)
def bI (b : Bool) : Int := if b then 1 else 0
def bkP (t m : Int) : Int := if m = 1 then t else (-t) % 4
theorem q4 {t : Int} (h0 : 0 <= t) (h1 : t < 4) : t = 0 ∨ t = 1 ∨ t = 2 ∨ t = 3 := by omega
theorem q2 {m : Int} (h0 : 0 <= m) (h1 : m < 2) : m = 0 ∨ m = 1 := by omega
def qb9 (ds : List D) (Q : D -> Prop) (Ed : DX -> Prop) : Prop := ∃ xs, ds = [.bag, .lst xs] /\ 0 < xs.length /\ xs.length <= 1000 /\ ∀ x, x ∈ xs -> Q x
def wordsL : List Str := ["call", "curve", "cut", "define", "end", "keep", "let", "m", "mirror", "move", "never", "none", "nothing", "odd", "outline", "paint", "plain", "repeat", "solid", "stain", "turn", "wipe"]
def qaQ (s : Str) : Prop := ∃ l : List Nat, s = ⟨l.toArray⟩ /\ 1 <= l.length /\ l.length <= 8 /\ (∀ c, c ∈ l -> 97 <= c /\ c <= 122) /\ s ∉ wordsL
def qek (ds : List D) (Q : D -> Prop) (Ed : DX -> Prop) : Prop := match ds with
 | [.bag] => ∀ s : Str, qaQ s -> Q (.str s)
 | _ => False
def PreName (n : Nat) (s : Str) : Prop := ∃ l : List Nat, s = ⟨l.toArray⟩ /\ 1 <= l.length /\ l.length <= n + 1 /\ (∀ c, c ∈ l -> 97 <= c /\ c <= 122) /\ (∃ c r, l = c :: r /\ (c = 97 ∨ c = 98 ∨ c = 99 ∨ c = 113 ∨ c = 122))
theorem qh5 : (("abcdefghijklmnopqrstuvwxyz" : Str)).cps.toList = [97, 98, 99, 100, 101, 102, 103, 104, 105, 106, 107, 108, 109, 110, 111, 112, 113, 114, 115, 116, 117, 118, 119, 120, 121, 122] := by decide +kernel
theorem qnf {c : Nat} (h : c ∈ (("abcdefghijklmnopqrstuvwxyz" : Str)).cps.toList) : 97 <= c /\ c <= 122 := by
 rw [qh5] at h
 simp at h
 omega
theorem PreName.grow {n : Nat} {s : Str} {c : Nat} (h : PreName n s) (hc : 97 <= c /\ c <= 122) : PreName (n + 1) (s ++ ⟨#[c]⟩) := by
 obtain ⟨l, rfl, h1, h2, h3, d, r, rfl, hd⟩ := h
 refine ⟨d :: r ++ [c], ?_, by simp, by simp at h2 ⊢; omega, λ x hx => ?_, d, r ++ [c], rfl, hd⟩
 · show Str.mk ((d :: r).toArray ++ #[c]) = _
   simp
 · rcases List.mem_append.mp hx with hx | hx
   · exact h3 x hx
   · simp at hx
     subst hx
     exact hc
theorem PreName.mono {n m : Nat} {s : Str} (h : PreName n s) (hm : n <= m) : PreName m s := by
 obtain ⟨l, e, h1, h2, h3, h4⟩ := h
 exact ⟨l, e, h1, by omega, h3, h4⟩
theorem PreName.len {n : Nat} {s : Str} (h : PreName n s) : s.length <= n + 1 := by
 obtain ⟨l, rfl, h1, h2, _⟩ := h
 show (l.toArray).size <= _
 simpa using h2
def takenL : List Str := ["call", "curve", "cut", "define", "end", "keep", "let", "mirror", "move", "never", "none", "nothing"]
theorem PreName.name {s : Str} (h : PreName 7 s) (hn : s ∉ takenL) : qaQ s := by
 obtain ⟨l, rfl, h1, h2, h3, c, r, rfl, hc⟩ := h
 refine ⟨c :: r, rfl, h1, h2, h3, λ hw => ?_⟩
 have hd : ∀ w : Str, w ∈ wordsL -> w ∈ takenL ∨ ∃ x, w.cps.toList.head? = some x /\ ¬ (x = 97 ∨ x = 98 ∨ x = 99 ∨ x = 113 ∨ x = 122) := by decide +kernel
 rcases hd _ hw with h | ⟨x, hx, hy⟩
 · exact hn h
 · simp at hx
   subst hx
   exact hy hc
theorem qsU {s : Str} (h : s ∈ takenL) (hp : PreName 7 s) : qaQ ("q" ++ cutS s (some 1) (some 3)) := by
 have hd : ∀ w : Str, w ∈ takenL -> (∃ l : List Nat, ("q" ++ cutS w (some 1) (some 3) : Str) = ⟨l.toArray⟩ /\ 1 <= l.length /\ l.length <= 8 /\ (∀ c, c ∈ l -> 97 <= c /\ c <= 122) /\ ("q" ++ cutS w (some 1) (some 3) : Str) ∉ wordsL) := by
   intro w hw
   refine ⟨("q" ++ cutS w (some 1) (some 3) : Str).cps.toList, by simp, ?_⟩
   revert w
   decide +kernel
 exact hd s h
structure Mv where
 x : Int
 y : Int
 t : Int
 m : Int
def Mv.l (f : Mv) : List D := [.int f.x, .int f.y, .int f.t, .int f.m]
def Mv.fs (f : Mv) : List (Str × D) := [("parts", .tup f.l)]
structure Mv.Ok (f : Mv) : Prop where
 t0 : 0 <= f.t
 t1 : f.t < 4
 m0 : 0 <= f.m
 m1 : f.m < 2
def Mv.one : Mv := ⟨0, 0, 0, 0⟩
def Mv.mul (f g : Mv) : Mv := ⟨(qgq f.t f.m g.x g.y).1 + f.x, (qgq f.t f.m g.x g.y).2 + f.y, (f.t + (if f.m = 0 then g.t else -g.t)) % 4, (f.m + g.m) % 2⟩
def Mv.inv (f : Mv) : Mv := ⟨-(qgq (bkP f.t f.m) f.m f.x f.y).1, -(qgq (bkP f.t f.m) f.m f.x f.y).2, bkP f.t f.m, f.m⟩
theorem Mv.one_ok : Mv.one.Ok := ⟨by decide, by decide, by decide, by decide⟩
theorem Mv.ext {f g : Mv} (h1 : f.x = g.x) (h2 : f.y = g.y) (h3 : f.t = g.t) (h4 : f.m = g.m) : f = g := by
 cases f
 cases g
 simp_all
instance : DecidableEq Mv := λ f g => decidable_of_iff (f.x = g.x /\ f.y = g.y /\ f.t = g.t /\ f.m = g.m) ⟨λ h => Mv.ext h.1 h.2.1 h.2.2.1 h.2.2.2, λ h => by subst h; exact ⟨rfl, rfl, rfl, rfl⟩⟩
def Mv.In (f : Mv) (B : Int) : Prop := (-B <= f.x /\ f.x <= B) /\ (-B <= f.y /\ f.y <= B)
abbrev BM : Int := 1000000000000
def Mv.base (f : Mv) (n : Int) : Mv := if 0 <= n then f else f.inv
structure U where
 n : Str
 f : Mv
 deriving DecidableEq
def U.k (u : U) : List Key := [.inr u.n, .inl u.f.x, .inl u.f.y, .inl u.f.t, .inl u.f.m]
def U.d (u : U) : D := .tup [.str u.n, .int u.f.x, .int u.f.y, .int u.f.t, .int u.f.m]
def U.nk (u : U) : NestedKey := .tup [.text u.n, .num u.f.x, .num u.f.y, .num u.f.t, .num u.f.m]
theorem U.tk (u : U) : tkOf u.d = some u.nk := rfl
theorem U.k_inj {a b : U} (h : a.k = b.k) : a = b := by
 obtain ⟨n, x, y, t, m⟩ := a
 obtain ⟨n', x', y', t', m'⟩ := b
 simp only [U.k, List.cons.injEq, Sum.inr.injEq, Sum.inl.injEq] at h
 obtain ⟨rfl, rfl, rfl, rfl, rfl, _⟩ := h
 rfl
theorem U.nk_inj {a b : U} (h : a.nk = b.nk) : a = b := U.k_inj (qwj h)
def U.sh : Nat -> Bool := λ i => i == 0
theorem U.shaped (u : U) : DS.Shaped U.sh u.k := ⟨by simp [U.k], λ i x h => by
 rcases i with _ | _ | _ | _ | _ | i <;> simp [U.k] at h <;> subst h <;> rfl⟩
abbrev Tm := U × Int
def tmD (p : Tm) : D := .tup [p.1.d, .int p.2]
def ltU (a b : U) : Bool := DS.ltK a.k b.k
theorem qfu {a b : U} (h : ltU a b = true) (h' : ltU b a = true) : False := by
 have z := DS.lexO.trans _ _ _ (show DS.lexO.blt (DS.kl a.k) (DS.kl b.k) = true from h) h'
 rw [DS.lexO.irrefl] at z
 cases z
theorem qlQ {a b c : U} (h : ltU a b = true) (h' : ltU b c = true) : ltU a c = true := DS.lexO.trans _ _ _ h h'
theorem qmx {a b : U} (h : ltU a b = false) (hne : a ≠ b) : ltU b a = true := by
 cases z : ltU b a
 · exact absurd (U.k_inj (DS.qhK (DS.lexO.total _ _ h z))) hne
 · rfl
def getU (acc : List Tm) (u : U) : Int := ((acc.find? λ p => decide (p.1 = u)).map (·.2)).getD 0
def putU (acc : List Tm) (u : U) (n : Int) : List Tm := if (acc.find? λ p => decide (p.1 = u)).isSome then acc.map λ p => if p.1 = u then (p.1, n) else p else acc ++ [(u, n)]
def accU (acc : List Tm) : List Tm -> List Tm
 | [] => acc
 | p :: r => accU (putU acc p.1 (getU acc p.1 + p.2)) r
def insU (p : Tm) : List Tm -> List Tm
 | [] => [p]
 | q :: r => if ltU p.1 q.1 = true then p :: q :: r else q :: insU p r
def qdh (l : List Tm) : List Tm := l.foldr insU []
def qbG (ps : List Tm) : List Tm := (qdh (accU [] ps)).filter λ p => decide (p.2 ≠ 0)
def qaW (acc : List Tm) : List (NestedKey × D) := acc.map λ p => (p.1.nk, .int p.2)
theorem qeU (acc : List Tm) (u : U) : valD (qaW acc) u.nk = ((acc.find? λ p => decide (p.1 = u)).map (·.2)).map D.int := by
 induction acc with
 | nil => rfl
 | cons p r ih =>
   unfold valD qaW at ih ⊢
   rw [List.map_cons, List.find?_cons, List.find?_cons]
   by_cases h : p.1 = u
   · subst h
     simp
   · have h' : p.1.nk ≠ u.nk := λ z => h (U.nk_inj z)
     simp only [h, h', decide_false]
     exact ih
theorem qmQ (acc : List Tm) (u : U) : (valD (qaW acc) u.nk).getD (.int 0) = .int (getU acc u) := by
 rw [qeU]
 unfold getU
 cases (acc.find? λ p => decide (p.1 = u)) <;> rfl
theorem qp7 (acc : List Tm) (u : U) (n : Int) : stoD (qaW acc) u.nk (.int n) = qaW (putU acc u n) := by
 unfold stoD putU
 rw [qeU, Option.isSome_map, Option.isSome_map]
 split
 · unfold qaW
   rw [List.map_map, List.map_map]
   refine List.map_congr_left λ p _ => ?_
   by_cases h : p.1 = u
   · subst h
     simp
   · have h' : p.1.nk ≠ u.nk := λ z => h (U.nk_inj z)
     simp [h, h']
 · unfold qaW
   rw [List.map_append]
   rfl
theorem qgB (acc : List Tm) (u : U) (n : Int) : (putU acc u n).length <= acc.length + 1 := by
 unfold putU
 split <;> simp
theorem qCn {acc : List Tm} (h : (acc.map (·.1)).Nodup) (u : U) (n : Int) : ((putU acc u n).map (·.1)).Nodup := by
 unfold putU
 split
 · have e : (acc.map λ p => if p.1 = u then (p.1, n) else p).map (·.1) = acc.map (·.1) := by
     rw [List.map_map]
     refine List.map_congr_left λ p _ => ?_
     simp only [Function.comp]
     split <;> rfl
   rw [e]
   exact h
 · rename_i hn
   rw [List.map_append, List.nodup_append]
   refine ⟨h, by simp, λ a ha b hb => ?_⟩
   simp only [List.map_cons, List.map_nil, List.mem_singleton] at hb
   subst hb
   rintro rfl
   obtain ⟨p, hp, e⟩ := List.mem_map.mp ha
   refine hn ?_
   rw [List.find?_isSome]
   exact ⟨p, hp, by simpa using e⟩
theorem qgv : ∀ {ps acc : List Tm}, (acc.map (·.1)).Nodup -> ((accU acc ps).map (·.1)).Nodup
 | [], _, h => h
 | p :: r, _, h => qgv (ps := r) (qCn h _ _)
theorem qiU : ∀ (ps acc : List Tm), (accU acc ps).length <= acc.length + ps.length
 | [], acc => Nat.le_refl _
 | p :: r, acc => by
   have h1 := qiU r (putU acc p.1 (getU acc p.1 + p.2))
   have h2 := qgB acc p.1 (getU acc p.1 + p.2)
   rw [List.length_cons]
   show (accU (putU acc p.1 (getU acc p.1 + p.2)) r).length <= _
   omega
theorem qgG (p : Tm) : ∀ l : List Tm, (insU p l).Perm (p :: l)
 | [] => List.Perm.refl _
 | q :: r => by
   unfold insU
   split
   · exact List.Perm.refl _
   · exact ((qgG p r).cons q).trans (List.Perm.swap p q r)
theorem qfA : ∀ l : List Tm, (qdh l).Perm l
 | [] => List.Perm.refl _
 | p :: r => (qgG p (qdh r)).trans ((qfA r).cons p)
theorem qnn {p : Tm} : ∀ {l : List Tm}, l.Pairwise (λ a b => ltU a.1 b.1 = true) -> (∀ q ∈ l, q.1 ≠ p.1) -> (insU p l).Pairwise λ a b => ltU a.1 b.1 = true
 | [], _, _ => by simp [insU]
 | q :: r, h, hn => by
   unfold insU
   obtain ⟨h1, h2⟩ := List.pairwise_cons.mp h
   split
   · rename_i hl
     refine List.pairwise_cons.mpr ⟨λ x hx => ?_, h⟩
     rcases List.mem_cons.mp hx with e | hx
     · subst e
       exact hl
     · exact qlQ hl (h1 x hx)
   · rename_i hl
     refine List.pairwise_cons.mpr ⟨λ x hx => ?_, qnn h2 λ y hy => hn y (List.mem_cons_of_mem _ hy)⟩
     rcases List.mem_cons.mp ((qgG p r).mem_iff.mp hx) with e | hx
     · subst e
       exact qmx (by simpa using hl) λ z => hn q List.mem_cons_self z.symm
     · exact h1 x hx
theorem qjv : ∀ {l : List Tm}, (l.map (·.1)).Nodup -> (qdh l).Pairwise λ a b => ltU a.1 b.1 = true
 | [], _ => List.Pairwise.nil
 | p :: r, h => by
   obtain ⟨h1, h2⟩ := List.nodup_cons.mp h
   exact qnn (qjv h2) λ q hq e => h1 (List.mem_map.mpr ⟨q, (qfA r).mem_iff.mp hq, e⟩)
theorem qcZ {α : Type} {R : α -> α -> Prop} (as : ∀ a b, R a b -> R b a -> False) : ∀ {l m : List α}, l.Perm m -> l.Pairwise R -> m.Pairwise R -> l = m
 | [], m, p, _, _ => p.symm.eq_nil.symm
 | a :: l, [], p, _, _ => absurd p.eq_nil (by simp)
 | a :: l, b :: m, p, h1, h2 => by
   obtain ⟨a1, a2⟩ := List.pairwise_cons.mp h1
   obtain ⟨b1, b2⟩ := List.pairwise_cons.mp h2
   have hab : a = b := by
     rcases List.mem_cons.mp (p.mem_iff.mp List.mem_cons_self) with e | e
     · exact e
     · rcases List.mem_cons.mp (p.symm.mem_iff.mp List.mem_cons_self) with z | z
       · exact z.symm
       · exact (as a b (a1 b z) (b1 a e)).elim
   subst hab
   rw [qcZ as p.cons_inv a2 b2]
theorem qmR {acc : List Tm} (nd : (acc.map (·.1)).Nodup) {p : Tm} (h : p ∈ acc) : acc.find? (λ q => decide (q.1 = p.1)) = some p := by
 induction acc with
 | nil => cases h
 | cons q r ih =>
   obtain ⟨h1, h2⟩ := List.nodup_cons.mp nd
   rw [List.find?_cons]
   rcases List.mem_cons.mp h with e | h
   · subst e
     simp
   · have ne : q.1 ≠ p.1 := λ z => h1 (List.mem_map.mpr ⟨p, h, z.symm⟩)
     simp only [ne, decide_false]
     exact ih h2 h
theorem qhG : ∀ l : List Tm, l.filterMap (λ p => if p.2 ≠ 0 then some (tmD p) else none) = (l.filter λ p => decide (p.2 ≠ 0)).map tmD
 | [] => rfl
 | p :: r => by
   rw [List.filterMap_cons, List.filter_cons, qhG r]
   by_cases h : p.2 = 0 <;> simp [h]
def qiI (ds : List D) (Q : D -> Prop) (Ed : DX -> Prop) : Prop := ∃ ps : List Tm, (ds = [.lst (ps.map tmD)] ∨ ds = [.tup (ps.map tmD)]) /\ ps.length <= 90000 /\ Q (.tup ((qbG ps).map tmD))
def itx (i : Int) : Str := (toString i : String)
def Sm (i : Int) : Prop := i.natAbs < 10 ^ 40
theorem Sm.log {i : Int} (h : Sm i) : i.natAbs.log2 < 1920 := by
 by_cases z : i.natAbs = 0
 · rw [z]
   decide
 · exact (Nat.log2_lt z).mpr (Nat.lt_of_lt_of_le h (by decide +kernel))
theorem Sm.len {i : Int} (h : Sm i) : (itx i).length <= 41 := by
 have e := int_text_length_le10 (k := 40) (by decide) h
 show (Str.ofString (toString i)).length <= 41
 rw [PySem.ofString_length]
 exact e
theorem qbL {a b : Str} {m n : Nat} (h : a.length <= m) (h' : b.length <= n) : (a ++ b).length <= m + n := by
 rw [Str.length_append]
 omega
theorem qa6 (x : Str) (n : Nat) (h : decide (x.length <= n) = true) : x.length <= n := of_decide_eq_true h
def qcj (n : Int) : Str := if n = 1 then "" else itx n ++ " * "
theorem qqs {n : Int} (h : Sm n) : (qcj n).length <= 44 := by
 unfold qcj
 split
 · decide
 · exact qbL h.len (qa6 " * " 3 (by decide))
structure U.Ok (u : U) : Prop where
 m : u.f.m = 0 ∨ u.f.m = 1
 n : u.n.length <= 100
 x : Sm u.f.x
 y : Sm u.f.y
 t : Sm u.f.t
def mTx (m : Int) : Str := if m = 1 then " m" else ""
theorem qwg (m : Int) : (mTx m).length <= 2 := by
 unfold mTx
 split <;> decide
def U.tx (u : U) : Str := if u.f.x = 0 /\ u.f.y = 0 /\ u.f.t = 0 /\ u.f.m = 0 then u.n else u.n ++ "[" ++ itx u.f.x ++ " " ++ itx u.f.y ++ " " ++ itx u.f.t ++ mTx u.f.m ++ "]"
theorem U.tx_len {u : U} (h : u.Ok) : u.tx.length <= 300 := by
 unfold U.tx
 split
 · have := h.n
   omega
 · have e := qbL (qbL (qbL (qbL (qbL (qbL (qbL (qbL h.n (qa6 "[" 1 (by decide))) h.x.len) (qa6 " " 1 (by decide))) h.y.len) (qa6 " " 1 (by decide))) h.t.len) (qwg u.f.m)) (qa6 "]" 1 (by decide))
   omega
theorem qbf {n : Nat} (h : n <= 1000000) : n <= sizeLine := Nat.le_trans h (by decide)
def qd9 (ds : List D) (Q : D -> Prop) (Ed : DX -> Prop) : Prop := ∃ n : Int, ds = [.int n] /\ Sm n /\ Q (.str (qcj n))
def qeV (ds : List D) (Q : D -> Prop) (Ed : DX -> Prop) : Prop := ∃ u : U, ds = [u.d] /\ u.Ok /\ Q (.str u.tx)
inductive Sg where
 | and | or | sub | xor
 deriving DecidableEq
def Sg.s : Sg -> Str
 | .and => "&"
 | .or => "|"
 | .sub => "-"
 | .xor => "^"
inductive Nd where
 | non
 | ask (odd : Bool) (ts : List Tm) (os : List (Nd × Int))
 | jn (s : Sg) (a b : Nd)
abbrev Os := List (Nd × Int)
def kindS (odd : Bool) : Str := if odd = true then "odd" else "solid"
mutual
def Nd.d : Nd -> D
 | .non => .tup [.str "none"]
 | .ask o ts os => .tup [.str (kindS o), .tup [.tup (ts.map tmD), .tup (osD os)]]
 | .jn s a b => .tup [.str s.s, a.d, b.d]
def osD : Os -> List D
 | [] => []
 | (n, k) :: r => .tup [n.d, .int k] :: osD r
end
def fmD (ts : List Tm) (os : Os) : D := .tup [.tup (ts.map tmD), .tup (osD os)]
mutual
def Nd.ht : Nd -> Nat
 | .non => 0
 | .ask _ _ os => htL os + 1
 | .jn _ a b => max a.ht b.ht + 1
def htL : Os -> Nat
 | [] => 0
 | (n, _) :: r => max n.ht (htL r)
end
mutual
def Nd.Ok : Nd -> Prop
 | .non => True
 | .ask _ ts os => ts.length <= 1000 /\ os.length <= 600 /\ (∀ p ∈ ts, p.1.Ok /\ Sm p.2) /\ OkL os
 | .jn _ a b => a.Ok /\ b.Ok
def OkL : Os -> Prop
 | [] => True
 | (n, k) :: r => (n.Ok /\ Sm k) /\ OkL r
end
def FmOk (ts : List Tm) (os : Os) : Prop := ts.length <= 1000 /\ os.length <= 600 /\ (∀ p ∈ ts, p.1.Ok /\ Sm p.2) /\ OkL os
theorem OkL.mem : ∀ {os : Os}, OkL os -> ∀ p ∈ os, p.1.Ok /\ Sm p.2
 | (n, k) :: r, ⟨h1, h2⟩, p, hp => by
   rcases List.mem_cons.mp hp with e | hp
   · subst e
     exact h1
   · exact OkL.mem h2 p hp
theorem qbO : ∀ {os : Os} {m : Nat}, htL os < m -> ∀ p ∈ os, p.1.ht < m
 | (n, k) :: r, m, h, p, hp => by
   unfold htL at h
   rcases List.mem_cons.mp hp with e | hp
   · subst e
     show n.ht < m
     omega
   · exact qbO (by omega) p hp
def outD (p : Nd × Int) : D := .tup [p.1.d, .int p.2]
theorem qaL : ∀ os : Os, osD os = os.map outD
 | [] => rfl
 | (n, k) :: r => by
   unfold osD
   rw [qaL r]
   rfl
theorem all_map {α : Type} {f : α -> D} {n : Nat} : ∀ {l : List α}, (∀ x ∈ l, (f x).isData n = true) -> qah n (l.map f) = true
 | [], _ => rfl
 | x :: r, h => by
   rw [List.map_cons]
   unfold qah
   rw [h x List.mem_cons_self, all_map λ y hy => h y (List.mem_cons_of_mem _ hy)]
   rfl
theorem qbI {x : D} {n m : Nat} (h : n <= m) (hx : x.isData n = true) : x.isData m = true := by
 obtain ⟨k, rfl⟩ := Nat.exists_eq_add_of_le h
 clear h
 induction k with
 | zero => exact hx
 | succ k ih => exact qjx _ _ ih
mutual
theorem Nd.data : ∀ (nd : Nd) (m : Nat), nd.ht <= m -> nd.d.isData (4 * m + 4) = true
 | .non, m, _ => rfl
 | .ask o ts os, m, h => by
   unfold Nd.ht at h
   obtain ⟨j, rfl⟩ : ∃ j, m = j + 1 := ⟨m - 1, by omega⟩
   have h1 : qah (4 * j + 5) (ts.map tmD) = true := all_map λ p _ => rfl
   have h2 : qah (4 * j + 5) (osD os) = true := qoQ os j (by omega)
   show qah (4 * j + 7) [.str (kindS o), .tup [.tup (ts.map tmD), .tup (osD os)]] = true
   simp only [qah, D.isData, h1, h2, Bool.and_true]
 | .jn s a b, m, h => by
   unfold Nd.ht at h
   obtain ⟨j, rfl⟩ : ∃ j, m = j + 1 := ⟨m - 1, by omega⟩
   have e1 : a.d.isData (4 * j + 7) = true := qbI (by omega) (Nd.data a j (by omega))
   have e2 : b.d.isData (4 * j + 7) = true := qbI (by omega) (Nd.data b j (by omega))
   show qah (4 * j + 7) [.str s.s, a.d, b.d] = true
   simp only [qah, D.isData, e1, e2, Bool.and_true]
theorem qoQ : ∀ (os : Os) (m : Nat), htL os <= m -> qah (4 * m + 5) (osD os) = true
 | [], _, _ => rfl
 | (n, k) :: r, m, h => by
   unfold htL at h
   have h1 := Nd.data n m (by omega)
   have h2 := qoQ r m (by omega)
   unfold osD
   simp only [qah, D.isData, h1, h2, Bool.and_true]
end
mutual
def Nd.size : Nd -> Nat
 | .non => 1
 | .ask _ ts os => 1 + (ts.length + qaz os)
 | .jn _ a b => 1 + a.size + b.size
def qaz : Os -> Nat
 | [] => 0
 | (n, _) :: r => (1 + n.size) + qaz r
end
theorem qmX : ∀ {os : Os}, ∀ p ∈ os, p.1.size < qaz os + 1
 | (n, k) :: r, p, hp => by
   have e : qaz ((n, k) :: r) = (1 + n.size) + qaz r := rfl
   rcases List.mem_cons.mp hp with z | hp
   · subst z
     show n.size < _
     omega
   · have := qmX p hp
     omega
theorem qop : ∀ os : Os, (os.map λ p => (1 + (p.1.size : Int))).sum = (qaz os : Int)
 | [] => rfl
 | (n, k) :: r => by
   rw [List.map_cons, List.sum_cons, qop r]
   show (1 + (n.size : Int)) + (qaz r : Int) = (((1 + n.size) + qaz r : Nat) : Int)
   omega
def qeP (m : Nat) (ds : List D) (Q : D -> Prop) (Ed : DX -> Prop) : Prop := ∃ nd : Nd, ds = [nd.d] /\ nd.ht < m /\ m <= 30 /\ nd.Ok /\ Q (.int (nd.size : Nat))
def qfM (m : Nat) (ds : List D) (Q : D -> Prop) (Ed : DX -> Prop) : Prop := ∃ (ts : List Tm) (os : Os), ds = [fmD ts os] /\ htL os < m /\ m <= 30 /\ FmOk ts os /\ Q (.int (ts.length + qaz os : Nat))
def tmP (p : Tm) : Int × Str := (p.2 * (1 - 2 * p.1.f.m), p.1.tx)
def sgnT (acc : Str) (n : Int) : Str := if acc = "" then (if n < 0 then "-" else "") else (if n < 0 then " - " else " + ")
def qdg : Str -> List (Int × Str) -> Str
 | acc, [] => acc
 | acc, (n, x) :: r => qdg (acc ++ sgnT acc n ++ qcj n.natAbs ++ x) r
def qcO (ps : List (Int × Str)) : Str := if ps.isEmpty = true then "nothing" else qdg "" ps
mutual
def Nd.tx : Nd -> Str
 | .non => "none"
 | .ask o ts os => kindS o ++ "(" ++ qcO (ts.map tmP ++ osP os) ++ ")"
 | .jn s a b => "(" ++ a.tx ++ " " ++ s.s ++ " " ++ b.tx ++ ")"
def osP : Os -> List (Int × Str)
 | [] => []
 | (n, k) :: r => (k, "outline(" ++ n.tx ++ ")") :: osP r
end
def fmT (ts : List Tm) (os : Os) : Str := qcO (ts.map tmP ++ osP os)
theorem qel : ∀ os : Os, osP os = os.map λ p => (p.2, (("outline(" : Str) ++ p.1.tx ++ (")" : Str) : Str))
 | [] => rfl
 | (n, k) :: r => by
   show (k, (("outline(" : Str) ++ n.tx ++ (")" : Str) : Str)) :: osP r = _
   rw [qel r]
   rfl
def pcD (p : Int × Str) : D := .tup [.int p.1, .str p.2]
def lenP (ps : List (Int × Str)) : Nat := (ps.map λ p => 60 + p.2.length).sum
theorem qrq : ∀ (ps : List (Int × Str)) (acc : Str), (∀ p ∈ ps, Sm p.1) -> (qdg acc ps).length <= acc.length + lenP ps
 | [], acc, _ => Nat.le_refl _
 | (n, x) :: r, acc, h => by
   have h1 := qrq r (acc ++ sgnT acc n ++ qcj n.natAbs ++ x) λ p hp => h p (List.mem_cons_of_mem _ hp)
   have h2 : (sgnT acc n).length <= 3 := by
     unfold sgnT
     split <;> split <;> decide
   have h3 := qqs (n := n.natAbs) (h (n, x) List.mem_cons_self)
   have e : lenP ((n, x) :: r) = (60 + x.length) + lenP r := rfl
   rw [e]
   refine Nat.le_trans h1 ?_
   simp only [Str.length_append]
   omega
theorem qm9 (ps : List (Int × Str)) (h : ∀ p ∈ ps, Sm p.1) : (qcO ps).length <= 7 + lenP ps := by
 unfold qcO
 split
 · exact Nat.le_trans (qa6 "nothing" 7 (by decide)) (Nat.le_add_right _ _)
 · have z := qrq ps "" h
   have e : (("" : Str)).length = 0 := rfl
   omega
theorem qiA {p : Tm} (h : p.1.Ok) (k : Sm p.2) : Sm (tmP p).1 := by
 unfold tmP Sm at *
 rcases h.m with e | e <;> rw [e] <;> (simp only; omega)
theorem qg9 (a b : List (Int × Str)) : lenP (a ++ b) = lenP a + lenP b := by simp [lenP]
theorem qgs : ∀ {ts : List Tm}, (∀ p ∈ ts, p.1.Ok /\ Sm p.2) -> lenP (ts.map tmP) <= 400 * ts.length
 | [], _ => Nat.le_refl _
 | p :: r, h => by
   have z := qgs λ q hq => h q (List.mem_cons_of_mem _ hq)
   have z2 := U.tx_len (h p List.mem_cons_self).1
   rw [List.map_cons, List.length_cons]
   show (60 + p.1.tx.length) + lenP (r.map tmP) <= _
   omega
mutual
theorem Nd.tx_len : ∀ nd : Nd, nd.Ok -> nd.tx.length <= 400 * nd.size
 | .non, _ => by decide
 | .ask o ts os, h => by
   obtain ⟨h1, h2, h3, h4⟩ := h
   have z1 := qgs h3
   have z2 := qfq os h4
   have z3 := qm9 (ts.map tmP ++ osP os) (by
     intro p hp
     rcases List.mem_append.mp hp with hp | hp
     · obtain ⟨q, hq, rfl⟩ := List.mem_map.mp hp
       exact qiA (h3 q hq).1 (h3 q hq).2
     · rw [qel] at hp
       obtain ⟨q, hq, rfl⟩ := List.mem_map.mp hp
       exact (h4.mem q hq).2)
   rw [qg9] at z3
   show (kindS o ++ "(" ++ qcO (ts.map tmP ++ osP os) ++ ")" : Str).length <= 400 * (1 + (ts.length + qaz os))
   have k1 : (kindS o).length <= 5 := by cases o <;> decide
   have k2 := qa6 "(" 1 (by decide)
   have k3 := qa6 ")" 1 (by decide)
   simp only [Str.length_append]
   omega
 | .jn s a b, h => by
   have z1 := Nd.tx_len a h.1
   have z2 := Nd.tx_len b h.2
   show ("(" ++ a.tx ++ " " ++ s.s ++ " " ++ b.tx ++ ")" : Str).length <= 400 * (1 + a.size + b.size)
   have k1 : s.s.length <= 1 := by cases s <;> decide
   have k2 := qa6 "(" 1 (by decide)
   have k3 := qa6 ")" 1 (by decide)
   have k4 := qa6 " " 1 (by decide)
   simp only [Str.length_append]
   omega
theorem qfq : ∀ os : Os, OkL os -> lenP (osP os) <= 400 * qaz os
 | [], _ => Nat.le_refl _
 | (n, k) :: r, h => by
   have z1 := Nd.tx_len n h.1.1
   have z2 := qfq r h.2
   show (60 + ("outline(" ++ n.tx ++ ")" : Str).length) + lenP (osP r) <= 400 * ((1 + n.size) + qaz r)
   have k2 := qa6 "outline(" 8 (by decide)
   have k3 := qa6 ")" 1 (by decide)
   simp only [Str.length_append]
   omega
end
def qdf (m : Nat) (ds : List D) (Q : D -> Prop) (Ed : DX -> Prop) : Prop := ∃ nd : Nd, ds = [nd.d] /\ nd.ht < m /\ m <= 30 /\ nd.Ok /\ nd.size <= 10000 /\ Q (.str nd.tx)
def qgj (m : Nat) (ds : List D) (Q : D -> Prop) (Ed : DX -> Prop) : Prop := ∃ (ts : List Tm) (os : Os), ds = [fmD ts os] /\ htL os < m /\ m <= 30 /\ FmOk ts os /\ ts.length + qaz os <= 10000 /\ Q (.str (fmT ts os))
abbrev Ac := Str × Int × Nd
def ltS (a b : Str) : Bool := decide (a.cps.toList < b.cps.toList)
theorem qv1 {a b : Str} (h : a.cps.toList = b.cps.toList) : a = b := by
 obtain ⟨x⟩ := a
 obtain ⟨y⟩ := b
 have e : x = y := Array.ext' h
 rw [e]
theorem qqt {a b : Str} (h : ltS a b = true) (h' : ltS b a = true) : False := by
 unfold ltS at h h'
 exact List.lt_irrefl _ (List.lt_trans (of_decide_eq_true h) (of_decide_eq_true h'))
theorem qpL {a b c : Str} (h : ltS a b = true) (h' : ltS b c = true) : ltS a c = true := decide_eq_true (List.lt_trans (of_decide_eq_true h) (of_decide_eq_true h'))
theorem qoc {a b : Str} (h : ltS a b = false) (hne : a ≠ b) : ltS b a = true := by
 cases z : ltS b a
 · exact absurd (qv1 (strKind.total _ _ h z)) hne
 · rfl
theorem qmF : ∀ (l : List Str) (p : Str), (p :: l).Nodup -> risingS p l = true -> (p :: l).Pairwise λ a b => ltS a b = true
 | [], p, _, _ => by simp
 | x :: r, p, nd, h => by
   obtain ⟨n1, n2⟩ := List.nodup_cons.mp nd
   have h0 : (!ltCps x.cps.toList p.cps.toList && risingS x r) = true := h
   obtain ⟨h1, h2⟩ := Bool.and_eq_true_iff.mp h0
   have ih := qmF r x n2 h2
   have px : ltS p x = true := qoc (by rw [ltCps_eq] at h1; simpa [ltS] using h1) λ e => n1 (e ▸ List.mem_cons_self)
   refine List.pairwise_cons.mpr ⟨λ y hy => ?_, ih⟩
   rcases List.mem_cons.mp hy with e | hy
   · subst e
     exact px
   · exact qpL px ((List.pairwise_cons.mp ih).1 y hy)
theorem qrD : ∀ l : List Str, l.Nodup -> sortedS l = true -> l.Pairwise λ a b => ltS a b = true
 | [], _, _ => List.Pairwise.nil
 | x :: r, nd, h => qmF r x nd h
def getO (acc : List Ac) (t : Str) : Int := ((acc.find? λ p => decide (p.1 = t)).map (·.2.1)).getD 0
def putO (acc : List Ac) (t : Str) (n : Int) (nd : Nd) : List Ac := if (acc.find? λ p => decide (p.1 = t)).isSome then acc.map λ p => if p.1 = t then (p.1, n, nd) else p else acc ++ [(t, n, nd)]
def accO (acc : List Ac) : Os -> List Ac
 | [] => acc
 | p :: r => accO (putO acc p.1.tx (getO acc p.1.tx + p.2) p.1) r
def insO (p : Ac) : List Ac -> List Ac
 | [] => [p]
 | q :: r => if ltS p.1 q.1 = true then p :: q :: r else q :: insO p r
def qc9 (l : List Ac) : List Ac := l.foldr insO []
def Nd.isNon : Nd -> Bool
 | .non => true
 | _ => false
def qbo (ps : Os) : Os := ((qc9 (accO [] ps)).filter λ p => decide (p.2.1 ≠ 0) && !p.2.2.isNon).map λ p => (p.2.2, p.2.1)
def qaV (acc : List Ac) : List (Key × D) := acc.map λ p => (.inr p.1, .int p.2.1)
def qba (acc : List Ac) : List (Key × D) := acc.map λ p => (.inr p.1, p.2.2.d)
theorem qdu {f : Ac -> D} (acc : List Ac) (t : Str) : valD (acc.map λ p => ((.inr p.1 : Key), f p)) (.inr t) = (acc.find? λ p => decide (p.1 = t)).map f := by
 induction acc with
 | nil => rfl
 | cons p r ih =>
   unfold valD at ih ⊢
   rw [List.map_cons, List.find?_cons, List.find?_cons]
   by_cases h : p.1 = t
   · subst h
     simp
   · have h' : (Sum.inr p.1 : Key) ≠ Sum.inr t := λ z => h (Sum.inr.inj z)
     simp only [h, h', decide_false]
     exact ih
theorem qkO (acc : List Ac) (t : Str) : (valD (qaV acc) (.inr t)).getD (.int 0) = .int (getO acc t) := by
 unfold qaV getO
 rw [qdu]
 cases (acc.find? λ p => decide (p.1 = t)) <;> rfl
theorem qf6 {f : Ac -> D} (acc : List Ac) (t : Str) (n : Int) (nd : Nd) : stoD (acc.map λ p => ((.inr p.1 : Key), f p)) (.inr t) (f (t, n, nd)) = (putO acc t n nd).map λ p => ((.inr p.1 : Key), f p) := by
 unfold stoD putO
 rw [qdu, Option.isSome_map]
 split
 · rw [List.map_map, List.map_map]
   refine List.map_congr_left λ p _ => ?_
   by_cases h : p.1 = t
   · subst h
     simp
   · have h' : (Sum.inr p.1 : Key) ≠ Sum.inr t := λ z => h (Sum.inr.inj z)
     simp [h, h']
 · rw [List.map_append]
   rfl
theorem qjF (acc : List Ac) (t : Str) (n : Int) (nd : Nd) : (putO acc t n nd).length <= acc.length + 1 := by
 unfold putO
 split <;> simp
theorem qv6 {acc : List Ac} (h : (acc.map (·.1)).Nodup) (t : Str) (n : Int) (nd : Nd) : ((putO acc t n nd).map (·.1)).Nodup := by
 unfold putO
 split
 · have e : (acc.map λ p => if p.1 = t then (p.1, n, nd) else p).map (·.1) = acc.map (·.1) := by
     rw [List.map_map]
     refine List.map_congr_left λ p _ => ?_
     simp only [Function.comp]
     split <;> rfl
   rw [e]
   exact h
 · rename_i hn
   rw [List.map_append, List.nodup_append]
   refine ⟨h, by simp, λ a ha b hb => ?_⟩
   simp only [List.map_cons, List.map_nil, List.mem_singleton] at hb
   subst hb
   rintro rfl
   obtain ⟨p, hp, e⟩ := List.mem_map.mp ha
   refine hn ?_
   rw [List.find?_isSome]
   exact ⟨p, hp, by simpa using e⟩
theorem qgC : ∀ {ps : Os} {acc : List Ac}, (acc.map (·.1)).Nodup -> ((accO acc ps).map (·.1)).Nodup
 | [], _, h => h
 | p :: r, _, h => qgC (ps := r) (qv6 h _ _ _)
theorem qiq : ∀ (ps : Os) (acc : List Ac), (accO acc ps).length <= acc.length + ps.length
 | [], acc => Nat.le_refl _
 | p :: r, acc => by
   have h1 := qiq r (putO acc p.1.tx (getO acc p.1.tx + p.2) p.1)
   have h2 := qjF acc p.1.tx (getO acc p.1.tx + p.2) p.1
   rw [List.length_cons]
   show (accO (putO acc p.1.tx (getO acc p.1.tx + p.2) p.1) r).length <= _
   omega
theorem qsH {acc : List Ac} {t : Str} {n : Int} {nd : Nd} {q : Ac} (h : q ∈ putO acc t n nd) : q.2.2 = nd ∨ q ∈ acc := by
 unfold putO at h
 split at h
 · obtain ⟨p, hp, e⟩ := List.mem_map.mp h
   split at e
   · subst e
     exact .inl rfl
   · subst e
     exact .inr hp
 · rcases List.mem_append.mp h with h | h
   · exact .inr h
   · rw [List.mem_singleton.mp h]
     exact .inl rfl
theorem qgW : ∀ {ps : Os} {acc : List Ac} {q : Ac}, q ∈ accO acc ps -> (∃ p ∈ ps, p.1 = q.2.2) ∨ ∃ a ∈ acc, a.2.2 = q.2.2
 | [], _, q, h => .inr ⟨q, h, rfl⟩
 | p :: r, acc, q, h => by
   rcases qgW (ps := r) h with ⟨x, hx, e⟩ | ⟨x, hx, e⟩
   · exact .inl ⟨x, List.mem_cons_of_mem _ hx, e⟩
   · rcases qsH hx with z | z
     · exact .inl ⟨p, List.mem_cons_self, z.symm.trans e⟩
     · exact .inr ⟨x, z, e⟩
theorem qjl (p : Ac) : ∀ l : List Ac, (insO p l).Perm (p :: l)
 | [] => List.Perm.refl _
 | q :: r => by
   unfold insO
   split
   · exact List.Perm.refl _
   · exact ((qjl p r).cons q).trans (List.Perm.swap p q r)
theorem qfa : ∀ l : List Ac, (qc9 l).Perm l
 | [] => List.Perm.refl _
 | p :: r => (qjl p (qc9 r)).trans ((qfa r).cons p)
theorem qkV {p : Ac} : ∀ {l : List Ac}, l.Pairwise (λ a b => ltS a.1 b.1 = true) -> (∀ q ∈ l, q.1 ≠ p.1) -> (insO p l).Pairwise λ a b => ltS a.1 b.1 = true
 | [], _, _ => by simp [insO]
 | q :: r, h, hn => by
   unfold insO
   obtain ⟨h1, h2⟩ := List.pairwise_cons.mp h
   split
   · rename_i hl
     refine List.pairwise_cons.mpr ⟨λ x hx => ?_, h⟩
     rcases List.mem_cons.mp hx with e | hx
     · subst e
       exact hl
     · exact qpL hl (h1 x hx)
   · rename_i hl
     refine List.pairwise_cons.mpr ⟨λ x hx => ?_, qkV h2 λ y hy => hn y (List.mem_cons_of_mem _ hy)⟩
     rcases List.mem_cons.mp ((qjl p r).mem_iff.mp hx) with e | hx
     · subst e
       exact qoc (by simpa using hl) λ z => hn q List.mem_cons_self z.symm
     · exact h1 x hx
theorem qhg : ∀ {l : List Ac}, (l.map (·.1)).Nodup -> (qc9 l).Pairwise λ a b => ltS a.1 b.1 = true
 | [], _ => List.Pairwise.nil
 | p :: r, h => by
   obtain ⟨h1, h2⟩ := List.nodup_cons.mp h
   exact qkV (qhg h2) λ q hq e => h1 (List.mem_map.mpr ⟨q, (qfa r).mem_iff.mp hq, e⟩)
theorem qgb {acc : List Ac} (nd : (acc.map (·.1)).Nodup) {p : Ac} (h : p ∈ acc) : acc.find? (λ q => decide (q.1 = p.1)) = some p := by
 induction acc with
 | nil => cases h
 | cons q r ih =>
   obtain ⟨h1, h2⟩ := List.nodup_cons.mp nd
   rw [List.find?_cons]
   rcases List.mem_cons.mp h with e | h
   · subst e
     simp
   · have ne : q.1 ≠ p.1 := λ z => h1 (List.mem_map.mpr ⟨p, h, z.symm⟩)
     simp only [ne, decide_false]
     exact ih h2 h
theorem qgZ : ∀ l : List Ac, l.filterMap (λ p => if (decide (p.2.1 ≠ 0) && !p.2.2.isNon) = true then some (outD (p.2.2, p.2.1)) else none) = ((l.filter λ p => decide (p.2.1 ≠ 0) && !p.2.2.isNon).map λ p => (p.2.2, p.2.1)).map outD
 | [] => rfl
 | p :: r => by
   rw [List.filterMap_cons, List.filter_cons, qgZ r]
   by_cases h : (decide (p.2.1 ≠ 0) && !p.2.2.isNon) = true <;> simp only [h, if_true] <;> first | rfl | simp [h]
theorem qpD (nd : Nd) : deq nd.d (.tup [.str "none"]) = nd.isNon := by
 cases nd with
 | non => rfl
 | ask o ts os => show (_ && false) = false; exact Bool.and_false _
 | jn s a b => show (_ && false) = false; exact Bool.and_false _
def qiE (ds : List D) (Q : D -> Prop) (Ed : DX -> Prop) : Prop := ∃ ps : Os, (ds = [.lst (osD ps)] ∨ ds = [.tup (osD ps)]) /\ ps.length <= 600 /\ htL ps < 25 /\ (∀ p ∈ ps, p.1.Ok /\ p.1.size <= 10000) /\ Q (.tup (osD (qbo ps)))
def insV (u : U) : List U -> List U
 | [] => [u]
 | v :: r => if u = v then v :: r else if ltU u v = true then u :: v :: r else v :: insV u r
def setU (l : List U) : List U := l.foldr insV []
theorem insV_mem {u x : U} : ∀ {l : List U}, x ∈ insV u l <-> x = u ∨ x ∈ l
 | [] => by simp [insV]
 | v :: r => by
   unfold insV
   split
   · rename_i e
     subst e
     simp
   · split
     · simp
     · rw [List.mem_cons, insV_mem, List.mem_cons]
       constructor
       · rintro (h | h | h)
         · exact .inr (.inl h)
         · exact .inl h
         · exact .inr (.inr h)
       · rintro (h | h | h)
         · exact .inr (.inl h)
         · exact .inl h
         · exact .inr (.inr h)
theorem qkK {u : U} : ∀ {l : List U}, l.Pairwise (λ a b => ltU a b = true) -> (insV u l).Pairwise λ a b => ltU a b = true
 | [], _ => by simp [insV]
 | v :: r, h => by
   unfold insV
   obtain ⟨h1, h2⟩ := List.pairwise_cons.mp h
   split
   · exact h
   · rename_i ne
     split
     · rename_i hl
       refine List.pairwise_cons.mpr ⟨λ x hx => ?_, h⟩
       rcases List.mem_cons.mp hx with e | hx
       · subst e
         exact hl
       · exact qlQ hl (h1 x hx)
     · rename_i hl
       refine List.pairwise_cons.mpr ⟨λ x hx => ?_, qkK h2⟩
       rcases insV_mem.mp hx with e | hx
       · subst e
         exact qmx (by simpa using hl) ne
       · exact h1 x hx
theorem setU_mem {x : U} : ∀ {l : List U}, x ∈ setU l <-> x ∈ l
 | [] => Iff.rfl
 | v :: r => by
   show x ∈ insV v (setU r) <-> _
   rw [insV_mem, setU_mem, List.mem_cons]
theorem qhb : ∀ l : List U, (setU l).Pairwise λ a b => ltU a b = true
 | [] => List.Pairwise.nil
 | v :: r => qkK (qhb r)
theorem qp5 {l : List U} (h : l.Pairwise λ a b => ltU a b = true) : l.Nodup := h.imp λ {a b} h e => by
 subst e
 exact qfu h h
theorem qiv (l : List U) : (setU l).Nodup := qp5 (qhb l)
theorem qqU {l : List U} {ys : List (List Key)} (h : qbP (l.map U.k) ys) : ys = (setU l).map U.k := by
 obtain ⟨h1, h2⟩ := h
 have hy : ∀ k ∈ ys, ∃ u, u ∈ l /\ u.k = k := λ k hk => List.mem_map.mp ((h2 k).mp hk)
 obtain ⟨us, rfl⟩ : ∃ us : List U, ys = us.map U.k := by
   clear h1 h2
   induction ys with
   | nil => exact ⟨[], rfl⟩
   | cons k r ih =>
     obtain ⟨u, _, e⟩ := hy k List.mem_cons_self
     obtain ⟨us, e2⟩ := ih λ k hk => hy k (List.mem_cons_of_mem _ hk)
     exact ⟨u :: us, by rw [List.map_cons, e, e2]⟩
 have pw : us.Pairwise λ a b => ltU a b = true := List.pairwise_map.mp h1
 have mem : ∀ u, u ∈ us <-> u ∈ setU l := λ u => by
   rw [setU_mem]
   have z := h2 u.k
   constructor
   · intro hu
     obtain ⟨v, hv, e⟩ := List.mem_map.mp (z.mp (List.mem_map.mpr ⟨u, hu, rfl⟩))
     exact U.k_inj e ▸ hv
   · intro hu
     obtain ⟨v, hv, e⟩ := List.mem_map.mp (z.mpr (List.mem_map.mpr ⟨u, hu, rfl⟩))
     exact U.k_inj e ▸ hv
 rw [qcZ (λ a b => qfu) ((List.perm_ext_iff_of_nodup (qp5 pw) (qiv l)).mpr mem) pw (qhb l)]
mutual
def Nd.unk : Nd -> List U
 | .non => []
 | .ask _ ts os => setU (ts.map (·.1) ++ unkL os)
 | .jn _ a b => setU (a.unk ++ b.unk)
def unkL : Os -> List U
 | [] => []
 | (n, _) :: r => n.unk ++ unkL r
end
theorem qhi : ∀ nd : Nd, nd.unk.Nodup
 | .non => List.nodup_nil
 | .ask _ _ _ => qiv _
 | .jn _ _ _ => qiv _
theorem qpz {u : U} : ∀ {os : Os}, ∀ p ∈ os, u ∈ p.1.unk -> u ∈ unkL os
 | (n, k) :: r, p, hp, h => by
   show u ∈ n.unk ++ unkL r
   rcases List.mem_cons.mp hp with e | hp
   · subst e
     exact List.mem_append_left _ h
   · exact List.mem_append_right _ (qpz p hp h)
def fmU (ts : List Tm) (os : Os) : List U := setU (ts.map (·.1) ++ unkL os)
def unkD (l : List U) : D := .lst (l.map U.d)
theorem qn7 (l : List U) : (l.map U.k).map tupD = l.map U.d := by
 rw [List.map_map]
 rfl
def qdN (m : Nat) (ds : List D) (Q : D -> Prop) (Ed : DX -> Prop) : Prop := ∃ nd : Nd, ds = [nd.d] /\ nd.ht < m /\ m <= 30 /\ nd.Ok /\ nd.unk.length <= 300 /\ Q (unkD nd.unk)
def qfc (m : Nat) (ds : List D) (Q : D -> Prop) (Ed : DX -> Prop) : Prop := ∃ (ts : List Tm) (os : Os), ds = [fmD ts os] /\ htL os < m /\ m <= 30 /\ FmOk ts os /\ (fmU ts os).length <= 300 /\ Q (unkD (fmU ts os))
def Sg.op : Sg -> Bool -> Bool -> Bool
 | .and, a, b => a && b
 | .or, a, b => a || b
 | .sub, a, b => a && !b
 | .xor, a, b => a != b
def qjq (ws : List Tm) (ts : List Tm) : Int := (ts.map λ p => p.2 * getU ws p.1).sum
mutual
def Nd.holds (ws : List Tm) : Nd -> Bool
 | .non => false
 | .ask o ts os => if o = true then (qjq ws ts + qf5 ws os) % 2 == 1 else !(qjq ws ts + qf5 ws os == 0)
 | .jn s a b => s.op (a.holds ws) (b.holds ws)
def qf5 (ws : List Tm) : Os -> Int
 | [] => 0
 | (n, k) :: r => k * b2z (n.holds ws) + qf5 ws r
end
def fmR (ws : List Tm) (ts : List Tm) (os : Os) : Int := qjq ws ts + qf5 ws os
def WsOk (ws : List Tm) : Prop := ∀ p ∈ ws, -1000000000000000000 <= p.2 /\ p.2 <= 1000000000000000000
def OsIn (os : Os) : Prop := os.length <= 600 /\ htL os < 25 /\ ∀ p ∈ os, p.1.Ok /\ p.1.size <= 10000
def qvJ (n : Int) (ts : List Tm) : List Tm := ts.map λ p => (p.1, n * p.2)
def qvZ (n : Int) (os : Os) : Os := os.map λ p => (p.1, n * p.2)
def U.mv (f : Mv) (u : U) : U := ⟨u.n, f.mul u.f⟩
def qcS (s : Sg) (a b : Nd) : Nd :=
 if deq a.d b.d = true then (if s = .and ∨ s = .or then a else .non)
 else if a.isNon = true then (if s = .and ∨ s = .sub then .non else b)
 else if b.isNon = true then (if s = .and then .non else a)
 else .jn s a b
mutual
def Nd.dep : Nd -> Nat
 | .non => 0
 | .ask _ ts os => 1 + depL os
 | .jn _ a b => 1 + max a.dep b.dep
def depL : Os -> Nat
 | [] => 0
 | (n, _) :: r => max (1 + n.dep) (depL r)
end
theorem qoK : ∀ (os : Os) (m : Nat), PySem.W.maxOf (m : Int) (os.map λ p => (1 + (p.1.dep : Int))) = ((max m (depL os) : Nat) : Int)
 | [], m => by
   show (m : Int) = ((max m 0 : Nat) : Int)
   rw [Nat.max_zero]
 | (n, k) :: r, m => by
   have e : PySem.W.maxOf (m : Int) (((n, k) :: r : Os).map λ p => (1 + (p.1.dep : Int))) = PySem.W.maxOf (if PySem.W.DatumOrd.lt (m : Int) (1 + (n.dep : Int)) = true then (1 + (n.dep : Int)) else (m : Int)) (r.map λ p => (1 + (p.1.dep : Int))) := rfl
   rw [e]
   have e2 : (if PySem.W.DatumOrd.lt (m : Int) (1 + (n.dep : Int)) = true then (1 + (n.dep : Int)) else (m : Int)) = ((max m (1 + n.dep) : Nat) : Int) := by
     show (if decide ((m : Int) < 1 + (n.dep : Int)) = true then (1 + (n.dep : Int)) else (m : Int)) = _
     by_cases h : (m : Int) < 1 + (n.dep : Int)
     · rw [if_pos (by simpa using h)]
       omega
     · rw [if_neg (by simpa using h)]
       omega
   rw [e2, qoK r (max m (1 + n.dep))]
   show _ = ((max m (max (1 + n.dep) (depL r)) : Nat) : Int)
   rw [Nat.max_assoc]
theorem qxC (os : Os) : qfo 0 (os.map λ p => (1 + (p.1.dep : Int))) = (depL os : Int) := by
 cases os with
 | nil => rfl
 | cons p r =>
   obtain ⟨n, k⟩ := p
   have z := qoK r (1 + n.dep)
   show PySem.W.maxOf (1 + (n.dep : Int)) (r.map λ p => (1 + (p.1.dep : Int))) = ((max (1 + n.dep) (depL r) : Nat) : Int)
   rw [<- z]
   rfl
def qdX (m : Nat) (ds : List D) (Q : D -> Prop) (Ed : DX -> Prop) : Prop := ∃ nd : Nd, ds = [nd.d] /\ nd.ht < m /\ m <= 30 /\ nd.Ok /\ Q (.int (nd.dep : Nat))
def qe8 (m : Nat) (ds : List D) (Q : D -> Prop) (Ed : DX -> Prop) : Prop := ∃ (ts : List Tm) (os : Os), ds = [fmD ts os] /\ htL os < m /\ m <= 30 /\ FmOk ts os /\ Q (.int (depL os : Nat))
def gcdL (ns : List Int) : Nat := ns.foldl (λ g n => Nat.gcd g n.natAbs) 0
def qjJ (ds : List D) (Q : D -> Prop) (Ed : DX -> Prop) : Prop := ∃ ns : List Int, ds = [.lst (ns.map D.int)] /\ Q (.int (gcdL ns : Nat))
def qiW (ds : List D) (Q : D -> Prop) (Ed : DX -> Prop) : Prop := ∃ a b : Int, ds = [.int a, .int b] /\ a <= 300 /\ b <= 20 /\ Q .non
def qjL (ds : List D) (Q : D -> Prop) (Ed : DX -> Prop) : Prop := ∃ l : List U, ds = [unkD l] /\ (∀ u ∈ l, (-1000000000000 <= u.f.x /\ u.f.x <= 1000000000000) /\ -1000000000000 <= u.f.y /\ u.f.y <= 1000000000000) /\ Q .non
def qgM (ds : List D) (Q : D -> Prop) (Ed : DX -> Prop) : Prop := ∃ (ts : List Tm) (os : Os), ds = [fmD ts os] /\ (∀ p ∈ ts, -1000000000000 <= p.2 /\ p.2 <= 1000000000000) /\ (∀ p ∈ os, -1000000000000 <= p.2 /\ p.2 <= 1000000000000) /\ Q .non
def qjK (ts : List Tm) (os : Os) : List (Str × D) := [("form", fmD ts os), ("size", .int (ts.length + qaz os : Nat)), ("depth", .int (depL os : Nat))]
structure qgO (ts : List Tm) (os : Os) : Prop where
 fm : FmOk ts os
 t1 : ∀ p ∈ ts, -1000000000000 <= p.2 /\ p.2 <= 1000000000000
 t2 : ∀ p ∈ os, -1000000000000 <= p.2 /\ p.2 <= 1000000000000
 ht : htL os < 25
 few : (fmU ts os).length <= 300
 sh : ∀ u ∈ fmU ts os, (-1000000000000 <= u.f.x /\ u.f.x <= 1000000000000) /\ -1000000000000 <= u.f.y /\ u.f.y <= 1000000000000
 size : ts.length + qaz os <= 300
 dep : depL os <= 20
def qhC (ds : List D) (Q : List (Str × D) -> Prop) (Ed : DX -> Prop) : Prop := ∃ (ts : List Tm) (os : Os), ds = [fmD ts os] /\ qgO ts os /\ Q (qjK ts os)
def qa5 (ts : List Tm) : List Tm := ts.map λ p => (p.1, p.2 % 2)
def qa1 (os : Os) : Os := os.map λ p => (p.1, p.2 % 2)
def qcv (n : Int) (ts : List Tm) : List Tm := ts.map λ p => (p.1, p.2.fdiv n)
def qeC (n : Int) (os : Os) : Os := os.map λ p => (p.1, p.2.fdiv n)
def qbZ (ts : List Tm) (os : Os) : List Int := ts.map (·.2) ++ os.map (·.2)
def byOf (ts : List Tm) (os : Os) : Int := if 0 < (qbZ ts os).headD 0 then (gcdL (qbZ ts os) : Int) else -(gcdL (qbZ ts os) : Int)
theorem qf2 (ts : List Tm) (os : Os) : deq (fmD ts os) (.tup [.tup [], .tup []]) = decide (ts = [] /\ os = []) := by
 cases ts <;> cases os <;> simp [fmD, deq, deqs, osD, qaL]
theorem qp3 (ts : List Tm) (os : Os) (h : htL os < 25) : (fmD ts os).isData 150 = true := by
 have hd : (Nd.ask true ts os).d.isData 150 = true := qbI (by omega) ((Nd.ask true ts os).data 30 (by simp only [Nd.ht]; omega))
 have hd' : (qah 147 (ts.map tmD) && qah 147 (osD os)) = true := by simpa [Nd.d, D.isData, qah] using hd
 exact qbI (n := 149) (by omega) (by simpa [fmD, D.isData, qah] using hd')
def qBB (ds : List D) (Q : D -> Prop) (Ed : DX -> Prop) : Prop := ∃ (ts : List Tm) (os : Os), ds = [.str (Str.ofString "odd"), fmD ts os] /\ FmOk ts os /\ htL os < 25 /\ ts.length <= 90000 /\ OsIn (qa1 os) /\ htL (qbo (qa1 os)) < 25 /\ Q (if qbG (qa5 ts) = [] /\ qbo (qa1 os) = [] then Nd.non.d else .tup [.str (Str.ofString "odd"), fmD (qbG (qa5 ts)) (qbo (qa1 os))])
def qvy (ds : List D) (Q : D -> Prop) (Ed : DX -> Prop) : Prop := ∃ (ts : List Tm) (os : Os), ds = [.str (Str.ofString "solid"), fmD ts os] /\ FmOk ts os /\ htL os < 25 /\ ts.length <= 90000 /\ os.length <= 600 /\ (¬(ts = [] /\ os = []) -> qe0 0 (byOf ts os)) /\ Q (if ts = [] /\ os = [] then Nd.non.d else .tup [.str (Str.ofString "solid"), fmD (qcv (byOf ts os) ts) (qeC (byOf ts os) os)])
def qml (ds : List D) (Q : D -> Prop) (Ed : DX -> Prop) : Prop := qBB ds Q Ed ∨ qvy ds Q Ed
end DL
namespace DL
variable [TbC]
open PySem PySem.Spec PyProof.Rows L2
def cp (x : Str) : List Nat := x.cps.toList
def qCT (c : Nat) : Bool := decide (c = 45 ∨ (48 <= c /\ c <= 57))
def qpe (c : Nat) : Bool := decide (97 <= c /\ c <= 122)
def Lw (x : Str) : Prop := cp x ≠ [] /\ ∀ c ∈ cp x, qpe c = true
structure U.Tx (u : U) : Prop where
 lw : Lw u.n
 no : u.n ≠ "nothing"
 m : u.f.m = 0 ∨ u.f.m = 1
def mL (m : Int) : List Nat := if m = 1 then [32, 109] else []
def uT (u : U) : List Nat := if u.f.x = 0 /\ u.f.y = 0 /\ u.f.t = 0 /\ u.f.m = 0 then [] else 91 :: (cp (itx u.f.x) ++ 32 :: (cp (itx u.f.y) ++ 32 :: (cp (itx u.f.t) ++ (mL u.f.m ++ [93]))))
def Stop (r : List Nat) : Prop := ∀ x, r.head? = some x -> x = 32 ∨ x = 41
def End (r : List Nat) : Prop := ∀ x, r.head? = some x -> x = 41
def tL (n : Nat) : List Nat := if n = 1 then [] else cp (itx n) ++ [32, 42, 32]
def Lead (x : List Nat) : Prop := ∃ c r, x = c :: r /\ qpe c = true
def qxk : List (Int × Str) -> List Nat
 | [] => []
 | (n, x) :: r => 32 :: (if n < 0 then 45 else 43) :: 32 :: (tL n.natAbs ++ (cp x ++ qxk r))
def sgL (n : Int) : List Nat := if n < 0 then [45] else []
mutual
def Nd.Tx : Nd -> Prop
 | .non => True
 | .ask _ ts os => (∀ p ∈ ts, p.1.Tx) /\ TxL os
 | .jn _ a b => a.Tx /\ b.Tx
def TxL : Os -> Prop
 | [] => True
 | (n, _) :: r => n.Tx /\ TxL r
end
def outT (n : Nd) : Str := "outline(" ++ n.tx ++ ")"
abbrev DecN (n : Nd) : Prop := ∀ (n' : Nd) (r s : List Nat), n.Tx -> n'.Tx -> cp n.tx ++ r = cp n'.tx ++ s -> n = n' /\ r = s
inductive Pc where
 | t (p : Tm) | o (p : Nd × Int)
def Pc.k : Pc -> Int
 | .t p => (tmP p).1
 | .o p => p.2
def Pc.x : Pc -> Str
 | .t p => p.1.tx
 | .o p => outT p.1
def Pc.Tx : Pc -> Prop
 | .t p => p.1.Tx
 | .o p => p.1.Tx
def pcs (ts : List Tm) (os : Os) : List Pc := ts.map .t ++ os.map .o
def pcP (p : Pc) : Int × Str := (p.k, p.x)
def kdL (o : Bool) : List Nat := if o = true then [111, 100, 100] else [115, 111, 108, 105, 100]
def Sg.c : Sg -> Nat
 | .and => 38
 | .or => 124
 | .sub => 45
 | .xor => 94
noncomputable instance : DecidableEq Nd := λ a b => Classical.propDecidable (a = b)
def rT (v : U -> Int) (ts : List Tm) : Int := (ts.map λ p => p.2 * v p.1).sum
def rO (h : Nd -> Int) (os : Os) : Int := (os.map λ p => p.2 * h p.1).sum
def indU (u : U) : U -> Int := λ x => if x = u then 1 else 0
noncomputable def indN (n : Nd) : Nd -> Int := λ x => if x = n then 1 else 0
def nT (ts : List Tm) : Nat := (ts.map λ p => p.2.natAbs).sum
def nO (os : Os) : Nat := (os.map λ p => p.2.natAbs).sum
theorem qwU (p) (r : List Tm) : nT (p :: r) = p.2.natAbs + nT r := by simp [nT]
theorem quk (p) (r : Os) : nO (p :: r) = p.2.natAbs + nO r := by simp [nO]
structure CanU (ts : List Tm) : Prop where
 lt : ts.Pairwise λ a b => ltU a.1 b.1 = true
 nz : ∀ p ∈ ts, p.2 ≠ 0
structure AcOk (acc : List Ac) : Prop where
 nd : (acc.map (·.1)).Nodup
 tx : ∀ e ∈ acc, e.1 = e.2.2.tx /\ e.2.2.Tx
def rA (h : Nd -> Int) (acc : List Ac) : Int := (acc.map λ e => e.2.1 * h e.2.2).sum
def nA (acc : List Ac) : Nat := (acc.map λ e => e.2.1.natAbs).sum
def sA (acc : List Ac) : Nat := (acc.map λ e => 1 + e.2.2.size).sum
def kpB (p : Ac) : Bool := decide (p.2.1 ≠ 0) && !p.2.2.isNon
def kpO (l : List Ac) : Os := (l.filter kpB).map λ p => (p.2.2, p.2.1)
structure CanO (os : Os) : Prop where
 lt : os.Pairwise λ a b => ltS a.1.tx b.1.tx = true
 nz : ∀ p ∈ os, p.2 ≠ 0 /\ p.1 ≠ .non
abbrev Fm := List Tm × Os
def Fm.Tx (x : Fm) : Prop := (∀ p ∈ x.1, p.1.Tx) /\ TxL x.2
structure Fm.Can (x : Fm) : Prop where
 u : CanU x.1
 o : CanO x.2
def mrg (x : Fm) : Fm := (qbG x.1, qbo x.2)
def scl (k : Int) (x : Fm) : Fm := mrg (qvJ k x.1, qvZ k x.2)
def addF (x y : Fm) : Fm := mrg (x.1 ++ y.1, x.2 ++ y.2)
def qcN (o : Bool) (ts : List Tm) (os : Os) : Nd :=
 if o = true then (if qbG (qa5 ts) = [] /\ qbo (qa1 os) = [] then .non else .ask true (qbG (qa5 ts)) (qbo (qa1 os)))
 else if ts = [] /\ os = [] then .non else .ask false (qcv (byOf ts os) ts) (qeC (byOf ts os) os)
def mvT (f : Mv) (p : Tm) : Tm := (p.1.mv f, p.2)
mutual
def Nd.mvd (f : Mv) : Nd -> Nd
 | .non => .non
 | .ask o ts os => qcN o (qbG (ts.map (mvT f))) (qbo (mvdL f os))
 | .jn s a b => qcS s (a.mvd f) (b.mvd f)
def mvdL (f : Mv) : Os -> Os
 | [] => []
 | (n, k) :: r => (n.mvd f, k) :: mvdL f r
end
def oddF (x : Fm) : Fm := (qbG (qa5 x.1), qbo (qa1 x.2))
def divF (x : Fm) : Fm := (qcv (byOf x.1 x.2) x.1, qeC (byOf x.1 x.2) x.2)
structure UB (B : Int) (u : U) : Prop where
 tx : u.Tx
 ok : u.f.Ok
 x : -B <= u.f.x /\ u.f.x <= B
 y : -B <= u.f.y /\ u.f.y <= B
 n : u.n.length <= 20
mutual
def Nd.Bd (B : Int) (N : Nat) : Nd -> Prop
 | .non => True
 | .ask _ ts os => ((∀ p ∈ ts, UB B p.1) /\ nT ts + nO os <= N) /\ BdL B N os
 | .jn _ a b => a.Bd B N /\ b.Bd B N
def BdL (B : Int) (N : Nat) : Os -> Prop
 | [] => True
 | (n, _) :: r => n.Bd B N /\ BdL B N r
end
structure Fm.Bd (x : Fm) (B : Int) (N S Dp : Nat) : Prop where
 u : ∀ p ∈ x.1, UB B p.1
 n : nT x.1 + nO x.2 <= N
 o : BdL B N x.2
 s : x.1.length + qaz x.2 <= S
 d : depL x.2 <= Dp
structure Nd.BS (n : Nd) (B : Int) (N S Dp : Nat) : Prop where
 b : n.Bd B N
 s : n.size <= S
 d : n.dep <= Dp
section
variable {x y : Fm} {B B' A : Int} {N N' S S' Dp Dp' : Nat}
theorem UB.okU {u : U} (h : UB B u) (hB : B <= 1000000000000000000) : u.Ok := by
 have t0 := h.ok.t0
 have t1 := h.ok.t1
 have hx := h.x
 have hy := h.y
 refine ⟨h.tx.m, Nat.le_trans h.n (by decide), ?_, ?_, ?_⟩ <;> (refine Nat.lt_of_le_of_lt (m := 1000000000000000000) ?_ (by decide) ; omega)
theorem qjj {ts : List Tm} {p : Tm} (h : p ∈ ts) : p.2.natAbs <= nT ts := by
 induction ts with
 | nil => cases h
 | cons q r ih =>
   rw [qwU]
   rcases List.mem_cons.mp h with e | h
   · subst e
     omega
   · have := ih h
     omega
theorem qgF {ts : Os} {p : Nd × Int} (h : p ∈ ts) : p.2.natAbs <= nO ts := by
 induction ts with
 | nil => cases h
 | cons q r ih =>
   rw [quk]
   rcases List.mem_cons.mp h with e | h
   · subst e
     omega
   · have := ih h
     omega
theorem qe3 : ∀ os : Os, os.length <= qaz os
 | [] => Nat.le_refl _
 | (n, k) :: r => by
   have := qe3 r
   show r.length + 1 <= (1 + n.size) + qaz r
   omega
theorem qgY {k : Int} (h : k.natAbs <= 1000000000000000000) : Sm k := Nat.lt_of_le_of_lt h (by decide)
mutual
theorem Nd.Bd.okN (hB : B <= 1000000000000000000) (hN : N <= 1000000000000000000) : ∀ n : Nd, n.Bd B N -> n.size <= 600 -> n.Ok
 | .non, _, _ => trivial
 | .ask o ts os, h, hs => by
   have hs : 1 + (ts.length + qaz os) <= 600 := hs
   have h2 := h.1.2
   have hl := qe3 os
   refine ⟨by omega, by omega, λ p hp => ⟨(h.1.1 p hp).okU hB, qgY (by have := qjj hp; omega)⟩, BdL.okL hB hN os h.2 (by omega) (λ p hp => by have := qgF hp; omega)⟩
 | .jn s a b, h, hs => by
   have hs : 1 + a.size + b.size <= 600 := hs
   exact ⟨Nd.Bd.okN hB hN a h.1 (by omega), Nd.Bd.okN hB hN b h.2 (by omega)⟩
theorem BdL.okL (hB : B <= 1000000000000000000) (hN : N <= 1000000000000000000) : ∀ os : Os, BdL B N os -> qaz os <= 600 -> (∀ p ∈ os, p.2.natAbs <= 1000000000000000000) -> OkL os
 | [], _, _, _ => trivial
 | (n, k) :: r, h, hs, hk => by
   have hs : (1 + n.size) + qaz r <= 600 := hs
   exact ⟨⟨Nd.Bd.okN hB hN n h.1 (by omega), qgY (hk (n, k) List.mem_cons_self)⟩, BdL.okL hB hN r h.2 (by omega) λ p hp => hk p (List.mem_cons_of_mem _ hp)⟩
end
mutual
theorem qhu : ∀ n : Nd, n.ht <= n.dep
 | .non => Nat.le_refl _
 | .ask o ts os => by
   have := qeY os
   show htL os + 1 <= 1 + depL os
   omega
 | .jn s a b => by
   have := qhu a
   have := qhu b
   show max a.ht b.ht + 1 <= 1 + max a.dep b.dep
   omega
theorem qeY : ∀ os : Os, htL os <= depL os
 | [] => Nat.le_refl _
 | (n, k) :: r => by
   have := qhu n
   have := qeY r
   show max n.ht (htL r) <= max (1 + n.dep) (depL r)
   omega
end
theorem qgm : ∀ l : List U, (setU l).length <= l.length
 | [] => Nat.le_refl _
 | u :: r => by
   have ih := qgm r
   have z : ∀ (m : List U), (insV u m).length <= m.length + 1 := λ m => by
     induction m with
     | nil => simp [insV]
     | cons v r ih =>
       unfold insV
       split
       · simp
       · split
         · simp
         · simp only [List.length_cons]
           omega
   have := z (setU r)
   show (insV u (setU r)).length <= r.length + 1
   omega
mutual
theorem qjm : ∀ n : Nd, n.unk.length <= n.size
 | .non => Nat.zero_le _
 | .ask o ts os => by
   have h1 := qgm (ts.map (·.1) ++ unkL os)
   have h2 := qii os
   rw [List.length_append, List.length_map] at h1
   show (setU (ts.map (·.1) ++ unkL os)).length <= 1 + (ts.length + qaz os)
   omega
 | .jn s a b => by
   have h1 := qgm (a.unk ++ b.unk)
   have h2 := qjm a
   have h3 := qjm b
   rw [List.length_append] at h1
   show (setU (a.unk ++ b.unk)).length <= 1 + a.size + b.size
   omega
theorem qii : ∀ os : Os, (unkL os).length <= qaz os
 | [] => Nat.le_refl _
 | (n, k) :: r => by
   have h2 := qjm n
   have h3 := qii r
   show (n.unk ++ unkL r).length <= (1 + n.size) + qaz r
   rw [List.length_append]
   omega
end
mutual
theorem qj5 : ∀ n : Nd, n.Bd B N -> ∀ u ∈ n.unk, UB B u
 | .non, _, u, hu => by cases hu
 | .ask o ts os, h, u, hu => by
   rcases List.mem_append.mp (setU_mem.mp hu) with z | z
   · obtain ⟨p, hp, rfl⟩ := List.mem_map.mp z
     exact h.1.1 p hp
   · exact qiC os h.2 u z
 | .jn s a b, h, u, hu => by
   rcases List.mem_append.mp (setU_mem.mp hu) with z | z
   · exact qj5 a h.1 u z
   · exact qj5 b h.2 u z
theorem qiC : ∀ os : Os, BdL B N os -> ∀ u ∈ unkL os, UB B u
 | [], _, u, hu => by cases hu
 | (n, k) :: r, h, u, hu => by
   rcases List.mem_append.mp hu with z | z
   · exact qj5 n h.1 u z
   · exact qiC r h.2 u z
end
theorem Fm.Bd.fmOk (h : x.Bd B N S Dp) (hB : B <= 1000000000000000000) (hN : N <= 1000000000000000000) (hS : S <= 600) : FmOk x.1 x.2 := by
 have hn := h.n
 have hs := h.s
 have hl := qe3 x.2
 exact ⟨by omega, by omega, λ p hp => ⟨(h.u p hp).okU hB, qgY (by have := qjj hp; omega)⟩, BdL.okL hB hN x.2 h.o (by omega) λ p hp => by have := qgF hp; omega⟩
theorem Fm.Bd.pathOk (h : x.Bd B N S Dp) (hB : B <= 1000000000000) (hN : N <= 1000000000000) (hS : S <= 300) (hD : Dp <= 20) : qgO x.1 x.2 := by
 have hn := h.n
 have hs := h.s
 have hd := h.d
 have hl := qe3 x.2
 have hk := qeY x.2
 refine ⟨h.fmOk (by omega) (by omega) (by omega), λ p hp => ?_, λ p hp => ?_, by omega, ?_, λ u hu => ?_, by omega, by omega⟩
 · have := qjj hp
   omega
 · have := qgF hp
   omega
 · have h1 := qgm (x.1.map (·.1) ++ unkL x.2)
   have h2 := qii x.2
   rw [List.length_append, List.length_map] at h1
   show (setU (x.1.map (·.1) ++ unkL x.2)).length <= 300
   omega
 · have z : UB B u := by
     rcases List.mem_append.mp (setU_mem.mp hu) with z | z
     · obtain ⟨p, hp, rfl⟩ := List.mem_map.mp z
       exact h.u p hp
     · exact qiC x.2 h.o u z
   have := z.x
   have := z.y
   omega
end
mutual
inductive Rp where
 | cur (n : Str) | nul | sum (a b : Rp) | less (a b : Rp) | many (k : Int) (a : Rp) | mvd (f : Mv) (a : Rp) | outl (r : Rr) | back (a : Rp)
inductive Rr where
 | non | ask (o : Bool) (p : Rp) | mvd (f : Mv) (r : Rr) | jn (s : Sg) (a b : Rr)
end
mutual
def Rp.d : Rp -> D
 | .cur n => .tup [.str "curve", .str n]
 | .nul => .tup [.str "nothing"]
 | .sum a b => .tup [.str "sum", a.d, b.d]
 | .less a b => .tup [.str "less", a.d, b.d]
 | .many k a => .tup [.str "many", .int k, a.d]
 | .mvd f a => .tup [.str "moved", .tup f.l, a.d]
 | .outl r => .tup [.str "outline", r.d]
 | .back a => .tup [.str "back", a.d]
def Rr.d : Rr -> D
 | .non => .tup [.str "none"]
 | .ask o p => .tup [.str (kindS o), p.d]
 | .mvd f r => .tup [.str "moved", .tup f.l, r.d]
 | .jn s a b => .tup [.str s.s, a.d, b.d]
end
def Mv.sg (f : Mv) : Int := 1 - 2 * f.m
mutual
def Rp.fm (F : Mv) : Rp -> Fm
 | .cur n => ([(⟨n, F⟩, 1)], [])
 | .nul => ([], [])
 | .sum a b => addF (a.fm F) (b.fm F)
 | .less a b => addF (a.fm F) (scl (-1) (b.fm F))
 | .many k a => scl k (a.fm F)
 | .mvd f a => scl f.sg (a.fm (F.mul f))
 | .outl r => if (r.nd F).isNon = true then ([], []) else ([], [(r.nd F, 1)])
 | .back a => scl (-1) (a.fm F)
def Rr.nd (F : Mv) : Rr -> Nd
 | .non => .non
 | .ask o p => qcN o (p.fm F).1 (p.fm F).2
 | .mvd f r => r.nd (F.mul f)
 | .jn s a b => qcS s (a.nd F) (b.nd F)
end
def NmOk (n : Str) : Prop := Lw n /\ n ≠ "nothing" /\ n.length <= 20 /\ qaQ n
theorem NmOk.of {n : Str} (h : qaQ n) : NmOk n := by
 have h' := h
 obtain ⟨l, rfl, h1, h2, h3, h4⟩ := h
 refine ⟨⟨λ z => ?_, λ c hc => ?_⟩, λ z => ?_, ?_, h'⟩
 · have z : l = [] := z
   rw [z] at h1
   cases h1
 · have hc : c ∈ l := hc
   exact decide_eq_true (h3 c hc)
 · exact h4 (by rw [z]; decide)
 · show l.length <= 20
   omega
mutual
def Rp.Ok : Rp -> Prop
 | .cur n => NmOk n
 | .nul => True
 | .sum a b => a.Ok /\ b.Ok
 | .less a b => a.Ok /\ b.Ok
 | .many k a => a.Ok
 | .mvd f a => f.Ok /\ a.Ok
 | .outl r => r.Ok
 | .back a => a.Ok
def Rr.Ok : Rr -> Prop
 | .non => True
 | .ask o p => p.Ok
 | .mvd f r => f.Ok /\ r.Ok
 | .jn s a b => a.Ok /\ b.Ok
end
theorem qsl {n : Str} (h : NmOk n) {F : Mv} (hF : F.Ok) : Fm.Tx ([(⟨n, F⟩, 1)], []) := ⟨λ p hp => by
 rw [List.mem_singleton.mp hp]
 exact ⟨h.1, h.2.1, by show F.m = 0 ∨ F.m = 1; have := hF.m0; have := hF.m1; omega⟩, trivial⟩
def hz (ws : List Tm) (n : Nd) : Int := b2z (n.holds ws)
def Fm.rd (ws : List Tm) (x : Fm) : Int := fmR ws x.1 x.2
mutual
def Rp.rd (ws : List Tm) (F : Mv) : Rp -> Int
 | .cur n => getU ws ⟨n, F⟩
 | .nul => 0
 | .sum a b => a.rd ws F + b.rd ws F
 | .less a b => a.rd ws F - b.rd ws F
 | .many k a => k * a.rd ws F
 | .mvd f a => f.sg * a.rd ws (F.mul f)
 | .outl r => b2z (r.hd ws F)
 | .back a => 0 - a.rd ws F
def Rr.hd (ws : List Tm) (F : Mv) : Rr -> Bool
 | .non => false
 | .ask o p => if o = true then p.rd ws F % 2 == 1 else !(p.rd ws F == 0)
 | .mvd f r => r.hd ws (F.mul f)
 | .jn s a b => s.op (a.hd ws F) (b.hd ws F)
end
mutual
def Rp.W (d : Nat) : Rp -> Prop
 | .cur n => NmOk n
 | .nul => True
 | .sum a b => 1 <= d /\ a.W (d - 1) /\ b.W (d - 1)
 | .less a b => 1 <= d /\ a.W (d - 1) /\ b.W (d - 1)
 | .many k a => 1 <= d /\ (-4 <= k /\ k <= 4) /\ a.W (d - 1)
 | .mvd f a => 1 <= d /\ (f.Ok /\ f.In (10000000000 : Int)) /\ a.W (d - 1)
 | .outl r => 1 <= d /\ r.W (d - 1)
 | .back a => 1 <= d /\ a.W (d - 1)
def Rr.W (d : Nat) : Rr -> Prop
 | .non => True
 | .ask o p => p.W (d - 1)
 | .mvd f r => 1 <= d /\ (f.Ok /\ f.In (10000000000 : Int)) /\ r.W (d - 1)
 | .jn s a b => 1 <= d /\ a.W (d - 1) /\ b.W (d - 1)
end
theorem qlS {n : Str} (h : NmOk n) {F : Mv} (hF : F.Ok) {B : Int} (hB : F.In B) {N S Dp : Nat} (hN : 1 <= N) (hS : 1 <= S) : Fm.Bd ([(⟨n, F⟩, 1)], []) B N S Dp := ⟨λ p hp => by
 have z := (qsl h hF).1 p hp
 rw [List.mem_singleton.mp hp] at z ⊢
 exact ⟨z, hF, hB.1, hB.2, h.2.2.1⟩, hN, trivial, hS, Nat.zero_le _⟩
def PGo (x : Fm) : Prop := x.Bd 1000000000000 1000000000000 300 20
def RGo (n : Nd) : Prop := n.BS 1000000000000 1000000000000 300 20
def Fm.sz (x : Fm) : Nat := x.1.length + qaz x.2
def outF (n : Nd) : Fm := if n.isNon = true then ([], []) else ([], [(n, 1)])
mutual
def Rp.Fit : Rp -> Prop
 | .cur n => NmOk n
 | .nul => True
 | .sum a b => (a.Fit /\ b.Fit /\ (a.fm Mv.one).sz + (b.fm Mv.one).sz <= 600) /\ PGo (addF (a.fm Mv.one) (b.fm Mv.one))
 | .less a b => (a.Fit /\ b.Fit /\ (a.fm Mv.one).sz + (b.fm Mv.one).sz <= 600) /\ PGo (addF (a.fm Mv.one) (scl (-1) (b.fm Mv.one)))
 | .many k a => (a.Fit /\ (-18446744073709551616 < k /\ k < 18446744073709551616)) /\ PGo (scl k (a.fm Mv.one))
 | .mvd f a => (a.Fit /\ (f.Ok /\ f.In 1000000000000)) /\ PGo (scl f.sg (a.fm f))
 | .outl r => r.Fit /\ PGo (outF (r.nd Mv.one))
 | .back a => a.Fit /\ PGo (scl (-1) (a.fm Mv.one))
def Rr.Fit : Rr -> Prop
 | .non => True
 | .ask o p => p.Fit /\ RGo (qcN o (p.fm Mv.one).1 (p.fm Mv.one).2)
 | .mvd f r => (r.Fit /\ (f.Ok /\ f.In 1000000000000)) /\ RGo (r.nd f)
 | .jn s a b => (a.Fit /\ b.Fit) /\ RGo (qcS s (a.nd Mv.one) (b.nd Mv.one))
end
mutual
def Rp.ht : Rp -> Nat
 | .cur _ => 0
 | .nul => 0
 | .sum a b => max a.ht b.ht + 1
 | .less a b => max a.ht b.ht + 1
 | .many _ a => a.ht + 1
 | .mvd _ a => a.ht + 1
 | .outl r => r.ht + 1
 | .back a => a.ht + 1
def Rr.ht : Rr -> Nat
 | .non => 0
 | .ask _ p => p.ht + 1
 | .mvd _ r => r.ht + 1
 | .jn _ a b => max a.ht b.ht + 1
end
mutual
def Rp.Lf (F : Mv) : Rp -> Prop
 | .cur n => NmOk n
 | .nul => True
 | .sum a b => (a.Lf F /\ b.Lf F /\ (a.fm F).sz + (b.fm F).sz <= 600) /\ PGo (addF (a.fm F) (b.fm F))
 | .less a b => (a.Lf F /\ b.Lf F /\ (a.fm F).sz + (b.fm F).sz <= 600) /\ PGo (addF (a.fm F) (scl (-1) (b.fm F)))
 | .many k a => (a.Lf F /\ (-18446744073709551616 < k /\ k < 18446744073709551616)) /\ PGo (scl k (a.fm F))
 | .mvd f a => (a.Lf (F.mul f) /\ f.Ok /\ (F.mul f).In 1000000000000) /\ PGo (scl f.sg (a.fm (F.mul f)))
 | .outl r => r.Lf F /\ PGo (outF (r.nd F))
 | .back a => a.Lf F /\ PGo (scl (-1) (a.fm F))
def Rr.Lf (F : Mv) : Rr -> Prop
 | .non => True
 | .ask o p => p.Lf F /\ RGo (qcN o (p.fm F).1 (p.fm F).2)
 | .mvd f r => r.Lf (F.mul f) /\ f.Ok /\ (F.mul f).In 1000000000000
 | .jn s a b => (a.Lf F /\ b.Lf F) /\ RGo (qcS s (a.nd F) (b.nd F))
end
end DL
namespace DL
open PySem PySem.Spec PyProof.Rows L2
abbrev pD (C : Addr) (x : Fm) : D := .ins C (qjK x.1 x.2)
def regF (n : Nd) : List (Str × D) := [("node", n.d), ("size", .int (n.size : Nat)), ("depth", .int (n.dep : Nat))]
abbrev rD (C : Addr) (n : Nd) : D := .ins C (regF n)
theorem PGo.ok {x : Fm} (h : PGo x) : qgO x.1 x.2 := h.pathOk (by decide) (by decide) (by decide) (by decide)
theorem PGo.ht {x : Fm} (h : PGo x) : htL x.2 < 25 := by
 have := qeY x.2
 have := h.d
 omega
def qdo (C : Addr) (ds : List D) (Q : D -> Prop) (Ed : DX -> Prop) : Prop := ∃ x : Fm, ds = [pD C x] /\ PGo x /\ Q (.str (fmT x.1 x.2))
mutual
def Rp.cnt : Rp -> Nat
 | .cur _ => 1
 | .nul => 0
 | .sum a b => a.cnt + b.cnt
 | .less a b => a.cnt + b.cnt
 | .many _ a => a.cnt
 | .mvd _ a => a.cnt
 | .outl r => r.cnt
 | .back a => a.cnt
def Rr.cnt : Rr -> Nat
 | .non => 0
 | .ask _ p => p.cnt
 | .mvd _ r => r.cnt
 | .jn _ a b => a.cnt + b.cnt
end
def KR (m c : Nat) (d : D) : Prop := (∃ r : Rp, d = r.d /\ r.ht < m /\ r.Ok /\ r.cnt <= c) ∨ (∃ r : Rr, d = r.d /\ r.ht < m /\ r.Ok /\ r.cnt <= c)
def Inn (m : Nat) : List D -> Nat -> Prop
 | [], _ => True
 | d :: r, c => ∃ c1 c2, c1 + c2 <= c /\ KR m c1 d /\ Inn m r c2
def Dfl (wd : Str) : Prop := (Str.ofString "none" == wd) = false /\ (Str.ofString "nothing" == wd) = false /\ (wd == Str.ofString "curve") = false /\ (wd == Str.ofString "moved") = false /\ (Str.ofString "many" == wd) = false
instance (wd : Str) : Decidable (Dfl wd) := by unfold Dfl; infer_instance
def AllT (l : List D) : Prop := ∀ d ∈ l, d = .bl true
abbrev Rw := Option Int × Int × Nd
def oldD : Option Int -> D
 | none => .non
 | some i => .int i
def Rw.d (r : Rw) : D := .tup [oldD r.1, .int r.2.1, r.2.2.d]
def qAM (CR : Addr) : Option Nd -> D
 | none => .non
 | some n => rD CR n
def qxh (CM CR q : Addr) (m : Mv) (c : Option Nd) : List (Str × D) := [("plain_rows", .cls q), ("now", .ins CM m.fs), ("cut_now", qAM CR c)]
def Rw.tx (r : Rw) : Str := match r.1 with
 | some i => ("stain " : Str) ++ Str.ofString (toString i) ++ (" " : Str) ++ Str.ofString (toString r.2.1) ++ (" " : Str) ++ r.2.2.tx
 | none => if r.2.1 = 0 then ("wipe " : Str) ++ r.2.2.tx else ("paint " : Str) ++ Str.ofString (toString r.2.1) ++ (" " : Str) ++ r.2.2.tx
def Rw.Ok (r : Rw) : Prop := (∀ i, r.1 = some i -> 0 <= i /\ i < 10) /\ (0 <= r.2.1 /\ r.2.1 < 10) /\ RGo r.2.2
abbrev LRw := Option Int × Int × Rr
def LRw.d (r : LRw) : D := .tup [oldD r.1, .int r.2.1, r.2.2.d]
def LRw.W (n : Nat) (r : LRw) : Prop := (∀ i, r.1 = some i -> 0 <= i /\ i < 10) /\ (0 <= r.2.1 /\ r.2.1 < 10) /\ r.2.2.W n
def LRw.rw (r : LRw) : Rw := (r.1, r.2.1, r.2.2.nd Mv.one)
def tlF (what : Str) (v l : Int) : List (Str × D) := [("limit", .int l), ("value", .int v), ("what", .str what), ("code", .str "TooLarge")]
def absI (x : Int) : Int := if x < 0 then -x else x
structure CutK (k : Nat) (w : Rr) : Prop where
 lf : w.Lf Mv.one
 bs : (w.nd Mv.one).BS 1000000000000 1000000000000 (6 * k + 5) (k + 3)
 ht : w.ht <= k + 4
def MvK (k : Nat) (m : Mv) : Prop := m.Ok /\ m.In (1000003 * k)
def RowK (r : LRw) : Prop := (∀ i, r.1 = some i -> 0 <= i /\ i < 10) /\ (0 <= r.2.1 /\ r.2.1 < 10) /\ CutK 9 r.2.2
def bigT (k : Int) : Bool := decide (1000000000000 < absI k)
def badT (x : Fm) : Option Int := (x.1.map (·.2) ++ x.2.map (·.2)).find? bigT
theorem qiN {β : Type} {g : DG} {te : DE} {ρ : Rho} {Q : D -> Prop} (e : β -> D) (R : β -> Prop) : ∀ (xs : List D) (acc : List β), (∀ x ∈ xs, ∀ K1 : D -> Prop, (∀ b, R b -> K1 (e b)) -> g x ρ λ ρ' => te ρ' K1) -> acc.length + xs.length <= 100000 -> (∀ b ∈ acc, R b) ->
   (∀ bs : List β, bs.length = acc.length + xs.length -> (∀ b ∈ bs, R b) -> Q (.lst (bs.map e))) -> qaG g dTs1 te xs (acc.map e) ρ Q
 | [], acc, _, _, ha, q => q acc rfl ha
 | x :: r, acc, h, hl, ha, q => by
   rw [List.length_cons] at hl
   show g x ρ λ ρ' => te ρ' λ y => (acc.map e).length < 100000 /\ qaG g dTs1 te r (acc.map e ++ [y]) ρ Q
   refine h x List.mem_cons_self (λ y => (acc.map e).length < 100000 /\ qaG g dTs1 te r (acc.map e ++ [y]) ρ Q) λ b hb => ⟨by rw [List.length_map]; omega, ?_⟩
   rw [show acc.map e ++ [e b] = (acc ++ [b]).map e by rw [List.map_append]; rfl]
   refine qiN e R r (acc ++ [b]) (λ y hy => h y (List.mem_cons_of_mem _ hy)) (by rw [List.length_append, List.length_singleton]; omega) (λ c hc => ?_) λ bs hl2 hb2 => q bs (by rw [hl2, List.length_append, List.length_singleton, List.length_cons]; omega) hb2
   rcases List.mem_append.mp hc with z | z
   · exact ha c z
   · rw [List.mem_singleton.mp z]
     exact hb
def qaw : D -> Bool
 | .str s => decide (1 <= s.length /\ s.length <= 8) && (s.cps.toList.all λ c => decide (c ∈ (Str.ofString "abcdefghijklmnopqrstuvwxyz").cps.toList)) && !(wordsL.any (· == s))
 | _ => false
def NmV (v : D) : Prop := v = .non ∨ (∃ i, v = .int i) ∨ ∃ s : Str, v = .str s /\ s.length <= 1000
def qm3 : List D -> List D -> Option (Bool × D)
 | _, [] => none
 | pre, v :: r => if qaw v = false then some (false, v) else if qbA v pre = true then some (true, v) else qm3 (pre ++ [v]) r
def okU (ls : List D) (u : U) : Bool := qbA u.d (ls.map λ l => D.tup [l, .int 0, .int 0, .int 0, .int 0])
def qqZ (ls : List D) (n : Nd) : Bool := n.unk.any λ u => !okU ls u
def qoq (ls : List D) : Nat -> List Nd -> Option Nat
 | _, [] => none
 | i, n :: r => if qqZ ls n = true then some i else qoq ls (i + 1) r
def nmF (v : D) : List (Str × D) := [("value", v), ("code", .str "InvalidName")]
def ntF (v : D) : List (Str × D) := [("value", v), ("code", .str "NameTaken")]
def ifF (i : Nat) : List (Str × D) := [("index", .int (i : Int)), ("code", .str "InvalidFact")]
def curF (CR : Addr) (ls ps : List D) (rs : List Nd) : List (Str × D) := [("loose", .tup ls), ("plain", .tup ps), ("facts", .tup (rs.map (rD CR)))]
def qCK (CR CN CT CL CF : Addr) (ls ps : List D) (rs : List Nd) (Q : List (Str × D) -> Prop) (Ed : DX -> Prop) : Prop := match qm3 [] (ls ++ ps) with
 | some (true, v) => Ed (CT, ntF v)
 | some (false, v) => Ed (CN, nmF v)
 | none => if 6 < (ls ++ ps).length then Ed (CL, tlF "names" ((ls ++ ps).length : Nat) 6) else match qoq ls 0 rs with
   | some i => Ed (CF, ifF i)
   | none => if 4 < rs.length then Ed (CL, tlF "facts" (rs.length : Nat) 4) else Q (curF CR ls ps rs)
structure qCM (ls ps : List D) (rs : List Nd) : Prop where
 nm : ∀ v ∈ ls ++ ps, NmV v
 go : ∀ n ∈ rs, RGo n
 l1 : ls.length <= 100
 l2 : ps.length <= 100
 l3 : rs.length <= 100
def NmF (s : Str) : Prop := qaQ s /\ s.cps.toList.head? ≠ some 107
mutual
def Rp.Pl (P : Str -> Prop) : Rp -> Prop
 | .cur n => P n
 | .nul => True
 | .sum a b => a.Pl P /\ b.Pl P
 | .less a b => a.Pl P /\ b.Pl P
 | .many _ a => a.Pl P
 | .mvd _ _ => False
 | .outl r => r.Pl P
 | .back a => a.Pl P
def Rr.Pl (P : Str -> Prop) : Rr -> Prop
 | .non => True
 | .ask _ p => p.Pl P
 | .mvd _ _ => False
 | .jn _ a b => a.Pl P /\ b.Pl P
end
def Fm.On (P : U -> Prop) (x : Fm) : Prop := (∀ p ∈ x.1, P p.1) /\ ∀ p ∈ x.2, ∀ u ∈ p.1.unk, P u
def farU (u : U) : Int := if absI u.f.x < absI u.f.y then absI u.f.y else absI u.f.x
def badS (l : List U) : Option Int := (l.map farU).find? bigT
def badZ (s d : Int) : Option (Str × Int × Int) := if 300 < s then some ("size", s, 300) else if 20 < d then some ("depth", d, 20) else none
def PGw (x : Fm) : Prop := x.Bd 1000000000000 1000000000000000 300 20
def letL : List Nat := ("abcdefghijklmnopqrstuvwxyz" : Str).cps.toList
def figL : List Nat := ("0123456789" : Str).cps.toList
def qiO : List Nat := ("+-*&|^()[]," : Str).cps.toList
def mkS (w : List Nat) : Str := ⟨w.toArray⟩
inductive TkR : List Nat -> List Str -> Option Str -> Prop
 | nil : TkR [] [] none
 | space {r ts e} : TkR r ts e -> TkR (32 :: r) ts e
 | sign {c r ts e} : c ∈ qiO ∨ c = 61 -> TkR r ts e -> TkR (c :: r) (mkS [c] :: ts) e
 | word {w r ts e} : w ≠ [] -> (∀ c ∈ w, c ∈ letL) -> (∀ c, r.head? = some c -> c ∉ letL) -> TkR r ts e -> TkR (w ++ r) (mkS w :: ts) e
 | num {w r ts e} : w ≠ [] -> (∀ c ∈ w, c ∈ figL) -> (∀ c, r.head? = some c -> c ∉ figL) -> w.length <= 13 -> TkR r ts e -> TkR (w ++ r) (mkS w :: ts) e
 | bigNum {w r} : (∀ c ∈ w, c ∈ figL) -> (∀ c, r.head? = some c -> c ∉ figL) -> 13 < w.length -> TkR (w ++ r) [] (some "number")
 | badSign {c r} : c ∉ letL -> c ∉ figL -> c ∉ qiO -> c ≠ 32 -> c ≠ 61 -> TkR (c :: r) [] (some "sign")
def TkOk (t : Str) : Prop := ∃ (c : Nat) (w : List Nat), t.cps.toList = c :: w /\ t.length <= 99999 /\ (c ∈ figL -> ∃ n : Nat, PySem.intText? t = some (n : Int) /\ n < 10 ^ 13 /\ t.length <= 13)
abbrev Pr (α : Type) := List Str -> Except Str (α × List Str)
def qal {α β : Type} (f : Pr α) (h : α -> Pr β) : Pr β := λ r => match f r with
 | .error e => .error e
 | .ok (x, r1) => h x r1
def retP {α : Type} (x : α) : Pr α := λ r => .ok (x, r)
def badP {α : Type} (e : Str) : Pr α := λ _ => .error e
def qaZ (r : List Str) : Str := match r with
 | [] => Str.ofString ""
 | t :: _ => t
def qbg : Pr Str
 | [] => .error "end"
 | t :: r => .ok (t, r)
def expP (tok : Str) : Pr Unit := qal qbg λ t => if t = tok then retP () else badP "word"
def endP : Pr Unit := λ r => match r with
 | [] => .ok ((), [])
 | _ :: _ => .error "word"
def qko (t : Str) : Bool := (match t.cps.toList.head? with
 | some c => decide (c ∈ letL)
 | none => false) && !(wordsL.any (· == t)) && decide (t.length <= 8)
def qie (t : Str) : Bool := match t.cps.toList.head? with
 | some c => decide (c ∈ figL)
 | none => false
def numV (t : Str) : Nat := ((PySem.intText? t).getD 0).toNat
def nmP : Pr Str := qal qbg λ t => if qko t = true then retP t else badP "word"
def qmv : Pr (List Str)
 | [] => .ok ([], [])
 | t :: r => if qko t = true then (match qmv r with
   | .error e => .error e
   | .ok (xs, r') => .ok (t :: xs, r')) else .error "word"
def qpu : Pr (List Str) := qal nmP λ t => qal qmv λ ts => retP (t :: ts)
def lstD (l : List Str) : D := .lst (l.map D.str)
def qcx : Pr Nat := qal qbg λ t => if qie t = true then retP (numV t) else badP "word"
def qdp : Pr Int := λ r => if qaZ r = Str.ofString "-" then (qal qbg λ _ => qal qcx λ n => retP (-(n : Int))) r else (qal qcx λ n => retP (n : Int)) r
mutual
inductive Tr where
 | nm (n : Str)
 | pl (n : Str) (x y t : Int) (m : Bool)
 | wd (w : Str)
 | tm (k : Int) (t : Tr)
 | fn (w : Str) (t : Tr)
 | ch (t : Tr) (ls : Ln)
inductive Ln where
 | nil
 | cons (s : Str) (t : Tr) (r : Ln)
end
mutual
def Tr.d : Tr -> D
 | .nm n => .tup [.str (Str.ofString "name"), .str n]
 | .pl n x y t m => .tup [.str (Str.ofString "placed"), .str n, .int x, .int y, .int t, .bl m]
 | .wd w => .tup [.str w]
 | .tm k t => .tup [.str (Str.ofString "times"), .int k, t.d]
 | .fn w t => .tup [.str w, t.d]
 | .ch t ls => .tup [.str (Str.ofString "chain"), t.d, .lst ls.d]
def Ln.d : Ln -> List D
 | .nil => []
 | .cons s t r => .tup [.str s, t.d] :: r.d
end
def quA (n : Str) : Pr Tr := λ r => if qaZ r = Str.ofString "[" then (qal qbg λ _ => qal qdp λ x => qal qdp λ y => qal qdp λ t => λ r2 => if qaZ r2 = Str.ofString "m" then (qal qbg λ _ => qal (expP (Str.ofString "]")) λ _ => retP (.pl n x y t true)) r2 else (qal (expP (Str.ofString "]")) λ _ => retP (.pl n x y t false)) r2) r else retP (.nm n) r
def isW3 (t : Str) : Bool := Str.ofString "solid" == t || (Str.ofString "odd" == t || Str.ofString "outline" == t)
def isW2 (t : Str) : Bool := Str.ofString "nothing" == t || Str.ofString "none" == t
def qgH (e0 : Pr Tr) : Pr Tr := λ r =>
 if qaZ r = Str.ofString "(" then qal qbg (λ _ => qal e0 λ t => qal (expP (Str.ofString ")")) λ _ => retP t) r
 else if isW3 (qaZ r) = true then qal qbg (λ w => qal (expP (Str.ofString "(")) λ _ => qal e0 λ t => qal (expP (Str.ofString ")")) λ _ => retP (.fn w t)) r
 else if isW2 (qaZ r) = true then qal qbg (λ w => retP (.wd w)) r
 else qal nmP quA r
def qiY : Nat -> Int -> Bool -> Pr (Int × Bool)
 | 0, k, h => retP (k, h)
 | n + 1, k, h => λ r => if qaZ r = Str.ofString "-" then qal qbg (λ _ => qiY n (-k) true) r
   else if qaZ r ≠ Str.ofString "" /\ qie (qaZ r) = true then qal qcx (λ v => qal (expP (Str.ofString "*")) λ _ => qiY n (k * (v : Int)) true) r
   else .ok ((k, h), r)
def qoI (th : Pr Tr) : Pr Tr := λ r => qal (qiY r.length 1 false) (λ p => qal th λ t => retP (if p.2 = true then .tm p.1 t else t)) r
def qkj (sg : Str) (sub : Pr Tr) : Nat -> Pr Ln
 | 0 => retP .nil
 | n + 1 => λ r => if qaZ r ≠ Str.ofString "" /\ subT (qaZ r) sg = true then qal qbg (λ s => qal sub λ t => qal (qkj sg sub n) λ ls => retP (.cons s t ls)) r else .ok (.nil, r)
def chT (t : Tr) : Ln -> Tr
 | .nil => t
 | .cons s u r => .ch t (.cons s u r)
def qsd (sg : Str) (sub : Pr Tr) : Pr Tr := qal sub λ t => λ r => qal (qkj sg sub r.length) (λ ls => retP (chT t ls)) r
def lvS : Nat -> Str
 | 0 => Str.ofString "|"
 | 1 => Str.ofString "^"
 | 2 => Str.ofString "&"
 | _ => Str.ofString "+-"
def lvlP (e0 : Pr Tr) : Nat -> Pr Tr
 | 0 => qoI (qgH e0)
 | j + 1 => qsd (lvS (3 - j)) (lvlP e0 j)
def exP : Nat -> Pr Tr
 | 0 => badP (Str.ofString "deep")
 | m + 1 => lvlP (exP m) 4
def Fwd {α : Type} (f : Pr α) : Prop := ∀ r x r', f r = .ok (x, r') -> r'.length <= r.length
def qqn : Nat -> Pr (List Tr)
 | 0 => retP []
 | n + 1 => λ r => if qaZ r = Str.ofString "," then qal qbg (λ _ => qal (exP 24) λ t => qal (qqn n) λ ts => retP (t :: ts)) r else .ok ([], r)
def qyn : Pr (List Tr) := λ r => if qaZ r = Str.ofString "" then .ok ([], r) else qal (exP 24) (λ t => λ r => qal (qqn r.length) (λ ts => retP (t :: ts)) r) r
def trsD (ts : List Tr) : D := .lst (ts.map Tr.d)
inductive St where
 | nms (w : Str) (ns : List Str)
 | df (n : Str) (ps : List Str)
 | cl (n : Str) (ts : List Tr)
 | lt (n : Str) (t : Tr)
 | wd (w : Str)
 | ex (w : Str) (t : Tr)
 | pt (c : Nat) (t : Tr)
 | sn (o n : Nat) (t : Tr)
 | mv (x y : Int)
 | tn (t : Int)
 | rp (n : Nat)
def St.d : St -> D
 | .nms w ns => .tup [.str w, lstD ns]
 | .df n ps => .tup [.str (Str.ofString "define"), .str n, lstD ps]
 | .cl n ts => .tup [.str (Str.ofString "call"), .str n, trsD ts]
 | .lt n t => .tup [.str (Str.ofString "let"), .str n, t.d]
 | .wd w => .tup [.str w]
 | .ex w t => .tup [.str w, t.d]
 | .pt c t => .tup [.str (Str.ofString "paint"), .int c, t.d]
 | .sn o n t => .tup [.str (Str.ofString "stain"), .int o, .int n, t.d]
 | .mv x y => .tup [.str (Str.ofString "move"), .int x, .int y]
 | .tn t => .tup [.str (Str.ofString "turn"), .int t]
 | .rp n => .tup [.str (Str.ofString "repeat"), .int n]
def isCP (w : Str) : Bool := Str.ofString "curve" == w || Str.ofString "plain" == w
def qzD (w : Str) : Bool := Str.ofString "keep" == w || (Str.ofString "mirror" == w || Str.ofString "end" == w)
def qwH (w : Str) : Bool := Str.ofString "never" == w || (Str.ofString "wipe" == w || Str.ofString "cut" == w)
def qBZ (w : Str) : Pr (Option St) := λ r =>
 if isCP w = true then qal qpu (λ ns => retP (some (.nms w ns))) r
 else if w = Str.ofString "define" then qal nmP (λ n => λ r => if qaZ r = Str.ofString "" then .ok (some (.df n []), r) else qal qpu (λ ps => retP (some (.df n ps))) r) r
 else if w = Str.ofString "call" then qal nmP (λ n => qal qyn λ ts => retP (some (.cl n ts))) r
 else if w = Str.ofString "let" then qal nmP (λ n => qal (expP (Str.ofString "=")) λ _ => qal (exP 24) λ t => retP (some (.lt n t))) r
 else .ok (none, r)
def stP : Pr St := qal qbg λ w => λ r =>
 if qzD w = true then .ok (.wd w, r)
 else if qwH w = true then qal (exP 24) (λ t => retP (.ex w t)) r
 else if w = Str.ofString "paint" then qal qcx (λ c => qal (exP 24) λ t => retP (.pt c t)) r
 else if w = Str.ofString "stain" then qal qcx (λ o => qal qcx λ n => qal (exP 24) λ t => retP (.sn o n t)) r
 else if w = Str.ofString "move" then qal qdp (λ x => qal qdp λ y => retP (.mv x y)) r
 else if w = Str.ofString "turn" then qal qdp (λ x => retP (.tn x)) r
 else if w = Str.ofString "repeat" then qal qcx (λ n => retP (.rp n)) r
 else qal (qBZ w) (λ o => match o with
   | none => badP (Str.ofString "word")
   | some s => retP s) r
inductive Rows where
 | nil
 | cons (ln : Nat) (s : St) (b : Rows) (r : Rows)
def Rows.d : Rows -> List D
 | .nil => []
 | .cons ln s b r => .tup [.int ln, s.d, .lst b.d] :: r.d
def Rows.snoc : Rows -> Nat -> St -> Rows -> Rows
 | .nil, ln, s, b => .cons ln s b .nil
 | .cons l2 s2 b2 r, ln, s, b => .cons l2 s2 b2 (r.snoc ln s b)
def St.word : St -> Str
 | .nms w _ => w
 | .df _ _ => Str.ofString "define"
 | .cl _ _ => Str.ofString "call"
 | .lt _ _ => Str.ofString "let"
 | .wd w => w
 | .ex w _ => w
 | .pt _ _ => Str.ofString "paint"
 | .sn _ _ _ => Str.ofString "stain"
 | .mv _ _ => Str.ofString "move"
 | .tn _ => Str.ofString "turn"
 | .rp _ => Str.ofString "repeat"
def qx3 (w : Str) : Bool := Str.ofString "curve" == w || (Str.ofString "plain" == w || (Str.ofString "never" == w || Str.ofString "define" == w))
def isOpen (w : Str) : Bool := Str.ofString "keep" == w || (Str.ofString "repeat" == w || Str.ofString "define" == w)
def quE (l : Sto) : List Addr -> List Rows -> Prop
 | [], [] => True
 | p :: ps, b :: bs => l p = some (.lst b.d) /\ quE l ps bs
 | _, _ => False
def PgAt (CP CM CR : Addr) (l : Sto) (g q : Addr) (m : Mv) (c : Option Nd) (rows : List D) : Prop := l g = some (.ins CP (qxh CM CR q m c)) /\ l q = some (.lst rows)
def tG {α : Type} (l : List (Str × α)) (n : Str) : Option α := (l.find? λ p => decide (p.1 = n)).map (·.2)
def tP {α : Type} (l : List (Str × α)) (n : Str) (v : α) : List (Str × α) := if (tG l n).isSome then l.map λ p => if p.1 = n then (p.1, v) else p else l ++ [(n, v)]
def tD {α : Type} (g : α -> D) (l : List (Str × α)) : List (Key × D) := l.map λ p => (.inr p.1, g p.2)
structure Prc where
 many : Nat
 ps : List Str
 body : Rows
def Prc.d (c : Prc) : D := .tup [.int (c.many : Nat), lstD c.ps, .lst c.body.d]
structure PS where
 loose : List Str
 plain : List Str
 facts : List Nd
 rows : List Rw
 now : Mv
 cut : Option Nd
 procs : List (Str × Prc)
 steps : Nat
structure PPl where
 a : Addr
 lo : Addr
 pl : Addr
 fa : Addr
 g : Addr
 q : Addr
 pr : Addr
def PPl.all (p : PPl) : List Addr := [p.a, p.lo, p.pl, p.fa, p.g, p.q, p.pr]
def pgmF (p : PPl) (st : Int) : List (Str × D) := [("loose", .cls p.lo), ("plain", .cls p.pl), ("facts", .cls p.fa), ("page", .cls p.g), ("procedures", .cls p.pr), ("steps", .int st)]
structure PrAt (CN CP CM CR : Addr) (l : Sto) (p : PPl) (s : PS) : Prop where
 a : l p.a = some (.ins CN (pgmF p s.steps))
 lo : l p.lo = some (.lst (s.loose.map D.str))
 pl : l p.pl = some (.lst (s.plain.map D.str))
 fa : l p.fa = some (.lst (s.facts.map (rD CR)))
 pg : PgAt CP CM CR l p.g p.q s.now s.cut (s.rows.map Rw.d)
 pr : l p.pr = some (.dk (tD Prc.d s.procs))
 nd : p.all.Nodup
def PS.ini : PS := ⟨[], [], [], [], Mv.one, none, [], 0⟩
def FrP (l l' : Sto) (ps : List Addr) : Prop := ∀ x o, l x = some o -> x ∉ ps -> l' x = some o
def PS.has (s : PS) (n : Str) : Bool := decide (n ∈ s.loose) || decide (n ∈ s.plain)
end DL
namespace DL
variable [TbC]
open PySem PySem.Spec PyProof.Rows L2
def tmF (s : Str) (f : Mv) (k : Int) : Fm := ([(⟨s, f⟩, k)], [])
section
variable {s t : Str} {f g h : Mv} {C R P CT M : Addr} {Q : D -> Prop} {Ed : DX -> Prop}
def Bil (k : Int) : Prop := -1000000000000 <= k /\ k <= 1000000000000
end
end DL
namespace DL
open PySem PySem.Spec PyProof.Rows L2
variable [TbC]
inductive Er where
 | txt (ln : Nat) (r : Str)
 | big (w : Str) (v l : Int)
 | out
abbrev Res (α : Type) := Except Er α
def bndR {α β : Type} (r : Res α) (f : α -> Res β) : Res β := match r with
 | .ok a => f a
 | .error e => .error e
section
variable {α β : Type} {CI CT : Addr} {Ed : DX -> Prop}
end
inductive Vl where
 | p (x : Fm)
 | r (n : Nd)
def Vl.d (CP CR : Addr) : Vl -> D
 | .p x => pD CP x
 | .r n => rD CR n
def Vl.Go : Vl -> Prop
 | .p x => x.Can /\ PGo x
 | .r n => RGo n
def outZ {α : Type} (o : Option (Str × Int × Int)) (v : α) : Res α := match o with
 | some (w, k, l) => .error (.big w k l)
 | none => .ok v
def mkPV (x : Fm) : Res Vl := match badT x with
 | some k => .error (.big "times" (absI k) 1000000000000)
 | none => if nT x.1 + nO x.2 <= 1000000000000 /\ (fmU x.1 x.2).length <= 300 then outZ (badZ (x.1.length + qaz x.2 : Nat) (depL x.2 : Nat)) (.p x) else .error .out
def mkRV (n : Nd) : Res Vl := if n.unk.length <= 300 /\ n.size <= 600 then outZ (badZ (n.size : Nat) (n.dep : Nat)) (.r n) else .error .out
structure Wk (x : Fm) (S Dp : Nat) : Prop where
 u : ∀ p ∈ x.1, UB 1000000000000 p.1
 o : BdL 1000000000000 1000000000000 x.2
 s : x.1.length + qaz x.2 <= S
 d : depL x.2 <= Dp
section
variable {x y : Fm} {S S' Dp : Nat}
end
def addV (x y : Fm) : Res Vl := mkPV (addF x y)
def subV (x y : Fm) : Res Vl := mkPV (addF x (scl (-1) y))
def mulV (k : Int) (x : Fm) : Res Vl := if -18446744073709551616 < k /\ k < 18446744073709551616 then mkPV (scl k x) else .error .out
def outV (n : Nd) : Res Vl := mkPV (outF n)
def qd1 (s : Sg) (a b : Nd) : Res Vl := mkRV (qcS s a b)
def askV (o : Bool) (x : Fm) : Res Vl := mkRV (qcN o x.1 x.2)
abbrev Kn := List (Str × Vl)
def madR (h : Mv) : Res Mv := if 1000000000000 < absI h.x then .error (.big "shift" (absI h.x) 1000000000000) else if 1000000000000 < absI h.y then .error (.big "shift" (absI h.y) 1000000000000) else .ok h
def mkMv (x y t : Int) (m : Bool) : Res Mv := madR ⟨x, y, t % 4, bI m⟩
def qmP (f g : Mv) : Res Mv := madR (f.mul g)
def Mv.Go (f : Mv) : Prop := f.Ok /\ f.In 1000000000000
mutual
def Tr.ht : Tr -> Nat
 | .nm _ => 0
 | .pl _ _ _ _ _ => 0
 | .wd _ => 0
 | .tm _ t => t.ht + 1
 | .fn _ t => t.ht + 1
 | .ch t ls => max t.ht ls.ht + 1
def Ln.ht : Ln -> Nat
 | .nil => 0
 | .cons _ t r => max t.ht r.ht
end
def qeF {α : Type} (ln : Nat) : Res α := .error (.txt ln "kind")
def curR (n : Str) (f : Mv) : Res Vl := .ok (.p (tmF n f f.sg))
def nmR (s : PS) (kn : Kn) (ln : Nat) (now : Mv) (n : Str) : Res Vl := match tG kn n with
 | some v => .ok v
 | none => if s.has n = true then curR n now else .error (.txt ln "name")
def plR (s : PS) (ln : Nat) (now : Mv) (n : Str) (x y t : Int) (m : Bool) : Res Vl :=
 if s.has n = true then bndR (mkMv x y t m) λ g => bndR (qmP now g) λ h => curR n h else .error (.txt ln "name")
def qu8 (ln : Nat) (sg : Str) : Vl -> Vl -> Res Vl
 | .p x, .p y => if sg = Str.ofString "-" then subV x y else if sg = Str.ofString "+" then addV x y else qeF ln
 | .r a, .r b => if sg = Str.ofString "-" then qd1 .sub a b else if sg = Str.ofString "&" then qd1 .and a b else if sg = Str.ofString "|" then qd1 .or a b else if sg = Str.ofString "^" then qd1 .xor a b else qeF ln
 | _, _ => qeF ln
def asP (ln : Nat) : Vl -> Res Fm
 | .p x => .ok x
 | .r _ => qeF ln
def asR (ln : Nat) : Vl -> Res Nd
 | .r n => .ok n
 | .p _ => qeF ln
mutual
def shV (s : PS) (kn : Kn) (ln : Nat) (now : Mv) : Tr -> Res Vl
 | .nm n => nmR s kn ln now n
 | .pl n x y t m => plR s ln now n x y t m
 | .wd w => if w = Str.ofString "none" then .ok (.r .non) else if w = Str.ofString "nothing" then .ok (.p ([], [])) else .error .out
 | .tm k t => bndR (shV s kn ln now t) λ v => bndR (asP ln v) λ x => mulV k x
 | .fn w t => if w = Str.ofString "outline" then bndR (shV s kn ln now t) λ v => bndR (asR ln v) λ n => outV n
   else if w = Str.ofString "solid" then bndR (shV s kn ln now t) λ v => bndR (asP ln v) λ x => askV false x
   else if w = Str.ofString "odd" then bndR (shV s kn ln now t) λ v => bndR (asP ln v) λ x => askV true x
   else .error .out
 | .ch t ls => bndR (shV s kn ln now t) λ v => lnV s kn ln now ls v
def lnV (s : PS) (kn : Kn) (ln : Nat) (now : Mv) : Ln -> Vl -> Res Vl
 | .nil, v => .ok v
 | .cons sg t r, v => bndR (shV s kn ln now t) λ u => bndR (qu8 ln sg v u) λ w => lnV s kn ln now r w
end
def Kn.Go (kn : Kn) : Prop := ∀ p ∈ kn, p.2.Go
def PS.Nms (s : PS) : Prop := ∀ n, s.has n = true -> NmOk n
def regR (s : PS) (kn : Kn) (ln : Nat) (now : Mv) (t : Tr) : Res Nd := if 28 < t.ht then .error .out else bndR (shV s kn ln now t) (asR ln)
def cutR (c : Option Nd) (n : Nd) : Res Nd := match c with
 | none => .ok n
 | some k => bndR (qd1 .and k n) λ v => asR 0 v
def qB8 (s : PS) (old : Option Int) (new : Int) (n : Nd) : Res PS := if 40 <= s.rows.length then .error (.big "rows" (s.rows.length + 1 : Nat) 40) else .ok { s with rows := s.rows ++ [(old, new, n)] }
def layR (s : PS) (old : Option Int) (new : Int) (n : Nd) : Res PS := bndR (cutR s.cut n) (qB8 s old new)
def setC (s : PS) (n : Nd) : Res PS := .ok { s with cut := some n }
def qCx (s : PS) (n : Nd) : Res PS := bndR (cutR s.cut n) (setC s)
def qi4 (s : PS) (x y t : Int) (m : Bool) : Res PS := bndR (mkMv x y t m) λ g => bndR (qmP s.now g) λ h => .ok { s with now := h }
def qir (c : Int) : Bool := decide (0 <= c /\ c < 10)
def numR {α : Type} (ln : Nat) : Res α := .error (.txt ln "number")
def pntR (s : PS) (kn : Kn) (ln : Nat) : St -> Res PS
 | .mv x y => qi4 s x y 0 false
 | .tn t => qi4 s 0 0 t false
 | .wd w => if w = Str.ofString "mirror" then qi4 s 0 0 0 true else .error .out
 | .ex w t => if w = Str.ofString "wipe" then bndR (regR s kn ln s.now t) λ n => layR s none 0 n
   else if w = Str.ofString "cut" then bndR (regR s kn ln s.now t) λ n => qCx s n
   else .error .out
 | .pt c t => bndR (regR s kn ln s.now t) λ n => if qir (c : Int) = true then layR s none (c : Int) n else numR ln
 | .sn o c t => bndR (regR s kn ln s.now t) λ n => if qir (o : Int) = true then (if qir (c : Int) = true then layR s (some (o : Int)) (c : Int) n else numR ln) else numR ln
 | _ => .error .out
def nameB (n : Str) : Bool := decide (1 <= n.cps.toList.length) && decide (n.cps.toList.length <= 8) && n.cps.toList.all (λ c => decide (97 <= c /\ c <= 122)) && !decide (n ∈ wordsL)
def qdG {α : Type} (ln : Nat) : Res α := .error (.txt ln "taken")
def addN (s : PS) (pl : Bool) (n : Str) : PS := if pl = true then { s with plain := s.plain ++ [n] } else { s with loose := s.loose ++ [n] }
def dclR (kn : Kn) (ln : Nat) (pl : Bool) : List Str -> PS -> Res PS
 | [], s => .ok s
 | n :: r, s => if s.has n = true ∨ (tG kn n).isSome = true then qdG ln
   else if 6 <= s.loose.length + s.plain.length then .error (.big "names" (s.loose.length + s.plain.length + 1 : Nat) 6)
   else if nameB n = true then dclR kn ln pl r (addN s pl n) else .error .out
def oddU (ls : List Str) (u : U) : Bool := !decide (u.f = Mv.one /\ u.n ∈ ls)
def qyj (s : PS) (kn : Kn) (ln : Nat) (t : Tr) : Res PS := bndR (regR s kn ln Mv.one t) λ n =>
 if n.unk.any (oddU s.loose) = true then .error (.txt ln "fact")
 else if 4 <= s.facts.length then .error (.big "facts" (s.facts.length + 1 : Nat) 4) else .ok { s with facts := s.facts ++ [n] }
def nevR (s : PS) (kn : Kn) (ln : Nat) (t : Tr) : Res PS := qyj s kn ln t
def qqg (s : PS) (kn : Kn) (ln : Nat) : St -> Res PS
 | .nms w ns => if w = Str.ofString "curve" then dclR kn ln false ns s else if w = Str.ofString "plain" then dclR kn ln true ns s else .error .out
 | .ex w t => if w = Str.ofString "never" then nevR s kn ln t else .error .out
 | _ => .error .out
def parB (s : PS) : List Str -> List Str -> Bool
 | _, [] => false
 | seen, p :: r => s.has p || decide (p ∈ seen) || parB s (seen ++ [p]) r
def defR (s : PS) (ln : Nat) (n : Str) (ps : List Str) (b : Rows) : Res PS :=
 if (tG s.procs n).isSome = true then qdG ln else if parB s [] ps = true then qdG ln
 else if 10 <= s.procs.length then .error (.big "procedures" (s.procs.length + 1 : Nat) 10) else .ok { s with procs := tP s.procs n ⟨s.procs.length, ps, b⟩ }
def letR (s : PS) (kn : Kn) (ln : Nat) (t : Tr) : Res Vl := if 28 < t.ht then .error .out else shV s kn ln s.now t
def argR (s : PS) (kn : Kn) (ln : Nat) : List Str -> List Tr -> Kn -> Res Kn
 | p :: ps, t :: ts, k => if s.has p = true then qdG ln else if 1000 < k.length then .error .out else bndR (letR s kn ln t) λ v => argR s kn ln ps ts (tP k p v)
 | _, _, k => .ok k
def qjb (s : PS) : Res PS := if 2000 < s.steps + 1 then .error (.big "steps" (s.steps + 1 : Nat) 2000) else .ok { s with steps := s.steps + 1 }
abbrev RecR := PS -> Kn -> Nat -> Rows -> Res (PS × Kn)
def repR (rec : PS -> Kn -> Res (PS × Kn)) : Nat -> PS -> Kn -> Res (PS × Kn)
 | 0, s, kn => .ok (s, kn)
 | n + 1, s, kn => bndR (qjb s) λ s1 => bndR (rec s1 kn) λ p => repR rec n p.1 p.2
def qy5 (rec : RecR) (many ln : Nat) (n : Str) (ts : List Tr) (s : PS) (kn : Kn) : Res (PS × Kn) := match tG s.procs n with
 | none => .error (.txt ln "name")
 | some c => if many <= c.many then .error (.txt ln "name") else if ts.length ≠ c.ps.length then .error (.txt ln "count")
   else bndR (argR s kn ln c.ps ts []) λ k => bndR (rec s k c.many c.body) λ p => .ok (p.1, kn)
def qyr (s : PS) (r : Res (PS × Kn)) : Res (PS × Kn) := match r with
 | .ok p => .ok ({ p.1 with now := s.now, cut := s.cut }, p.2)
 | .error e => .error e
def qds (kn : Kn) (r : Res PS) : Res (PS × Kn) := bndR r λ s => .ok (s, kn)
def stR (rec : RecR) (many ln : Nat) (b : Rows) (s : PS) (kn : Kn) : St -> Res (PS × Kn)
 | .nms w ns => qds kn (qqg s kn ln (.nms w ns))
 | .ex w t => if w = Str.ofString "never" then qds kn (qqg s kn ln (.ex w t)) else qds kn (pntR s kn ln (.ex w t))
 | .df n ps => qds kn (defR s ln n ps b)
 | .cl n ts => qy5 rec many ln n ts s kn
 | .lt n t => if s.has n = true then qdG ln else bndR (letR s kn ln t) λ v => .ok (s, tP kn n v)
 | .rp n => if 10000000000000 < n then .error .out else repR (λ s kn => rec s kn many b) n s kn
 | .wd w => if w = Str.ofString "keep" then qyr s (rec s kn many b) else qds kn (pntR s kn ln (.wd w))
 | st => qds kn (pntR s kn ln st)
def qmV (rec : RecR) (many : Nat) : Rows -> PS -> Kn -> Res (PS × Kn)
 | .nil, s, kn => .ok (s, kn)
 | .cons ln st b r, s, kn => if 1000 < kn.length ∨ 201 < ln then .error .out else bndR (qjb s) λ s1 => bndR (stR rec many ln b s1 kn st) λ p => qmV rec many r p.1 p.2
def runR : Nat -> RecR
 | 0, _, _, _, _ => .error .out
 | f + 1, s, kn, many, rows => qmV (runR f) many rows s kn
structure PS.Go (s : PS) : Prop where
 nms : s.Nms
 len : s.loose.length + s.plain.length <= 6
 facts : ∀ n ∈ s.facts, RGo n
 flen : s.facts.length <= 4
 rows : ∀ r ∈ s.rows, r.Ok
 rlen : s.rows.length <= 40
 now : s.now.Go
 cut : ∀ n, s.cut = some n -> RGo n
 plen : s.procs.length <= 10
 steps : s.steps <= 2000
def pR {α : Type} (ln : Nat) (r : Except Str (α × List Str)) : Res (α × List Str) := match r with
 | .ok a => .ok a
 | .error e => .error (.txt ln e)
def stmR : Nat -> List (List Str × Option Str) -> Res (List (Nat × St))
 | _, [] => .ok []
 | k, (ts, e) :: r => match e with
   | some m => .error (.txt (k + 1) m)
   | none => if 4000 < ts.length then .error (.txt (k + 1) "long") else if ts.isEmpty = true then stmR (k + 1) r else
     bndR (pR (k + 1) (stP ts)) λ a => bndR (pR (k + 1) (endP a.2)) λ _ => bndR (stmR (k + 1) r) λ xs => .ok ((k + 1, a.1) :: xs)
def qcL : List (Nat × St) -> List Rows -> List (Nat × St) -> Res Rows
 | [], bs, bg => match bg, bs with
   | p :: _, _ => .error (.txt p.1 "block")
   | [], b :: _ => .ok b
   | [], [] => .error .out
 | (ln, s) :: r, bs, bg =>
   if (!bg.isEmpty && qx3 s.word) = true then .error (.txt ln "place")
   else if s.word = Str.ofString "end" then (match bg, bs with
     | p :: bg', b :: b2 :: bs' => qcL r (b2.snoc p.1 p.2 b :: bs') bg'
     | [], _ => .error (.txt ln "block")
     | _, _ => .error .out)
   else if isOpen s.word = true then (if 5 <= bg.length then .error (.txt ln "deep") else qcL r (.nil :: bs) ((ln, s) :: bg))
   else match bs with
     | b :: bs' => qcL r (b.snoc ln s .nil :: bs') bg
     | [] => .error .out
def qmh (tk : List (List Str × Option Str)) : Res PS := if 200 < tk.length then .error (.big "lines" (tk.length : Nat) 200) else
 bndR (stmR 0 tk) λ xs => bndR (qcL xs [.nil] []) λ b => bndR (runR 14 PS.ini [] 10 b) λ q => .ok q.1
end DL
namespace DL
open PySem PySem.Spec PyProof.Rows L2
def scpF (p : PPl) (kp : Addr) (many : Nat) : List (Str × D) := [("program", .cls p.a), ("known", .cls kp), ("many", .int (many : Nat))]
structure ScAt (CS CQ CR : Addr) (l : Sto) (sc kp : Addr) (p : PPl) (kn : Kn) (many : Nat) : Prop where
 s : l sc = some (.ins CS (scpF p kp many))
 k : l kp = some (.dk (tD (Vl.d CQ CR) kn))
 n1 : sc ∉ p.all
 n2 : kp ∉ p.all
section
variable {CN CP CM CR CS CQ CT CI : Addr} {l l' : Sto} {p : PPl} {s : PS} {sc kp : Addr} {kn : Kn} {many : Nat}
end
structure TkOf (t : Str) (ls : List Str) (tk : List (List Str × Option Str)) : Prop where
 len : t.length + 2 <= sizeLine
 sp : Txt.split t (Str.ofString "\n") = ls
 few : ls.length <= 1000
 row : ∀ r ∈ ls, r.length <= 99999
 eq : tk.length = ls.length
 tk : ∀ p ∈ ls.zip tk, TkR p.1.cps.toList p.2.1 p.2.2
def St.smp : St -> Prop
 | .df _ _ => False
 | .cl _ _ => False
 | .rp _ => False
 | .wd w => w ≠ Str.ofString "keep"
 | _ => True
def Rows.Smp : Rows -> Prop
 | .nil => True
 | .cons _ s _ r => s.smp /\ r.Smp
def tokF : Nat -> List Nat -> List Str × Option Str
 | 0, _ => ([], none)
 | n + 1, t => match t with
   | [] => ([], none)
   | c :: r =>
     if c ∈ letL then (mkS ((c :: r).takeWhile λ c => decide (c ∈ letL)) :: (tokF n ((c :: r).dropWhile λ c => decide (c ∈ letL))).1, (tokF n ((c :: r).dropWhile λ c => decide (c ∈ letL))).2)
     else if c ∈ figL then (if 13 < ((c :: r).takeWhile λ c => decide (c ∈ figL)).length then ([], some "number") else (mkS ((c :: r).takeWhile λ c => decide (c ∈ figL)) :: (tokF n ((c :: r).dropWhile λ c => decide (c ∈ figL))).1, (tokF n ((c :: r).dropWhile λ c => decide (c ∈ figL))).2))
     else if c = 32 then tokF n r
     else if c ∈ qiO ∨ c = 61 then (mkS [c] :: (tokF n r).1, (tokF n r).2)
     else ([], some "sign")
def tokL (s : Str) : List Str × Option Str := tokF s.cps.toList.length s.cps.toList
structure qxU (ls : List Str) : Prop where
 ne : ls ≠ []
 few : ls.length <= 1000
 free : ∀ s ∈ ls, 10 ∉ s.cps.toList /\ s.length <= 99999
 sum : (ls.map (·.length)).sum + ls.length <= 16000000
def lnsB (ls : List Str) : Bool := !ls.isEmpty && decide (ls.length <= 1000) && ls.all (λ s => !decide (10 ∈ s.cps.toList) && decide (s.length <= 99999)) && decide ((ls.map (·.length)).sum + ls.length <= 16000000)
abbrev S (s : String) : Str := Str.ofString s
def Clo (r : List Str) : Prop := r = [] ∨ ∃ s, r = S ")" :: s ∨ r = S "," :: s
def negN : Nat -> Int -> Int
 | 0, k => k
 | n + 1, k => negN n (-k)
def nw (l : List Nat) : Str := ⟨(107 :: (l.take 5 ++ [119])).toArray⟩
def preB (p : List Nat) (T : List Str) : Bool := decide (tokF p.length p = (T, none)) && (match p.getLast? with
 | some c => !decide (c ∈ letL) && !decide (c ∈ figL)
 | none => true)
structure LK (t : Str) (r : Res PS) : Prop where
 ex : ∃ ls : List Str, t = Txt.join (Str.ofString "\n") ls /\ lnsB ls = true /\ qmh (ls.map tokL) = r
abbrev Due := Nat ⊕ (Str × Int × Int)
def stp (b : Nat) : Due := if b = 2 then .inr (S "steps", 2001, 2000) else .inl 0
structure Ln1 (s : Str) (st : St) : Prop where
 tk : (tokL s).2 = none
 few : ¬ 4000 < (tokL s).1.length
 ne : (tokL s).1.isEmpty = false
 p : stP (tokL s).1 = .ok (st, [])
 fr : 10 ∉ s.cps.toList
 sz : s.length <= 5000
def lnB (s : Str) (ts : List Str) : Bool := decide (tokL s = (ts, none)) && (decide (¬ 4000 < ts.length) && (!ts.isEmpty && (decide (10 ∉ s.cps.toList) && decide (s.length <= 100))))
def okLs (ls : List (Str × St)) : Prop := ∀ p ∈ ls, Ln1 p.1 p.2
theorem sum_le {α : Type} {f : α -> Nat} {b : Nat} : ∀ {l : List α}, (∀ x ∈ l, f x <= b) -> (l.map f).sum <= b * l.length
 | [], _ => Nat.le_refl _
 | x :: r, h => by
   have := sum_le (f := f) (l := r) λ y hy => h y (List.mem_cons_of_mem _ hy)
   have := h x List.mem_cons_self
   rw [List.map_cons, List.sum_cons, List.length_cons, Nat.mul_add]
   omega
abbrev LS := Str × St
def eN : LS := (S "end", .wd (S "end"))
mutual
def Rp.sp (now F : Mv) : Rp -> Rp
 | .cur n => .mvd (now.mul F) (.cur n)
 | .nul => .nul
 | .sum a b => .sum (Rp.sp now F a) (Rp.sp now F b)
 | .less a b => .less (Rp.sp now F a) (Rp.sp now F b)
 | .many k a => .many k (Rp.sp now F a)
 | .mvd f a => Rp.sp now (F.mul f) a
 | .outl r => if F.m = 1 then .back (.outl (Rr.sp now F r)) else .outl (Rr.sp now F r)
 | .back a => .back (Rp.sp now F a)
def Rr.sp (now F : Mv) : Rr -> Rr
 | .non => .non
 | .ask o p => .ask o (Rp.sp now F p)
 | .mvd f r => Rr.sp now (F.mul f) r
 | .jn s a b => .jn s (Rr.sp now F a) (Rr.sp now F b)
end
def qlu (n : Str) (F : Mv) : Tr := if F = Mv.one then .nm n else .pl n F.x F.y F.t (F.m == 1)
mutual
def Rp.tr (F : Mv) : Rp -> Tr
 | .cur n => qlu n F
 | .nul => .wd (S "nothing")
 | .sum a b => .ch (Rp.tr F a) (.cons (S "+") (Rp.tr F b) .nil)
 | .less a b => .ch (Rp.tr F a) (.cons (S "-") (Rp.tr F b) .nil)
 | .many k a => .tm k (Rp.tr F a)
 | .mvd f a => Rp.tr (F.mul f) a
 | .outl r => if F.m = 1 then .tm (-1) (.fn (S "outline") (Rr.tr F r)) else .fn (S "outline") (Rr.tr F r)
 | .back a => .tm (-1) (Rp.tr F a)
def Rr.tr (F : Mv) : Rr -> Tr
 | .non => .wd (S "none")
 | .ask o p => .fn (kindS o) (Rp.tr F p)
 | .mvd f r => Rr.tr (F.mul f) r
 | .jn s a b => .ch (Rr.tr F a) (.cons s.s (Rr.tr F b) .nil)
end
mutual
def Rp.In (s : PS) (kn : Kn) : Rp -> Prop
 | .cur n => s.has n = true /\ tG kn n = none
 | .nul => True
 | .sum a b => Rp.In s kn a /\ Rp.In s kn b
 | .less a b => Rp.In s kn a /\ Rp.In s kn b
 | .many k a => Rp.In s kn a
 | .mvd f a => Rp.In s kn a
 | .outl r => Rr.In s kn r
 | .back a => Rp.In s kn a
def Rr.In (s : PS) (kn : Kn) : Rr -> Prop
 | .non => True
 | .ask o p => Rp.In s kn p
 | .mvd f r => Rr.In s kn r
 | .jn _ a b => Rr.In s kn a /\ Rr.In s kn b
end
def numT (n : Nat) : Str := Str.ofString (toString ((n : Nat) : Int))
def sgTk (x : Int) : List Str := if x < 0 then [S "-", numT x.natAbs] else [numT x.natAbs]
def qpr (n : Str) (F : Mv) : List Str := if F = Mv.one then [n] else n :: S "[" :: (sgTk F.x ++ (sgTk F.y ++ (sgTk F.t ++ ((if F.m = 1 then [S "m"] else []) ++ [S "]"]))))
def qmy (k : Int) : List Str := sgTk k ++ [S "*"]
mutual
def Rp.tk (F : Mv) : Rp -> List Str
 | .cur n => qpr n F
 | .nul => [S "nothing"]
 | .sum a b => S "(" :: (Rp.tk F a ++ S "+" :: (Rp.tk F b ++ [S ")"]))
 | .less a b => S "(" :: (Rp.tk F a ++ S "-" :: (Rp.tk F b ++ [S ")"]))
 | .many k a => S "(" :: (qmy k ++ (Rp.tk F a ++ [S ")"]))
 | .mvd f a => Rp.tk (F.mul f) a
 | .outl r => if F.m = 1 then S "(" :: S "-" :: S "outline" :: S "(" :: (Rr.tk F r ++ [S ")", S ")"]) else S "outline" :: S "(" :: (Rr.tk F r ++ [S ")"])
 | .back a => S "(" :: S "-" :: (Rp.tk F a ++ [S ")"])
def Rr.tk (F : Mv) : Rr -> List Str
 | .non => [S "none"]
 | .ask o p => kindS o :: S "(" :: (Rp.tk F p ++ [S ")"])
 | .mvd f r => Rr.tk (F.mul f) r
 | .jn s a b => S "(" :: (Rr.tk F a ++ s.s :: (Rr.tk F b ++ [S ")"]))
end
mutual
def Rp.dp : Rp -> Nat
 | .cur _ => 0
 | .nul => 0
 | .sum a b => max a.dp b.dp + 1
 | .less a b => max a.dp b.dp + 1
 | .many _ a => a.dp + 1
 | .mvd _ a => a.dp
 | .outl r => r.dp + 2
 | .back a => a.dp + 1
def Rr.dp : Rr -> Nat
 | .non => 0
 | .ask _ p => p.dp + 1
 | .mvd _ r => r.dp
 | .jn _ a b => max a.dp b.dp + 1
end
def HdT (T : List Str) : Prop := ∃ t r, T = t :: r /\ t ≠ S "-" /\ qie t = false
def Stp (r : List Nat) : Prop := ∀ c, r.head? = some c -> c ∉ letL /\ c ∉ figL
structure Said (T : Str) (tk : List Str) : Prop where
 tk : TkR T.cps.toList tk none
 fr : 10 ∉ T.cps.toList
def litB (T : Str) (tk : List Str) : Bool := preB T.cps.toList tk && !decide (10 ∈ T.cps.toList)
def litS (T : Str) (tk : List Str) : Bool := decide (tokL T = (tk, none)) && !decide (10 ∈ T.cps.toList)
mutual
def Rp.ln : Rp -> Nat
 | .cur _ => 60
 | .nul => 10
 | .sum a b => a.ln + b.ln + 10
 | .less a b => a.ln + b.ln + 10
 | .many _ a => a.ln + 30
 | .mvd _ a => a.ln
 | .outl r => r.ln + 15
 | .back a => a.ln + 5
def Rr.ln : Rr -> Nat
 | .non => 10
 | .ask _ p => p.ln + 10
 | .mvd _ r => r.ln
 | .jn _ a b => a.ln + b.ln + 10
end
mutual
def Rp.Wn (ns : List Str) (d : Nat) : Rp -> Prop
 | .cur n => NmOk n /\ n ∈ ns
 | .nul => True
 | .sum a b => 1 <= d /\ Rp.Wn ns (d - 1) a /\ Rp.Wn ns (d - 1) b
 | .less a b => 1 <= d /\ Rp.Wn ns (d - 1) a /\ Rp.Wn ns (d - 1) b
 | .many k a => 1 <= d /\ (-4 <= k /\ k <= 4) /\ Rp.Wn ns (d - 1) a
 | .mvd f a => 1 <= d /\ (f.Ok /\ f.In (10000000000 : Int)) /\ Rp.Wn ns (d - 1) a
 | .outl r => 1 <= d /\ Rr.Wn ns (d - 1) r
 | .back a => 1 <= d /\ Rp.Wn ns (d - 1) a
def Rr.Wn (ns : List Str) (d : Nat) : Rr -> Prop
 | .non => True
 | .ask o p => Rp.Wn ns (d - 1) p
 | .mvd f r => 1 <= d /\ (f.Ok /\ f.In (10000000000 : Int)) /\ Rr.Wn ns (d - 1) r
 | .jn s a b => 1 <= d /\ Rr.Wn ns (d - 1) a /\ Rr.Wn ns (d - 1) b
end
structure Ln0 (s : Str) : Prop where
 tk : tokL s = ([], none)
 fr : 10 ∉ s.cps.toList
 sz : s.length <= 5000
def LnO (s : Str) : Option St -> Prop
 | some st => Ln1 s st
 | none => Ln0 s
def okLo (ls : List (Str × Option St)) : Prop := ∀ p ∈ ls, LnO p.1 p.2
def numO : Nat -> List (Option St) -> List (Nat × St)
 | _, [] => []
 | k, none :: r => numO (k + 1) r
 | k, some s :: r => (k + 1, s) :: numO (k + 1) r
def runO (sts : List (Option St)) : Res PS := bndR (qcL (numO 0 sts) [.nil] []) λ b => bndR (runR 14 PS.ini [] 10 b) λ q => .ok q.1
def St.flat (s : St) : Prop := s.word ≠ S "end" /\ isOpen s.word = false /\ s.word ≠ S "call"
def qmT : List (Nat × St) -> Rows
 | [] => .nil
 | (ln, s) :: r => .cons ln s .nil (qmT r)
def Rows.app : Rows -> Rows -> Rows
 | .nil, x => x
 | .cons ln s b r, x => .cons ln s b (r.app x)
def flR : List (Nat × St) -> PS -> Kn -> Res (PS × Kn)
 | [], s, kn => .ok (s, kn)
 | (ln, st) :: r, s, kn => bndR (qjb s) λ s1 => bndR (stR (runR 13) 10 ln .nil s1 kn st) λ p => flR r p.1 p.2
structure LKF (t : Str) (r : Res PS) : Prop where
 ex : ∃ ls : List Str, t = Txt.join (Str.ofString "\n") ls /\ qxU ls /\ qmh (ls.map tokL) = r /\ ∀ xs b, stmR 0 (ls.map tokL) = .ok xs -> qcL xs [.nil] [] = .ok b -> b.Smp
def qCR (s : PS) (pl : Bool) (ns : List Str) : PS := if pl = true then { s with plain := s.plain ++ ns } else { s with loose := s.loose ++ ns }
def hd33 (ls ps : List Str) : List (Str × Option St) := (if ls = [] then [] else [((S "curve " ++ Txt.join (S " ") ls), some (St.nms (S "curve") ls))]) ++ (if ps = [] then [] else [((S "plain " ++ Txt.join (S " ") ps), some (.nms (S "plain") ps))])
structure Dcl (ls ps : List Str) (s : PS) : Prop where
 l : s.loose = ls
 p : s.plain = ps
 f : s.facts = []
 r : s.rows = []
 n : s.now = Mv.one
 c : s.cut = none
 pr : s.procs = []
 st : s.steps <= 2
structure Bq (k : Nat) (q : Rr) : Prop where
 lf : q.Lf Mv.one
 bs : (q.nd Mv.one).BS 30000000000 12 (6 * k + 5) (k + 3)
 ht : q.ht <= k + 7
def whole (W : Option Rr) (q : Rr) : Rr := match W with
 | none => q
 | some w => .jn .and w q
structure Jn (ns : List Str) (k : Nat) (M : Mv) (W : Option Rr) (R : List LRw) (s : PS) : Prop where
 l : s.loose = ns
 p : s.plain = []
 now : s.now = M
 cut : s.cut = W.map λ w => w.nd Mv.one
 rows : s.rows = R.map LRw.rw
 st : s.steps <= k + 2
 mo : M.Ok
 mi : M.In (2000000 * k)
 w : ∀ w, W = some w -> Bq k w
 r : ∀ r ∈ R, ((∀ i, r.1 = some i -> 0 <= i /\ i < 10) /\ (0 <= r.2.1 /\ r.2.1 < 10)) /\ Bq k r.2.2
 n : R.length <= k
section
variable {ns : List Str} {k : Nat} {M : Mv} {W : Option Rr} {R : List LRw} {s : PS}
def Stp1 (ns : List Str) (k : Nat) (st : St) (M : Mv) (W : Option Rr) (R : List LRw) (M' : Mv) (W' : Option Rr) (R' : List LRw) : Prop := ∀ ln s, Jn ns k M W R s -> ∃ s', flR [(ln, st)] s [] = .ok (s', []) /\ Jn ns (k + 1) M' W' R' s'
end
structure Rn (ns : List Str) (k : Nat) (M : Mv) (W : Option Rr) (R : List LRw) (ls : List (Str × Option St)) : Prop where
 ok : okLo ls
 fl : ∀ st, some st ∈ ls.map (·.2) -> st.flat
 go : ∀ m s, Dcl ns [] s -> ∃ s', flR (numO m (ls.map (·.2))) s [] = .ok (s', []) /\ Jn ns k M W R s'
section
variable {ns : List Str} {k : Nat} {M : Mv} {W : Option Rr} {R : List LRw} {ls : List (Str × Option St)}
end
structure Rg (P0 : PS -> Prop) (P : PS -> Kn -> Prop) (ls : List (Str × Option St)) : Prop where
 ok : okLo ls
 fl : ∀ st, some st ∈ ls.map (·.2) -> st.flat
 go : ∀ m s, P0 s -> ∃ s' kn', flR (numO m (ls.map (·.2))) s [] = .ok (s', kn') /\ P s' kn'
def Stg (st : St) (P P' : PS -> Kn -> Prop) : Prop := ∀ ln s kn, P s kn -> ∃ s' kn', flR [(ln, st)] s kn = .ok (s', kn') /\ P' s' kn'
structure Wq (k : Nat) (q : Rp) : Prop where
 lf : q.Lf Mv.one
 bd : (q.fm Mv.one).Bd 1000 (6 ^ (k + 1)) (k + 2) 1
 ht : q.ht <= 2 * k
structure K36 (ns : List Str) (M : Mv) (c : Option Nd) (R : List Rw) (j : Nat) (kn0 : Kn) (s : PS) (kn : Kn) : Prop where
 l : s.loose = ns
 p : s.plain = []
 now : s.now = M
 cut : s.cut = c
 rows : s.rows = R
 st : s.steps <= j
 kn : kn = kn0
section
variable {ns : List Str} {M : Mv} {c : Option Nd} {R : List Rw} {j : Nat} {kn0 : Kn}
end
structure W36 (n0 n1 W : Str) : Prop where
 o0 : qaQ n0
 o1 : qaQ n1
 h0 : n0.cps.toList.head? ≠ some 107
 h1 : n1.cps.toList.head? ≠ some 107
 ne : n0 ≠ n1
 ow : qaQ W
 hw : W.cps.toList.head? = some 107
 wr : W ≠ S "kregion"
 wo : W ≠ S "kother"
section
variable {n0 n1 W : Str} (w : W36 n0 n1 W)
include w
end
def rg36 (n0 : Str) : Rr := .ask true (.cur n0)
def kn36 (W n0 : Str) (q : Rp) : Kn := [(W, .p (q.fm Mv.one)), (S "kregion", .r ((rg36 n0).nd Mv.one))]
section
variable {n0 n1 W : Str} (w : W36 n0 n1 W)
include w
end
section
variable {n m W : Str} (hn : qaQ n) (hm : qaQ m) (hW : qaQ W)
include hW hn
end
structure R36 (n0 n1 W : Str) (k : Nat) (M : Mv) (q : Rp) (ls : List (Str × Option St)) : Prop where
 g : Rg (Dcl [n0, n1] []) (K36 [n0, n1] M none [] (4 + 4 * k) (kn36 W n0 q)) ls
 q : Wq k q
 o : M.Ok
 i : M.In (4 * k)
 n : ls.length <= 2 + 4 * k
section
variable {n0 n1 W : Str} (w : W36 n0 n1 W)
include w
end
section
variable {ls ps : List Str} {P : PS -> Kn -> Prop} {xs : List (Str × Option St)}
end
structure K38 (ls : List Str) (k : Nat) (M : Mv) (W : Option Rr) (F : List Nd) (j : Nat) (kn0 : Kn) (s : PS) (kn : Kn) : Prop where
 l : s.loose = ls
 p : s.plain = [S "kp"]
 now : s.now = M
 cut : s.cut = W.map λ w => w.nd Mv.one
 fa : s.facts = F
 st : s.steps <= j
 kn : kn = kn0
 mo : M.Ok
 mi : M.In 100
 w : ∀ w, W = some w -> Bq k w
section
variable {ls : List Str} {k : Nat} {M : Mv} {W : Option Rr} {F : List Nd} {j : Nat} {kn0 : Kn}
end
def mvs38 : List Mv := [⟨1, 0, 0, 0⟩, ⟨0, 0, 1, 0⟩, ⟨0, 0, 0, 1⟩, ⟨-3, 7, 0, 0⟩, ⟨0, 0, 2, 0⟩]
def reach : Nat -> List Mv
 | 0 => [Mv.one]
 | n + 1 => (reach n).flatMap λ M => M :: mvs38.map λ g => M.mul g
structure N38 (ls : List Str) : Prop where
 o : ∀ n ∈ ls, qaQ n
 h : ∀ n ∈ ls, n.cps.toList.head? ≠ some 107
 nd : ls.Nodup
 n : ls.length <= 3
section
variable {l0 : Str} {r0 : List Str} (w : N38 (l0 :: r0))
include w
end
def so38 (n : Str) : Rr := .ask false (.cur n)
def kx38 (n : Str) : Kn := [(S "kx", .r ((so38 n).nd Mv.one))]
section
variable {l0 : Str} {r0 : List Str} (w : N38 (l0 :: r0))
include w
end
section
variable {n : Str} (hn : qaQ n)
include hn
end
structure R38 (l0 : Str) (r0 : List Str) (t : Nat) (rs : List Rr) (xs : List (Str × Option St)) : Prop where
 g : ∃ k M W, k <= t /\ M ∈ reach t /\ Rg (Dcl (l0 :: r0) [S "kp"]) (K38 (l0 :: r0) k M W (rs.map λ r => r.nd Mv.one) (3 + 2 * t) (kx38 l0)) xs
 r : ∀ r ∈ rs, r.W 2 /\ r.Pl (· ∈ l0 :: r0)
 n : rs.length = t
 x : xs.length = 1 + 2 * t
section
variable {l0 : Str} {r0 : List Str} (w : N38 (l0 :: r0))
include w
end
inductive I4 where
 | kp | r0 | r1 | r2 | en | mv | tn | cb | pc | nv | df
def odd4 (n : Str) : Tr := .fn (S "odd") (.nm n)
def I4.ls : I4 -> List (Str × St)
 | .kp => [(S "keep", .wd (S "keep"))]
 | .r0 => [(S "repeat 0", .rp 0)]
 | .r1 => [(S "repeat 1", .rp 1)]
 | .r2 => [(S "repeat 2", .rp 2)]
 | .en => [(S "end", .wd (S "end"))]
 | .mv => [(S "move 1 1", .mv 1 1)]
 | .tn => [(S "turn 1", .tn 1)]
 | .cb => [(S "curve kb", .nms (S "curve") [S "kb"])]
 | .pc => [(S "plain kc", .nms (S "plain") [S "kc"])]
 | .nv => [(S "never odd(ka)", .ex (S "never") (odd4 (S "ka")))]
 | .df => [(S "define kf kp", .df (S "kf") [S "kp"]), (S "paint 1 odd(kp)", .pt 1 (odd4 (S "kp"))), (S "end", .wd (S "end"))]
def Rows.cnt : Rows -> Nat
 | .nil => 0
 | .cons _ _ b r => 1 + b.cnt + r.cnt
def PrK (pr : List (Str × Prc)) (P : PS -> Kn -> Prop) (s : PS) (kn : Kn) : Prop := P s kn /\ s.procs = pr
def St.fc (s : St) : Prop := s.flat ∨ ∃ n ts, s = .cl n ts
def Fl (P : PS -> Kn -> Prop) (sts : List St) (P' : PS -> Kn -> Prop) : Prop := ∀ m s kn, P s kn -> ∃ s' kn', flR (numO m (sts.map some)) s kn = .ok (s', kn') /\ P' s' kn'
structure W39 (a b : Str) : Prop where
 oa : qaQ a
 ob : qaQ b
 ha : a.cps.toList.head? ≠ some 107
 hb : b.cps.toList.head? ≠ some 107
 ne : a ≠ b
section
variable {a b : Str} (w : W39 a b)
include w
end
structure Bp (N : Nat) (q : Rp) : Prop where
 lf : q.Lf Mv.one
 bd : (q.fm Mv.one).Bd 1000 N 1 1
 ht : q.ht <= 3
def tOwn (a : Str) : Tr := .ch (.nm (S "kp")) (.cons (S "+") (.nm a) .nil)
def tOut (a : Str) : Tr := .ch (.nm (S "kown")) (.cons (S "-") (.nm a) .nil)
def tPnt : Tr := .ch (.fn (S "solid") (.nm (S "kout"))) (.cons (S "&") (.nm (S "kr")) .nil)
def qoB (a : Str) (x y : Int) (hc : Bool) : List St := [.lt (S "kown") (tOwn a), .mv x y, .lt (S "kout") (tOut a)] ++ (if hc = true then [.ex (S "cut") (.nm (S "kr"))] else []) ++ [.pt 4 tPnt]
def kn0 (P : Rp) (Q : Rr) : Kn := [(S "kp", .p (P.fm Mv.one)), (S "kr", .r (Q.nd Mv.one))]
def kn1 (P : Rp) (Q : Rr) (O : Rp) : Kn := kn0 P Q ++ [(S "kown", .p (O.fm Mv.one))]
def kn2 (P : Rp) (Q : Rr) (O T : Rp) : Kn := kn1 P Q O ++ [(S "kout", .p (T.fm Mv.one))]
def bf39 (a : Str) (x y : Int) (hc : Bool) : Rows := qmT (numO 3 ((qoB a x y hc).map some))
def tsG (b : Str) : List Tr := [.tm 2 (.nm (S "kp")), .fn (S "odd") (.nm b)]
def bg39 (b : Str) (l : Nat) : Rows := .cons l (.tn 1) .nil (.cons (l + 1) (.cl (S "kf") (tsG b)) .nil .nil)
def pr39 (a b : Str) (x y : Int) (hc : Bool) (l : Nat) : List (Str × Prc) := [(S "kf", ⟨0, [S "kp", S "kr"], bf39 a x y hc⟩), (S "kg", ⟨1, [S "kp"], bg39 b l⟩)]
def nq (a : Str) (x y : Int) (hc : Bool) : Nat := (qoB a x y hc).length + 5
def kn4 (b : Str) : Kn := [(S "kout", .p ((Rp.cur b).fm Mv.one))]
def s4 (a b : Str) (x y : Int) (hc : Bool) : PS := ⟨[a, b], [], [], [], Mv.one, none, pr39 a b x y hc (nq a x y hc + 1), 4⟩
structure R39 (a b : Str) (x y : Int) (hc : Bool) (t : Nat) (M : Mv) (W : Option Rr) (R : List LRw) (xs : List (Str × Option St)) : Prop where
 ok : okLo xs
 fl : ∀ st, some st ∈ xs.map (·.2) -> st.fc
 go : ∀ m s kn, PrK (pr39 a b x y hc (nq a x y hc + 1)) (K36 [a, b] Mv.one none [] 4 (kn4 b)) s kn -> ∃ s' kn', flR (numO m (xs.map (·.2))) s kn = .ok (s', kn') /\ PrK (pr39 a b x y hc (nq a x y hc + 1)) (K36 [a, b] M (W.map λ w => w.nd Mv.one) (R.map LRw.rw) (4 + 10 * t) (kn4 b)) s' kn'
 o : M.Ok
 i : M.In (20 * t)
 w : ∀ w, W = some w -> Bq t w
 r : ∀ r ∈ R, ∃ q : Rr, r = (none, 4, q) /\ q.Lf Mv.one /\ RGo (q.nd Mv.one) /\ q.ht < 24
 n : R.length = t
 x : xs.length = 2 * t
def q5 (a b : Str) (M : Mv) : Rr := .ask true (.sum (.cur b) (.mvd M (.cur a)))
def cls : Sg -> Nat
 | .sub => 0
 | .and => 1
 | .xor => 2
 | .or => 3
structure It where
 T : List Str
 t : Tr
 r : Rr
 m : Nat
def Stp9 (j : Nat) (rest : List Str) : Prop := Clo rest ∨ ∃ (g : Sg) (r : List Str), rest = g.s :: r /\ j <= cls g
def PrI (e0 : Pr Tr) (j : Nat) (i : It) : Prop := ∀ rest, Stp9 j rest -> lvlP e0 j (i.T ++ rest) = .ok (i.t, rest)
def lnk : List (Sg × It) -> Ln
 | [] => .nil
 | (g, i) :: r => .cons g.s i.t (lnk r)
def tkS : List (Sg × It) -> List Str
 | [] => []
 | (g, i) :: r => g.s :: (i.T ++ tkS r)
def quK (q : Rr) (acc : List (Sg × It)) : Rr := acc.foldl (λ q p => .jn p.1 q p.2.r) q
def qot (m : Nat) (acc : List (Sg × It)) : Nat := acc.foldl (λ m p => m + p.2.m) m
def ql1 (x0 : It) (acc : List (Sg × It)) : It := ⟨x0.T ++ tkS acc, chT x0.t (lnk acc), quK x0.r acc, qot x0.m acc⟩
def VaI (s : PS) (i : It) : Prop := ∀ ln, shV s [] ln Mv.one i.t = .ok (.r (i.r.nd Mv.one))
structure BdI (r : Rr) (m : Nat) : Prop where
 lf : r.Lf Mv.one
 bs : (r.nd Mv.one).BS 1000 4 (3 * m - 1) (m + 1)
 ht : r.ht <= m + 1
 one : 1 <= m
structure OkI (e0 : Pr Tr) (s : PS) (j : Nat) (i : It) : Prop where
 p : PrI e0 j i
 v : VaI s i
 b : BdI i.r i.m
 ht : i.t.ht <= j + 1
def mgC (j : Nat) : It -> List (Sg × It) -> List (Sg × It) -> It × List (Sg × It)
 | x0, acc, [] => (ql1 x0 acc, [])
 | x0, acc, (g, x) :: r => if cls g = j then mgC j x0 (acc ++ [(g, x)]) r else (ql1 x0 acc, (g, (mgC j x [] r).1) :: (mgC j x [] r).2)
def mgR (j : Nat) : Rr -> List (Sg × Rr) -> Rr × List (Sg × Rr)
 | c, [] => (c, [])
 | c, (g, x) :: r => if cls g = j then mgR j (.jn g c x) r else (c, (g, (mgR j x r).1) :: (mgR j x r).2)
def prR (xs : List (Sg × It)) : List (Sg × Rr) := xs.map λ p => (p.1, p.2.r)
def mg2 (j : Nat) (p : It × List (Sg × It)) : It × List (Sg × It) := mgC j p.1 [] p.2
def mgR2 (j : Nat) (p : Rr × List (Sg × Rr)) : Rr × List (Sg × Rr) := mgR j p.1 p.2
structure OkG (e0 : Pr Tr) (s : PS) (j : Nat) (p : It × List (Sg × It)) : Prop where
 a : OkI e0 s j p.1
 b : ∀ q ∈ p.2, j <= cls q.1 /\ OkI e0 s j q.2
 c : qot p.1.m p.2 <= 16
abbrev Lf := Bool × Str
structure Ip where
 T : List Str
 t : Tr
 q : Rp
def PrQ (e0 : Pr Tr) (i : Ip) : Prop := ∀ rest, qaZ rest ≠ S "[" -> qoI (qgH e0) (i.T ++ rest) = .ok (i.t, rest)
def sgP (p : Bool) : Str := if p = true then S "+" else S "-"
def lnkP : List (Bool × Ip) -> Ln
 | [] => .nil
 | (g, i) :: r => .cons (sgP g) i.t (lnkP r)
def tkP : List (Bool × Ip) -> List Str
 | [] => []
 | (g, i) :: r => sgP g :: (i.T ++ tkP r)
inductive W8 where
 | kp | r1 | r2
def W8.ln : W8 -> LS
 | .kp => (S "keep", .wd (S "keep"))
 | .r1 => (S "repeat 1", .rp 1)
 | .r2 => (S "repeat 2", .rp 2)
structure Pz where
 k : Int
 T : List Str
 t : Tr
def Pz.ip (p : Pz) : Ip := ⟨if p.k = 1 then p.T else if p.k = -1 then S "-" :: p.T else qmy p.k ++ p.T, if p.k = 1 then p.t else .tm p.k p.t, .nul⟩
def Pz.ab (p : Pz) : Pz := ⟨(p.k.natAbs : Nat), p.T, p.t⟩
def Pz.nx (p : Pz) : Bool × Ip := (decide (0 < p.k), p.ab.ip)
def chTk : List Pz -> List Str
 | [] => [S "nothing"]
 | p :: r => p.ip.T ++ tkP (r.map Pz.nx)
def chTr : List Pz -> Tr
 | [] => .wd (S "nothing")
 | p :: r => chT p.ip.t (lnkP (r.map Pz.nx))
structure PzOk (e0 : Pr Tr) (p : Pz) : Prop where
 k : p.k.natAbs < 10 ^ 13
 hd : HdT p.T
 rd : ∀ rest, qaZ rest ≠ S "[" -> qgH e0 (p.T ++ rest) = .ok (p.t, rest)
def tmZ (p : Tm) : Pz := ⟨p.2 * (1 - 2 * p.1.f.m), qpr p.1.n p.1.f, qlu p.1.n p.1.f⟩
mutual
def Nd.tt : Nd -> List Str × Tr
 | .non => ([S "none"], .wd (S "none"))
 | .ask o ts os => (kindS o :: S "(" :: (chTk (ts.map tmZ ++ osZ os) ++ [S ")"]), .fn (kindS o) (chTr (ts.map tmZ ++ osZ os)))
 | .jn g a b => (S "(" :: (a.tt.1 ++ g.s :: (b.tt.1 ++ [S ")"])), .ch a.tt.2 (.cons g.s b.tt.2 .nil))
def osZ : Os -> List Pz
 | [] => []
 | (n, k) :: r => ⟨k, S "outline" :: S "(" :: (n.tt.1 ++ [S ")"]), .fn (S "outline") n.tt.2⟩ :: osZ r
end
mutual
def Nd.Nrm : Nd -> Prop
 | .non => True
 | .ask o ts os => (Fm.Can (ts, os) /\ qcN o ts os = .ask o ts os) /\ NrmL os
 | .jn g a b => (a.Nrm /\ b.Nrm) /\ qcS g a b = .jn g a b
def NrmL : Os -> Prop
 | [] => True
 | (n, _) :: r => n.Nrm /\ NrmL r
end
mutual
def Nd.Us (P : Str -> Prop) : Nd -> Prop
 | .non => True
 | .ask _ ts os => (∀ p ∈ ts, P p.1.n) /\ UsL P os
 | .jn _ a b => a.Us P /\ b.Us P
def UsL (P : Str -> Prop) : Os -> Prop
 | [] => True
 | (n, _) :: r => n.Us P /\ UsL P r
end
def Fm.Us (P : Str -> Prop) (x : Fm) : Prop := (∀ p ∈ x.1, P p.1.n) /\ UsL P x.2
section
variable {P : Str -> Prop} {x y : Fm}
end
structure Nice (ns : List Str) (n : Nd) : Prop where
 nr : n.Nrm
 us : n.Us λ s => s ∈ ns /\ qaQ s
 go : RGo n
 sz : n.size <= 40
 dp : n.dep <= 7
section
variable {ns : List Str} {n : Nd} (h : Nice ns n)
include h
end
structure K41 (ls ps : List Str) (F : List Nd) (R : List Rw) (j : Nat) (s : PS) (kn : Kn) : Prop where
 l : s.loose = ls
 p : s.plain = ps
 now : s.now = Mv.one
 cut : s.cut = none
 fa : s.facts = F
 rows : s.rows = R
 pr : s.procs = []
 st : s.steps <= j
 kn : kn = []
section
variable {ls ps : List Str} {F : List Nd} {R : List Rw} {j : Nat}
end
structure Fine (ls ps : List Str) (ns : List Nd) : Prop where
 nm : ∀ s ∈ ls ++ ps, qaQ s
 nd : (ls ++ ps).Nodup
 n6 : (ls ++ ps).length <= 6
 fb : ∀ n ∈ ns, qqZ (ls.map D.str) n = false
 n4 : ns.length <= 4
 go : ∀ n ∈ ns, RGo n
def LRw.Wn (ns : List Str) (n : Nat) (r : LRw) : Prop := (∀ i, r.1 = some i -> 0 <= i /\ i < 10) /\ (0 <= r.2.1 /\ r.2.1 < 10) /\ r.2.2.Wn ns n
end DL
namespace L2N
open PySem PySem.Spec PyProof.Rows L2
section
variable {M : Model} {A : Around} {E : Value -> Shared -> Prop} {s : Shared} {env : Env}
def cpR (M : Model) (A : Around) (E : Value -> Shared -> Prop) (Q : Value -> Shared -> Prop) (acc : Value) (ce : Env) (r : Result) (s' : Shared) : Prop :=
 match r with
 | .ok _ => ∃ m, s'.heap.Ns ce.locals m /\ ∀ h', Heap.SameBut ce.locals s'.heap h' -> Q acc { s' with heap := h' }
 | .error x => ∃ m, s'.heap.Ns ce.locals m /\ ∀ h', Heap.SameBut ce.locals s'.heap h' -> wpAny M A (passOn "comprehension.variables-let-go" x ce : Sem Value) (λ _ _ => False) E { s' with heap := h' }
theorem qA9 {e : Expr} {scope : Scope} {pos : Pos} {newAcc first : Sem Value} {g : Comprehension} {gs : List Comprehension} {cl : List (Str × Addr)}
   {Q : Value -> Shared -> Prop}
   (hcl : clausesOf e = g :: gs) (hs : ∀ x, foldedSetIterable g.iter env x = pure x) (hclos : closureFor scope env = pure cl)
   (hkind : scope.kind = .function) (hnames : ∀ x ∈ scope.names, x.2 = .local -> scope.names.lookup x.1 = some .local)
   (h : wpAny M A first (λ x s₁ => wpAny M A (pyIter x) (λ it s₂ => wpAny M A newAcc (λ acc s₃ =>
     wpAny M A (newFunctionEnv scope env.globals cl [] env.qual none .none (some env)) (λ cenv s₄ =>
       codeAny M A (.compStart e 0 it acc { cenv with scope := relabel scope env }) (cpR M A E Q acc { cenv with scope := relabel scope env }) s₄) E s₃) E s₂) E s₁) E s) :
   wpAny M A (comprehension e scope env pos newAcc false first none) Q E s := by
 unfold comprehension
 rw [hclos, hcl]
 refine wpAny_bind (wpAny_mono h (λ x s₁ h₁ => wpAny_bind (wpAny_standAt (wpAny_bind (wpAny_of_eq (hs x) (wpAny_bind (wpAny_holding (wpAny_mono h₁ (λ it s₂ h₂ =>
   wpAny_standIf (wpAny_bind (wpAny_mono h₂ (λ acc s₃ h₃ => wpAny_bind (wpAny_pure (wpAny_bind (wpAny_mono h₃ (λ cenv s₄ h₄ => ?_) λ _ _ h' => h')))) λ _ _ h' => h')))
     λ _ _ h' => h'))))))) λ _ _ h' => h')
 dsimp only
 have hv : ∀ x ∈ (scope.names.filter λ x => (x.2 == .local || x.2 == .cell) && x.1 != (".0" : Str)).reverse, x.2 = .local ->
     Env.kindOf { cenv with scope := relabel scope env } x.1 = some .local := λ x hx hl => lookup_relabel_local (hnames x (List.mem_filter.mp (List.mem_reverse.mp hx)).1 hl)
 refine wpAny_holding (wpAny_bind (wpAny_attempt (wpAny_holding (wpAny_run (codeAny_mono h₄ λ r s' hr => ?_)))))
 cases r with
 | ok f =>
   obtain ⟨m, hn, hr⟩ := hr
   exact wpAny_bind (wpAny_holding (wpAny_comp_letGo (cenv := { cenv with scope := relabel scope env }) hkind _ s' m hv hn λ h' m' _ hs' => wpAny_pure (hr h' hs')))
 | error x =>
   obtain ⟨m, hn, hr⟩ := hr
   exact wpAny_bind (wpAny_holding (wpAny_comp_letGo (cenv := { cenv with scope := relabel scope env }) hkind _ s' m hv hn λ h' m' _ hs' => wpAny_mono (hr h' hs') (λ _ _ f => f.elim) λ _ _ y => y))
end
theorem Sky.hold {B : Heap} {M : Model} {A : Around} {E₁ : Value -> Shared -> Prop} {s : Shared} {env : Env} {outer : List Env} {L a : Addr} {Z : Obj -> Prop} {Q : Unit -> Shared -> Prop} (hZ : PXN.Steady1 Z) (hfr : A.frames = some (env :: outer)) (hf : env.frame = some L)
   (x : Sky B (env :: outer) a Z L s.heap) (hQ : ∀ h', HandSPX.HeldZ B (env :: outer) a Z L h' -> s.heap.UpToSlots h' -> Q () { s with heap := h' }) :
   wpAny M A (noteFrame (.ref a) env) Q E₁ s := by
 rcases x with ⟨hB, hn, hl, oe, vs, he, hz, hd, h1⟩ | fl | hh
 · exact PXN.look_newZ hZ hfr hl hf he hB hn hd h1 hz hQ
 · exact PXN.looks_onZ hZ hfr hf fl hQ
 · exact HandSPX.againZ hf hh.2.2.2 (hQ s.heap hh (Heap.UpToSlots.refl _))
theorem qzw {x : Value} {e e' : Env} (h : e.frame = e'.frame) : noteFrame x e = noteFrame x e' := by
 unfold noteFrame PySem.frameOf
 rw [h]
theorem qx0 {h h' : Heap} {a : Addr} {m : Str -> Option Value} (n : h.Ns a m) (u : h.UpToSlots h') : h'.Ns a m := by
 obtain ⟨o, es, ep, e, d, r⟩ := n
 obtain ⟨sl, e'⟩ := u a o e (by rw [d]; exact λ vs z => nomatch z)
 exact ⟨_, es, ep, e', d, r⟩
abbrev _root_.L2.Cx.blkX (X : Cx) (s : Shared) (H : Hp) (scope : Scope) (cenv : Env) (fp : List Addr) (xe : Value -> Shared -> Prop) : Cx := { X.blk s H scope cenv fp with xe := xe }
end L2N
namespace L2N
open PySem PySem.Spec PyProof.Rows L2
section
variable {X : Cx} {pins : List (Addr × Obj)} {σ : St} {H : Hp} {s : Shared}
theorem Inv.xeOf (I : Inv X pins σ H s) (xe : Value -> Shared -> Prop) : Inv { X with xe := xe } pins σ H s :=
 ⟨⟨I.ok.mod, I.ok.kind, I.ok.glob, I.ok.blt, I.ok.above, I.ok.inj, I.ok.has, I.ok.cab, I.ok.hd, I.ok.frames, I.ok.stk, I.ok.exf, I.ok.bs, I.ok.bsz, I.ok.noex, I.ok.exfs, I.ok.funs, I.ok.frf⟩, I.os, I.bare, I.base, I.loc, I.cell, I.free, I.freeC, I.pin, I.hok, I.len⟩
theorem qnW {h h' base : Heap} {c : Addr} (k : ∀ b o, b ≠ c -> h.get? b = some o -> h'.get? b = some o) : ∀ {l : List Env}, c ∉ frs l -> h.FunFrames base l -> h'.FunFrames base l
 | [], _, _ => trivial
 | env :: l, n, h => by
   obtain ⟨hk, ⟨L, o, hf, hn, ho, hd⟩, hr⟩ := h
   have hm : L ∈ frs (env :: l) := List.mem_filterMap.mpr ⟨env, List.mem_cons_self, hf⟩
   refine ⟨hk, ⟨L, o, hf, hn, k L o (λ z => n (by rw [<- z]; exact hm)) ho, hd⟩, qnW k (λ z => n ?_) hr⟩
   obtain ⟨e, he, q⟩ := List.mem_filterMap.mp z
   exact List.mem_filterMap.mpr ⟨e, List.mem_cons_of_mem _ he, q⟩
theorem qub {s' : Shared} {B : Heap} {H' : Hp} {a : Addr} {Z : Obj -> Prop} (I : Inv X pins σ H s) (fl : HandSPX.FlyingZ B X.stack a Z s'.heap) (hok : HOk X.prog X.w H' B) (ub : UB (frs X.stack) H H' s.heap B s'.heap) (os : s'.os = s.os) (ag : AllBare s'.gens) :
   ∃ sI : Shared, Inv X pins σ H' sI /\ (∀ b o, sI.heap.get? b = some o -> b ∉ frs X.stack -> B.get? b = some o) /\ sI.heap.UpToSlots s'.heap /\ s'.os = sI.os := by
 obtain ⟨G, g1, g2⟩ := restrict s'.heap λ b => (B.get? b).isSome || decide (b ∈ frs X.stack)
 have st : B.StaysIn s'.heap := fl.1
 have gB : ∀ b o, B.get? b = some o -> G.get? b = some o := λ b o e => by
   rw [g1 b (by simp [e])]
   exact st b o e
 have gF : ∀ b, b ∈ frs X.stack -> G.get? b = s'.heap.get? b := λ b hb => g1 b (by simp [hb])
 have og : ∀ b o, G.get? b = some o -> s'.heap.get? b = some o /\ ((B.get? b).isSome = true ∨ b ∈ frs X.stack) := λ b o e => by
   cases q : ((B.get? b).isSome || decide (b ∈ frs X.stack)) with
   | false => rw [g2 b q] at e; cases e
   | true =>
     rw [g1 b q] at e
     exact ⟨e, by simpa [Bool.or_eq_true] using q⟩
 refine ⟨{ s with heap := G, gens := s'.gens, drawn := s'.drawn, toks := s'.toks }, ?_, λ b o e hb => ?_, Heap.UpToSlots.of_keeps λ b o e => (og b o e).1, os⟩
 · refine I.call (ch := []) ⟨λ b o e n hb _ => gB b o (ub.keep b o e n hb), λ b o e n hb _ => ?_, λ b o e n _ => ub.free b o e n, λ b o e _ => ?_, ub.tups, ub.frzs, ub.tbls⟩ (hok.kept gB) ag (λ _ z => nomatch z)
   · obtain ⟨sl, q⟩ := ub.slot b o e hb
     exact ⟨sl, by rw [gF b hb]; exact q⟩
   · by_cases hb : b ∈ frs X.stack
     · obtain ⟨sl, q⟩ := ub.slot b o e hb
       exact ⟨_, by rw [gF b hb]; exact q⟩
     · obtain ⟨o', q⟩ := ub.there b o e hb
       exact ⟨o', gB b o' q⟩
 · obtain ⟨e', h⟩ := og b o e
   rcases h with h | h
   · obtain ⟨o', q⟩ := Option.isSome_iff_exists.mp h
     have z := st b o' q
     rw [e'] at z; cases z
     exact q
   · exact absurd h hb
theorem qx2 {E : XK} {scope : Scope} {ce : Env} {fp : List Addr} {Qf : Value -> Shared -> Prop} {acc : Value} {xe : Value -> Shared -> Prop}
   (hs : X.stack = X.env :: X.outer) (hf : X.env.frame = some X.env.locals) (tk : Takes X (λ cls d _ H => E cls d H)) (I : Inv X pins σ H s) (cf : ce.frame = X.env.frame) (cl : ce.locals = s.heap.objs.size)
   (hfp : ∀ b ∈ fp, (b ∈ X.ex ∨ X.s_0.heap.objs.size <= b) /\ b ≠ X.env.locals /\ (∀ x c, X.env.cells.lookup x = some c -> c ≠ b) /\ ∀ p ∈ X.pn ++ pins, p.1 ≠ b)
   (hxe : xe = notedBy (model X.prog X.w) X.A ce λ e s'' => cpR (model X.prog X.w) X.A X.xe Qf acc ce (.error e) s'') :
   Passes (L2N.CX X.prog X.w) (X.blkX s H scope ce fp xe) E := by
 rintro pins' σ' H' s1 er s' IY ⟨a, B, H'', cls, d, rfl, fl, hok, ub, na, os, ag, hE⟩
 have IX : Inv X pins σ H' s1 := I.call' (ch := fp) IY.os IY.base IY.hok IY.bare hfp
 have nC : H' ce.locals = none := IY.free
 obtain ⟨f0, f1, f2, f3, f4, f5⟩ := I.fpOk (H' := H') (b := ce.locals) (Nat.le_of_eq cl.symm) nC
 have hC : ce.locals ∉ frs X.stack := λ hm => by
   rcases List.mem_cons.mp (IX.stkSub _ hm) with z | z
   · exact f1 z
   · exact f2 z
 obtain ⟨m, hn, _⟩ := IY.loc
 have hn' : s'.heap.Ns ce.locals m := by
   obtain ⟨o, es, ep, e, r⟩ := hn
   exact ⟨o, es, ep, fl.1 _ _ (ub.keep _ o e nC hC), r⟩
 have nC2 : H'' ce.locals = none := by
   obtain ⟨o, es, ep, e, r⟩ := hn
   exact ub.free _ o e nC
 obtain ⟨sI, J, nb, up, os2⟩ := qub IX fl hok ub os ag
 have J' : Inv X pins σ H'' { sI with heap := PySem.W.hideAll sI.heap [ce.locals] } := J.turned (it := ce.locals) (t' := sI.toks) (λ b o hb e => PySem.W.hideAll_get _ e (by simpa using hb)) nC2 f1 f3 f4 f5
 have sky : Sky B X.stack a (Zn cls d) X.env.locals s'.heap := .inr (.inl fl)
 show xe (.ref a) s'
 rw [hxe]
 show wpAny _ X.A (noteFrame (.ref a) ce) _ _ s'
 rw [qzw cf]
 rw [hs] at sky
 have hfr : X.A.frames = some (X.env :: X.outer) := by rw [I.ok.frames, hs]
 refine Sky.hold Zn.steady hfr hf sky λ h1 hh up1 => ?_
 have hn1 := qx0 hn' up1
 refine ⟨m, hn1, λ h2 sb => ?_⟩
 obtain ⟨k1, k2, k3, oe, vs, T, oT, ts, he, hz, hd, hT1, hnT, hTe, hT, hdT, h3⟩ := hh
 obtain ⟨oC, es, ep, eC, dC, _⟩ := hn1
 have aC : a ≠ ce.locals := λ z => by
   rw [z, eC] at he
   cases he
   rw [dC] at hd
   cases hd
 have TC : T ≠ ce.locals := λ z => by
   rw [z, eC] at hT
   cases hT
   rw [dC] at hdT
   cases hdT
 unfold PySem.passOn
 refine wpAny_bind (wpAny_field ((sb.2 a aC).trans he) hd hT1 ?_)
 rw [if_neg (show ¬ ((Value.ref T == Value.none) = true) from by simp)]
 have hide : ∀ {h : Heap} {b : Addr} {o : Obj}, (PySem.W.hideAll h [ce.locals]).get? b = some o -> h.get? b = some o /\ b ≠ ce.locals := λ {h b o} e => ⟨PySem.W.of_hideAll _ e, λ z => by
   rw [z, PySem.W.hideAll_none _ List.mem_cons_self] at e
   cases e⟩
 have none_of : ∀ {h : Heap} {b : Addr}, h.get? b = none -> (PySem.W.hideAll h [ce.locals]).get? b = none := λ {h b} e => by
   cases q : (PySem.W.hideAll h [ce.locals]).get? b with
   | none => rfl
   | some o => rw [(hide q).1] at e; cases e
 have fin : wpAny (model X.prog X.w) X.A (setFlight (.ref a) ce.frame) (λ _ s4 => wpAny (model X.prog X.w) X.A (throw (.ref a) : Sem Value) (λ _ _ => False) X.xe s4) X.xe { s' with heap := h2 } := by
   rw [cf, hf]
   refine HandSPX.setFlight_anyZ (base := PySem.W.hideAll B [ce.locals]) (l := X.env :: X.outer) (Z := Zn cls d) (fl := rawInt X.env.locals) (λ b o e => (sb.2 b (hide e).2).trans (k1 b o (hide e).1)) ?_ ⟨oe, vs, T, oT, ts, (sb.2 a aC).trans he, hz, hd, hT1, none_of hnT, hTe, (sb.2 T TC).trans hT, hdT, h3⟩ λ h4 q1 q2 q3 q4 => wpAny_throw (tk _ _ ?_)
   · exact qnW (h := h1) (c := ce.locals) (λ b o hb e => (sb.2 b hb).trans e) (by rw [<- hs]; exact hC) (funFrames_none k3 λ L hL => none_of (k3.mem hL).1)
   · refine ⟨a, PySem.W.hideAll B [ce.locals], { sI with heap := PySem.W.hideAll sI.heap [ce.locals] }, pins, σ, H'', cls, d, rfl, J', λ b o e hb => ?_, λ b o e hnf => ?_, .inr (.inr (by rw [hs]; exact ⟨q1, none_of k2, q2, q3⟩)), na, os2, ag, hE⟩
     · exact PySem.W.hideAll_get _ (nb b o (hide e).1 hb) (by simpa using (hide e).2)
     · obtain ⟨sl, e1⟩ := up b o (hide e).1 hnf
       obtain ⟨sl1, e2⟩ := up1 b _ e1 hnf
       obtain ⟨sl2, e3⟩ := q4 b _ ((sb.2 b (hide e).2).trans e2) hnf
       exact ⟨sl2, e3⟩
 first
   | exact wpAny_bind (wpAny_pure (wpAny_bind fin))
   | exact wpAny_bind fin
end
end L2N
namespace L2N
open PySem PySem.Spec PyProof.Rows L2
section
variable {X : Cx} {E : XK}
theorem qyl {elt tg iter : Expr} {ifs : List Expr} {scope : Scope} {own : List (Str × Nat)} {pos : Pos} {wi : TI} {g : TG} {tt : TT} {te : TE} (hs0 : X.stack = X.env :: X.outer) (hf0 : X.env.frame = some X.env.locals) (tk : Takes X (λ cls d _ H => E cls d H))
   (hc : X.calm = true) (hN : X.N.Nodup) (hi : PI X tg iter wi) (ok : BlkOk X.N X.env.scope scope own)
   (hg : ∀ (s : Shared) (H : Hp) (C : Addr) (cl : List (Str × Addr)) (fp : List Addr) (xe : Value -> Shared -> Prop), PG (X.blkX s H scope (compEnvC scope cl C X.env) fp xe) tg g)
   (ht : ∀ (s : Shared) (H : Hp) (C : Addr) (cl : List (Str × Addr)) (fp : List Addr) (xe : Value -> Shared -> Prop), PTs (X.blkX s H scope (compEnvC scope cl C X.env) fp xe) ifs tt)
   (he : ∀ (s : Shared) (H : Hp) (C : Addr) (cl : List (Str × Addr)) (fp : List Addr) (xe : Value -> Shared -> Prop), Passes (L2N.CX X.prog X.w) (X.blkX s H scope (compEnvC scope cl C X.env) fp xe) E -> PE (X.blkX s H scope (compEnvC scope cl C X.env) fp xe) elt te)
   (hs : ∀ x, foldedSetIterable iter X.env x = pure x := by intro _; rfl) :
   PE X (.ListComp elt [⟨tg, iter, ifs, 0⟩] scope pos) (tLc wi g tt te (own.map (·.2))) := by
 refine ⟨λ pins s σ H Q I h => ?_⟩
 rw [eval_ListComp]
 have hfree : ∀ y ∈ scope.names, y.2 = .free -> ∃ c, X.env.cells.lookup y.1 = some c := λ y hy e => by
   rcases ok.free y hy e with k | k
   · exact I.ok.has _ (.inl k)
   · exact I.ok.has _ (.inr k)
 refine qA9 rfl hs (closure_ok hfree) ok.kind (λ y hy e => by rw [ok.uniq y hy, e])
   (thn (hi.run pins s σ H _ I h) λ xv s1 hx => thn hx λ itv s2 h2 => ?_)
 obtain ⟨it, fp, tn, J, H2, e, I2, T, st2, f2, q⟩ := h2
 subst e
 refine wpAny_newObj_type (newEnv_comp ?_) (by show 0 <= sizeLine; decide)
 generalize hD : s2.heap.objs.size = D
 have hDn : H2 D = none := I2.hok.fresh (Nat.le_of_eq hD)
 obtain ⟨W, ⟨m0, w0⟩, turn⟩ := q D hDn
 generalize hs3 : ({ s2 with heap := s2.heap.push { cls := .type "list", data := .seq ([] : List Value).toArray } } : Shared) = s3
 have I3 : Inv X pins σ (upd H2 D (.lst [])) s3 := by
   rw [<- hs3]
   refine I2.laid (t' := s2.toks) (λ b o e => Heap.get?_push_of_some _ e) (Nat.le_of_eq hD) ⟨Nat.zero_le _, [], 0, .nil, ?_⟩
   rw [<- hD]
   exact Heap.get?_push_size _ rfl
 have h3 : s3.heap = s2.heap.push { cls := .type "list", data := .seq ([] : List Value).toArray } := by rw [<- hs3]
 have sz : ∀ b ∈ fp, b < s2.heap.objs.size := λ b hb => by
   obtain ⟨o, e, _⟩ := T.obj _ _ st2 b hb
   exact Heap.lt_size e
 have f3 : ∀ b ∈ fp, FpOk X pins (upd H2 D (.lst [])) b /\ b < s3.heap.objs.size := λ b hb => by
   have hlt := sz b hb
   refine ⟨⟨?_, (f2 b hb).2⟩, by rw [h3, Heap.size_push]; exact Nat.lt_succ_of_lt hlt⟩
   rw [upd_ne (by rw [<- hD]; exact Nat.ne_of_lt hlt)]
   exact (f2 b hb).1
 have st3 : tn 0 s3.heap := T.keep _ _ _ st2 λ b _ o e => by rw [h3]; exact Heap.get?_push_of_some _ e
 have I4 := block_start I3 ok hN f3
 have pg := hg s3 (upd H2 D (.lst [])) s3.heap.objs.size (cellsFrom (s3.heap.objs.size + 1) scope.names (cloFrom X.env.cells scope.names [])) fp
 have pt := ht s3 (upd H2 D (.lst [])) s3.heap.objs.size (cellsFrom (s3.heap.objs.size + 1) scope.names (cloFrom X.env.cells scope.names [])) fp
 have pe := he s3 (upd H2 D (.lst [])) s3.heap.objs.size (cellsFrom (s3.heap.objs.size + 1) scope.names (cloFrom X.env.cells scope.names [])) fp
 generalize hQf : (λ (v : Value) (s' : Shared) => EP X pins σ Q v s') = Qf
 show codeAny _ _ (.compStart (.ListComp elt [⟨tg, iter, ifs, 0⟩] scope pos) 0 (.ref it) (.ref D) (compEnvC scope (cellsFrom (s3.heap.objs.size + 1) scope.names (cloFrom X.env.cells scope.names [])) s3.heap.objs.size X.env)) (cpR (model X.prog X.w) X.A X.xe (EP X pins σ Q) (.ref D) (compEnvC scope (cellsFrom (s3.heap.objs.size + 1) scope.names (cloFrom X.env.cells scope.names [])) s3.heap.objs.size X.env)) { s3 with heap := pushCells (s3.heap.push { cls := .type "dict", data := .dict #[] }) scope.names }
 have nfp : ∀ b ∈ fp, (upd H2 D (.lst [])) b = none := λ b hb => (f3 b hb).1.1
 generalize hce : compEnvC scope (cellsFrom (s3.heap.objs.size + 1) scope.names (cloFrom X.env.cells scope.names [])) s3.heap.objs.size X.env = ce at I4 pg pt pe ⊢
 have cL : ce.locals = s3.heap.objs.size := by subst hce; rfl
 have cF : ce.frame = X.env.frame := by subst hce; rfl
 generalize hH3 : upd H2 D (.lst []) = H3 at I3 I4 pg pt pe w0 nfp f3
 generalize hxe : (notedBy (model X.prog X.w) X.A ce λ e s'' => cpR (model X.prog X.w) X.A X.xe (EP X pins σ Q) (.ref D) ce (.error e) s'') = xe
 have I4 := Inv.xeOf I4 xe
 have pe := pe xe (qx2 hs0 hf0 tk I3 cF cL (λ b hb => ⟨(f3 b hb).1.2.2.2.1, (f3 b hb).1.2.1, (f3 b hb).1.2.2.2.2.1, (f3 b hb).1.2.2.2.2.2⟩) hxe.symm)
 have pg := pg xe
 have pt := pt xe
 generalize hs4 : ({ s3 with heap := pushCells (s3.heap.push { cls := .type "dict", data := .dict #[] }) scope.names } : Shared) = s4 at I4 ⊢
 have st4 : tn 0 s4.heap := T.keep _ _ _ st3 λ b _ o e => by rw [<- hs4]; exact pushCells_keeps _ _ _ _ (Heap.get?_push_of_some _ e)
 have stat : ∀ {σ' : St} {H' : Hp} {s' : Shared}, Inv (X.blkX s3 H3 scope ce fp xe) [] σ' H' s' -> (∀ b ∈ fp, H' b = none) -> ∀ b ∈ fp, FpOk (X.blkX s3 H3 scope ce fp xe) [] H' b := λ {σ' H' s'} I' hn b hb =>
   ⟨hn b hb, (I'.ok.exf b hb).1, I'.ok.exfs b hb, .inl hb, λ x c e => (I'.ok.exf b hb).2 x c e, λ p hp => absurd (show p ∈ ([] : List (Addr × Obj)) ++ [] from hp) (by simp)⟩
 have loop : codeAny (model X.prog X.w) X.A (.compLoop (.ListComp elt [⟨tg, iter, ifs, 0⟩] scope pos) 0 (.ref it) (.ref D) ce) (cpR (model X.prog X.w) X.A X.xe (EP X pins σ Q) (.ref D) ce) s4 := by
   refine compLoop_any (λ n s' => ∃ i H', Inv (X.blkX s3 H3 scope ce fp xe) [] (wipe σ (own.map (·.2))) H' s' /\ tn i s'.heap /\ (∀ b ∈ fp, H' b = none) /\ W i n H') ?_ m0 ⟨0, H3, I4, st4, nfp, w0⟩
   rw [show (notedBy (model X.prog X.w) X.A ce λ e s' => cpR (model X.prog X.w) X.A X.xe (EP X pins σ Q) (.ref D) ce (.error e) s') = xe from hxe]
   rintro n s5 ⟨i, H5, I5, st5, n5, w5⟩
   rcases turn i n H5 w5 with ⟨stop, qq⟩ | ⟨go, Nx, hNx, step⟩
   · have td := T.done (X.blkX s3 H3 scope ce fp xe) rfl rfl rfl hc i [] s5 _ H5 (λ _ _ => False) I5 (stat I5 n5) st5 stop
     refine thnF td λ r s6 ⟨hr, I6⟩ => ?_
     subst hr
     have I7 : Inv X pins σ H5 s6 := I3.call' (ch := fp) I6.os I6.base I6.hok I6.bare λ b hb => ⟨(f3 b hb).1.2.2.2.1, (f3 b hb).1.2.1, (f3 b hb).1.2.2.2.2.1, (f3 b hb).1.2.2.2.2.2⟩
     have nC : H5 ce.locals = none := I6.free
     obtain ⟨m, hn, _⟩ := I6.loc
     refine ⟨m, hn, λ h'' sb => ?_⟩
     obtain ⟨f0, f1, f2, f3, f4, f5⟩ := I3.fpOk (H' := H5) (b := ce.locals) (Nat.le_of_eq cL.symm) nC
     exact ⟨.ref D, H5, I7.turned (t' := s6.toks) (λ b o hb e => (sb.2 b hb).trans e) f0 f1 f3 f4 f5, rfl, qq⟩
   · have ti := T.item (X.blkX s3 H3 scope ce fp xe) rfl rfl rfl hc i [] s5 _ H5 (λ _ _ => False) I5 (stat I5 n5) st5 go
     refine thnF ti λ r s6 ⟨u, hr, h6⟩ => ?_
     subst hr
     refine thnF h6 λ _ s7 ⟨x, H7, I7, r7, y7, st7, n7⟩ => ?_
     have I7' := I7.pinned (stat I7 n7) (T.obj _ _ st7)
     refine thn (pg.run _ s7 _ H7 x u _ I7' r7 (step x H7 y7)) λ _ s8 ⟨σ8, H8, I8, hw8, q8⟩ => ?_
     refine thn (pt.run _ s8 σ8 H8 _ I8 q8) λ b s9 ⟨H9, I9, q9⟩ => ?_
     have fin : ∀ {s' : Shared} {H' : Hp}, Inv (X.blkX s3 H3 scope ce fp xe) ([] ++ pinsAt fp s7.heap) σ8 H' s' -> Nx H' -> ∃ m, m < n /\ ∃ i H', Inv (X.blkX s3 H3 scope ce fp xe) [] (wipe σ (own.map (·.2))) H' s' /\ tn i s'.heap /\ (∀ b ∈ fp, H' b = none) /\ W i m H' := λ {s' H'} I' nx => by
       obtain ⟨m', hm, w'⟩ := hNx H' nx
       have pin' : ∀ b ∈ fp, ∀ o, s7.heap.get? b = some o -> s'.heap.get? b = some o /\ H' b = none := λ b hb o e =>
         let z := I'.pin (b, o) (List.mem_append_right _ (List.mem_append_right _ (mem_pinsAt hb e)))
         ⟨z.1, z.2.1⟩
       have hl : (wipe σ (own.map (·.2))).length = σ8.length := by rw [<- hw8, wipe_length]
       refine ⟨m', hm, i + 1, H', (I'.unpinned (pins := [])).weak hl (λ j v e => ?_), T.keep _ _ _ st7 λ b hb o e => (pin' b hb o e).1, λ b hb => ?_, w'⟩
       · rw [<- hw8] at e
         exact (wipe_some e).1
       · obtain ⟨o, e, _⟩ := T.obj _ _ st7 b hb
         exact (pin' b hb o e).2
     cases b with
     | false =>
       simp only [Bool.false_eq_true, if_false] at q9 ⊢
       exact fin I9 q9
     | true =>
       simp only [if_true] at q9 ⊢
       refine thn (pe.run _ s9 σ8 H9 _ I9 q9) λ z s10 ⟨yv, H10, I10, r10, acc, hD10, hz10, nx⟩ => ?_
       exact app_ok (X := X.blkX s3 H3 scope ce fp xe) I10 hD10 hz10 r10 λ s11 I11 => fin I11 nx
 exact codeAny_compStart_list loop (T.self X.A 0 _ _ _ st4 loop)
end
end L2N
namespace DL
variable [TbC]
open PySem PySem.Spec PyProof.Rows L2
section
variable {X : Cx} {Ed : DX -> Prop} {E : XK} {K : PySem.W.Frag} {a b c o tg iter elt : Expr} {ta tb tc : TE} {da db dc : DE} {pos apos : Pos} {ti : TI} {di : DI} {g : TG} {dg : DG} {tt : TT} {dt : DT} {te : TE} {de : DE} {ifs : List Expr} {scope : Scope} {own : List (Str × Nat)}
theorem qx5 {vs : List Nat} (hi : SimI K Ed E ti di) (hg : SimG K g dg) (og : OwnG g vs) (ht : SimT K (λ _ => False) E0 tt dt) (he : SimE K Ed E te de) : SimE K Ed E (tLc ti g tt te vs) (qcm di dg dt de vs) := λ B0 B1 A H0 H σ ρ R X Qd h Q q =>
 hi B0 B1 A H0 H σ ρ R X _ h _ λ J xs Hs0 Hs Rs gs wk hl => λ Dl hD => by
   obtain ⟨Aw, Rw, hw⟩ := Rs.wipe vs
   have nbD : B1 Dl = none := Rs.gr.g1.free hD
   have naD : ∀ i, Aw i ≠ some Dl := λ i z => Rw.freeA hD i z
   -- what stands at each turn
   refine ⟨λ i m H' => m = xs.length - i /\ ∃ H0' acc us, RepS K B0 B1 Aw H0' H' (L2.wipe σ vs) (qak ρ vs) /\ Grow Hs0 Hs H0' H' /\ H0' Dl = none /\ H' Dl = some (.lst us) /\ Reps K H0' acc us /\ qaG dg dt de (xs.drop i) acc (qak ρ vs) Qd,
     ⟨xs.length, by simp, Hs0, [], [], Rw.other (Rw.ex.free hD) nbD naD (.inl hD), ⟨.refl _, (same_upd hD).ext, qbi Rw.ex (Rw.ex.free hD), λ _ _ => rfl, λ t => qc5 t hD⟩, Rw.ex.free hD, upd_same, rfl, by simpa using hl⟩, ?_⟩
   rintro i m H' ⟨rfl, H0', acc, us, R', g', n', hD', ra, hq⟩
   obtain ⟨hgo, hst⟩ := wk i H0' H' R'.ex g'.g0
   rcases drop_at (xs := xs) (i := i) with ⟨x, hx, hdr⟩ | ⟨hx, hdr⟩
   · rw [hdr] at hq
     obtain ⟨go, yl⟩ := hgo x hx
     have hlt : i < xs.length := (List.getElem?_eq_some_iff.mp hx).1
     refine .inr ⟨go, λ H2 => ∃ H02 acc us, RepS K B0 B1 Aw H02 H2 (L2.wipe σ vs) (qak ρ vs) /\ Grow Hs0 Hs H02 H2 /\ H02 Dl = none /\ H2 Dl = some (.lst us) /\ Reps K H02 acc us /\ qaG dg dt de (xs.drop (i + 1)) acc (qak ρ vs) Qd, λ H2 n2 => ⟨xs.length - (i + 1), by omega, rfl, n2⟩, λ v Hn y => ?_⟩
     obtain ⟨H0n, gn, rn⟩ := yl v Hn y
     have hDn : H' Dl ≠ none := by rw [hD']; exact λ z => nomatch z
     refine og v _ Hn (λ σ2 H2 => tt σ2 H2 λ b H3 => if b = true then te σ2 H3 λ y H4 => ∃ acc, H4 Dl = some (.lst acc) /\ acc.length < sizeLine /\ (∃ H02 acc' us, RepS K B0 B1 Aw H02 (upd H4 Dl (.lst (acc ++ [y]))) (L2.wipe σ vs) (qak ρ vs) /\ Grow Hs0 Hs H02 (upd H4 Dl (.lst (acc ++ [y]))) /\ H02 Dl = none /\ (upd H4 Dl (.lst (acc ++ [y]))) Dl = some (.lst us) /\ Reps K H02 acc' us /\ qaG dg dt de (xs.drop (i + 1)) acc' (qak ρ vs) Qd)
       else ∃ H02 acc us, RepS K B0 B1 Aw H02 H3 (L2.wipe σ vs) (qak ρ vs) /\ Grow Hs0 Hs H02 H3 /\ H02 Dl = none /\ H3 Dl = some (.lst us) /\ Reps K H02 acc us /\ qaG dg dt de (xs.drop (i + 1)) acc (qak ρ vs) Qd) _ (hg B0 B1 Aw H0n Hn (L2.wipe σ vs) (qak ρ vs) x v (R'.grow gn) rn _ hq _ λ A2 σ2 ρ2 R2 o2 k2 => ?_) λ σ2 k2 e2 => ⟨e2.trans qhD, k2⟩
     refine ht B0 B1 A2 H0n Hn σ2 ρ2 R2 X.td0 _ k2 _ λ b H3 H4 R3 g3 k3 => ?_
     have gn3 := gn.trans g3
     cases b with
     | false => exact ⟨H3, acc, us, R'.grow gn3, g'.trans gn3, (gn3.nw Dl hDn).trans n', gn3.g1.at hD', Reps.mono gn3.g0 _ _ ra, k3⟩
     | true =>
       refine he B0 B1 A2 H3 H4 σ2 ρ2 R3 X _ k3 _ λ y u H5 H6 R4 g4 r4 k4 => ?_
       have gn4 := gn3.trans g4
       have n5 : H5 Dl = none := (gn4.nw Dl hDn).trans n'
       have rs := R'.grow gn4
       refine ⟨us, gn4.g1.at hD', by rw [ra.length]; exact Nat.lt_of_lt_of_le k4.1 (by decide), H5, acc ++ [y], us ++ [u], rs.other n5 nbD naD (.inr ⟨_, gn4.g1.at hD', qcW⟩), ?_, n5, upd_same, (Reps.mono gn4.g0 _ _ ra).append ⟨u, [], rfl, r4, rfl⟩, k4.2⟩
       have gg := g'.trans gn4
       exact ⟨gg.g0, qc6 gg.g1 hD, qbi gg.g2 n5, gg.nw, λ t => qdA (gg.tb t) (gn4.g1.at hD') qcW⟩
   · rw [hdr] at hq
     refine .inl ⟨hst hx, ?_⟩
     have gx : Grow Hs0 Hs (upd H0' Dl (.lst us)) H' := ⟨g'.g0.trans (same_upd n'), g'.g1, λ b o e => by
         by_cases hb : b = Dl
         · subst hb
           rw [upd_same] at e
           cases e
           exact hD'
         · rw [upd_ne hb] at e
           exact g'.g2 b o e, λ p hp => by
         have px : p ≠ Dl := λ z => hp (by rw [z]; exact hD)
         rw [upd_ne px]
         exact g'.nw p hp, λ t => qcn (g'.tb t)⟩
     exact q (.lst acc) (.ref Dl) _ H' (Rs.grow gx) (gs.trans gx) ⟨Dl, us, rfl, .inl (.inl upd_same), Reps.mono (same_upd n') _ _ ra⟩ hq
theorem qvQ (tk : L2N.Takes X (λ cls d _ H => E cls d H)) (hc : X.calm = true) (hN : X.N.Nodup) (hi : JI X Ed E tg iter ti di) (ok : BlkOk X.N X.env.scope scope own) (og : OwnG g (own.map (·.2)))
   (hg : ∀ (s : Shared) (H : Hp) (C : Addr) (cl : List (Str × Addr)) (fp : List Addr) (xe : Value -> Shared -> Prop), JG (X.blkX s H scope (compEnvC scope cl C X.env) fp xe) tg g dg)
   (ht : ∀ (s : Shared) (H : Hp) (C : Addr) (cl : List (Str × Addr)) (fp : List Addr) (xe : Value -> Shared -> Prop), JTs (X.blkX s H scope (compEnvC scope cl C X.env) fp xe) (λ _ => False) E0 ifs tt dt)
   (he : ∀ (s : Shared) (H : Hp) (C : Addr) (cl : List (Str × Addr)) (fp : List Addr) (xe : Value -> Shared -> Prop), Passes (L2N.CX X.prog X.w) (X.blkX s H scope (compEnvC scope cl C X.env) fp xe) E -> JE (X.blkX s H scope (compEnvC scope cl C X.env) fp xe) Ed E elt te de)
   (hs0 : X.stack = X.env :: X.outer := by rfl) (hf0 : X.env.frame = some X.env.locals := by rfl) (hs : ∀ x, foldedSetIterable iter X.env x = pure x := by intro _; rfl) :
   JE X Ed E (.ListComp elt [⟨tg, iter, ifs, 0⟩] scope pos) (tLc ti g tt te (own.map (·.2))) (qcm di dg dt de (own.map (·.2))) :=
 ⟨L2N.qyl hs0 hf0 tk hc hN hi.pe ok (λ s H C cl fp xe => (hg s H C cl fp xe).pe) (λ s H C cl fp xe => (ht s H C cl fp xe).pe) (λ s H C cl fp xe p => (he s H C cl fp xe p).pe) hs,
   qx5 hi.sim (hg X.s_0 X.H_0 0 [] [] λ _ _ => True).sim og (ht X.s_0 X.H_0 0 [] [] λ _ _ => True).sim (he X.s_0 X.H_0 0 [] [] (λ _ _ => True) λ _ _ _ _ _ _ _ _ => trivial).sim⟩
def rLeS : R2 := λ x y H Q => ∃ p q : Str, x = .str p /\ y = .str q /\ Q (.bl (!(decide (q.cps.toList < p.cps.toList)))) H
theorem qoV : OpR X (compareOp .LtE) rLeS := by
 intro pins s σ H x y v u Q I rx ry h
 obtain ⟨p, q, rfl, rfl, h⟩ := h
 obtain ⟨t, rfl⟩ := rx
 obtain ⟨t2, rfl⟩ := ry
 exact PySem.P.le_str ⟨.bl _, H, I, rfl, h⟩
def dLeS (x y : D) (Q : D -> Prop) : Prop := match x, y with
 | .str p, .str q => Q (.bl (!(decide (q.cps.toList < p.cps.toList))))
 | _, _ => False
theorem qny : qa0 K rLeS dLeS := by
 intro H0 H x y dx dy sm rx ry Qd h Q q
 unfold dLeS at h
 split at h
 · rename_i p r
   cases (show x = _ from rx)
   cases (show y = _ from ry)
   exact ⟨p, r, rfl, rfl, q (.bl _) _ H0 H (.refl sm) rfl h⟩
 · exact h.elim
theorem qu6 : ∀ x y Q, dLeS x y Q -> dLeS x y λ z => Q z /\ ∃ k, z = .bl k := λ x y Q h => by
 unfold dLeS at h ⊢
 split at h
 · exact ⟨h, _, rfl⟩
 · exact h.elim
theorem qCJ (ha : JE X Ed E a ta da) (hb : JE X Ed E b tb db) (hc : JE X Ed E c tc dc) (hm : lastMarks [.LtE, .LtE] [b, c] = false := by with_unfolding_all rfl) : JE X Ed E (.Compare a [.LtE, .LtE] [b, c] pos) (tChain rLeS rLeS ta tb tc) (qcp dLeS dLeS da db dc) :=
 ⟨pe_chain qoV qoV ha.pe hb.pe hc.pe hm, qlo qny qny ha.sim hb.sim hc.sim qu6⟩
def qoS (da : DE) (ρ : Rho) (Q : D -> Prop) : Prop := da ρ λ x => match x with
 | .str a => a.length <= 5592405 /\ Q (.str (Txt.upper a))
 | _ => False
theorem qyR (ho : JE X Ed E o ta da) (hbase : attributeBase o "upper" X.env (eval o X.env) = eval o X.env := by rfl) (hline : (apos.endLine == pos.line) = true := by rfl) :
   JE X Ed E (.Call (.Attribute o "upper" apos) [] [] pos) (tM0 (λ x xs H Q => ∃ a, x = .str a /\ xs = [] /\ a.length <= 5592405 /\ Q (.str (Txt.upper a)) H) ta) (qoS da) :=
 ⟨pe_m0 F.slot_str_upper F.type_str_upper mt_upper ho.pe hbase hline, λ B0 B1 A H0 H σ ρ R X Qd h Q q => ho.sim B0 B1 A H0 H σ ρ R X _ h _ λ x v H1 H2 R1 g1 r1 k1 => by
   split at k1
   · rename_i a
     cases (show v = _ from r1)
     exact ⟨⟨a, rfl⟩, a, rfl, rfl, k1.1, q (.str _) _ H1 H2 R1 g1 rfl k1.2⟩
   · exact k1.elim⟩
end
end DL
namespace DL
open PySem PySem.Spec PyProof.Rows L2
def NmW (v : D) : Prop := NmV v ∨ (∃ b, v = .bl b) ∨ (∃ xs, v = .tup xs) ∨ ∃ xs, v = .lst xs
def qei (ds : List D) (Q : D -> Prop) (Ed : DX -> Prop) : Prop := ∃ v : D, ds = [v] /\ NmW v /\ Q (.bl (qaw v))
theorem qkY {s : Str} (h : qaw (.str s) = true) : qaQ s := by
 unfold qaw at h
 simp only [Bool.and_eq_true, decide_eq_true_eq, List.all_eq_true, Bool.not_eq_true'] at h
 obtain ⟨⟨h1, h2⟩, h3⟩ := h
 refine ⟨s.cps.toList, by simp, ?_, ?_, λ c hc => qnf (h2 c hc), λ hm => ?_⟩
 · have e : s.cps.toList.length = s.length := by simp [Str.length]
   omega
 · have e : s.cps.toList.length = s.length := by simp [Str.length]
   omega
 · have z : wordsL.any (· == s) = true := List.any_eq_true.mpr ⟨s, hm, by simp⟩
   rw [h3] at z
   cases z
def qdD (C CN : Addr) (ds : List D) (Q : D -> Prop) (Ed : DX -> Prop) : Prop := ∃ v : D, ds = [.cls C, v] /\ NmW v /\ if qaw v = true then ∀ s : Str, v = .str s -> Q (pD C (tmF s Mv.one 1)) else Ed (CN, nmF v)
theorem qnk {g : DG} {te : DE} {ρ : Rho} {Q : D -> Prop} (f : D -> D) (bad : D -> Bool) : ∀ (xs acc : List D), acc.length + xs.length <= 100000 -> (∀ x ∈ xs, bad x = false -> ∀ K : D -> Prop, K (f x) -> g x ρ λ ρ' => te ρ' K) ->
   (∀ x, xs.find? bad = some x -> ∀ K : D -> Prop, g x ρ λ ρ' => te ρ' K) -> (xs.find? bad = none -> Q (.lst (acc ++ xs.map f))) -> qaG g dTs1 te xs acc ρ Q
 | [], acc, _, _, _, q => by
   have z := q rfl
   rw [List.map_nil, List.append_nil] at z
   exact z
 | x :: r, acc, hl, h1, h2, q => by
   rw [List.length_cons] at hl
   show g x ρ λ ρ' => te ρ' λ y => acc.length < 100000 /\ qaG g dTs1 te r (acc ++ [y]) ρ Q
   cases hb : bad x with
   | true => exact h2 x (by rw [List.find?_cons, hb]) _
   | false =>
     have hf : (x :: r).find? bad = r.find? bad := by rw [List.find?_cons, hb]
     refine h1 x List.mem_cons_self hb _ ⟨by omega, qnk f bad r (acc ++ [f x]) (by rw [List.length_append]; show acc.length + 1 + r.length <= 100000; omega) (λ y hy => h1 y (List.mem_cons_of_mem _ hy)) (λ y hy => h2 y (hf.trans hy)) λ hn => ?_⟩
     have z := q (hf.trans hn)
     rw [List.map_cons] at z
     rw [List.append_assoc]
     exact z
def strD : D -> Str
 | .str s => s
 | _ => Str.empty
def qdS (C CN : Addr) (ds : List D) (Q : D -> Prop) (Ed : DX -> Prop) : Prop := ∃ vs : List D, ds = [.tup vs] /\ ((∀ v ∈ vs, NmW v) /\ vs.length <= 100) /\ match vs.find? λ v => !qaw v with
 | some v => Ed (CN, nmF v)
 | none => Q (.lst (vs.map λ v => pD C (tmF (strD v) Mv.one 1)))
def wordsK : List Str := ["call", "curve", "cut", "define", "end", "keep", "let", "m", "mirror", "move", "never", "none", "nothing", "odd", "outline", "paint", "plain", "repeat", "solid", "stain", "turn", "wipe"]
def qcd (ds : List D) (Q : D -> Prop) (Ed : DX -> Prop) : Prop := ds = [] /\ Q (.lst (wordsK.map D.str))
def Val8 (v : D) : Prop := (∃ s : Str, v = .str s /\ s.length <= 50) ∨ v ∈ [D.non, .int 3, .bl true, .tup [], .tup [.str "a"], .lst [], .lst [.str "a"]]
theorem qnG : ∀ s ∈ wordsK, s.length <= 8 /\ (Txt.upper s).length <= 50 := by decide +kernel
theorem qn6 : (Str.ofString "s").length = 1 /\ (Str.ofString "n").length = 1 /\ (Str.ofString "").length = 0 := by decide +kernel
theorem qtw : ((Str.ofString "abcdefghijklmnopqrstuvwxyzABZ09 _-.~{")).cps.toList.length = 37 := by decide +kernel
theorem qAy {s : Str} (h : qaQ s) : s.length <= 8 := by
 obtain ⟨l, rfl, h1, h2, _⟩ := h
 show (l.toArray).size <= _
 simpa using h2
theorem qxs {ls : List Str} (h : ∀ s ∈ ls, s.length <= 1) (hl : ls.length <= 10) : (ls.map (·.length)).sum + ls.length * (Str.ofString "").length <= 16777216 /\ (Txt.join (Str.ofString "") ls).length <= 50 := by
 have z := sum_le (f := λ s : Str => s.length) (b := 1) (l := ls) h
 have l1 := qn6.2.2
 have j := StrLaws.join_length_le (Str.ofString "") ls
 have e2 : Txt.join (Str.ofString "") ls = Str.join (Str.ofString "") ls := StrLaws.glued_eq_join _ _
 rw [<- e2, l1] at j
 rw [l1]
 constructor <;> omega
def qfs (ds : List D) (Q : D -> Prop) (Ed : DX -> Prop) : Prop := ds = [.bag] /\ ∀ v, Val8 v -> Q v
theorem qf7 (n : Nat) (i : Int) : (qbu i n).length = n := by unfold qbu; rw [List.length_map, List.length_range]
theorem qxo {s : Str} : qaw (.str s) = true <-> (1 <= s.length /\ s.length <= 8) /\ (s.cps.toList.all λ c => decide (c ∈ (Str.ofString "abcdefghijklmnopqrstuvwxyz").cps.toList)) = true /\ s ∉ wordsK := by
 show ((decide (1 <= s.length /\ s.length <= 8) && (s.cps.toList.all λ c => decide (c ∈ (Str.ofString "abcdefghijklmnopqrstuvwxyz").cps.toList)) && !(wordsL.any (· == s))) = true) <-> _
 have e : wordsL.any (· == s) = true <-> s ∈ wordsK := by
   rw [List.any_eq_true]
   exact ⟨λ ⟨x, hx, h⟩ => by rw [<- (show x = s by simpa using h)]; exact hx, λ h => ⟨s, h, by simp⟩⟩
 simp only [Bool.and_eq_true, decide_eq_true_eq, Bool.not_eq_true', and_assoc]
 rw [<- Bool.not_eq_true (wordsL.any _), e]
theorem qsP (c : Nat) : decide (c ∈ (Str.ofString "abcdefghijklmnopqrstuvwxyz").cps.toList) = (!decide ([c] < (Str.ofString "a").cps.toList) && !decide ((Str.ofString "z").cps.toList < [c])) := by
 have e1 : (Str.ofString "a").cps.toList = [97] := by decide +kernel
 have e2 : (Str.ofString "z").cps.toList = [122] := by decide +kernel
 have e3 : ∀ a b : Nat, ([a] < [b]) <-> a < b := λ a b => by rw [List.cons_lt_cons_iff]; simp
 rw [e1, e2, Bool.eq_iff_iff]
 simp only [decide_eq_true_eq, Bool.and_eq_true, Bool.not_eq_true', decide_eq_false_iff_not, e3]
 rw [show (Str.ofString "abcdefghijklmnopqrstuvwxyz").cps.toList = _ from qh5]
 simp only [List.mem_cons, List.not_mem_nil, or_false]
 omega
theorem qyv (s : Str) : ((wordsK.map D.str).any λ z => deq z (.str s)) = decide (s ∈ wordsK) := by
 rw [List.any_map]
 by_cases h : s ∈ wordsK
 · rw [decide_eq_true h]
   exact List.any_eq_true.mpr ⟨s, h, by show (s == s) = true; simp⟩
 · rw [decide_eq_false h, <- Bool.not_eq_true]
   intro z
   obtain ⟨x, hx, he⟩ := List.any_eq_true.mp z
   exact h ((show x = s by simpa using (show (x == s) = true from he)) ▸ hx)
def qcB (ds : List D) (Q : D -> Prop) (Ed : DX -> Prop) : Prop := ∃ v, ds = [v] /\ Val8 v /\ Q (.bl (qaw v))
def topS (i : Nat) : Stmt := PySem.Challenge.pw_unseencurves_k08_names.main.body.getD i (.Pass ⟨0, 0, 0, 0⟩)
structure FG (K : PySem.W.Frag) (f : Addr) (oc : Value) (od : Option Addr) (n q : Str) (st : Stmt) (dv kv dc pm : Value) (an : Option Addr) (cd ct : Value) (sl : Array (Option Value)) : Prop where
 g : PySem.W.nsIn K mainGlobals n = some (some (.ref f))
 l : K.lookup f = some ⟨oc, od, .func (PySem.W.fnOf n q (defArgs st) (defBody st) (defScope st) dv kv dc pm an cd ct), sl⟩
 d : PySem.W.codeIn K cd q = true
 p : PySem.W.keepIn K (.ref f) = true
structure FM (K : PySem.W.Frag) (C f : Addr) (oc : Value) (od : Option Addr) (n q : Str) (st : Stmt) (dv kv dc pm : Value) (an : Option Addr) (cd ct : Value) (sl : Array (Option Value)) : Prop where
 g : PySem.W.findIn K (.ref C) n = some (some (.ref f))
 i : PySem.W.isFn K (.ref f) = true
 l : K.lookup f = some ⟨oc, od, .func (PySem.W.fnOf n q (defArgs st) (defBody st) (defScope st) dv kv dc pm an cd ct), sl⟩
 d : PySem.W.codeIn K cd q = true
 p : PySem.W.keepIn K (.ref f) = true
section
variable {K : PySem.W.Frag} {C f : Addr} {oc : Value} {od : Option Addr} {n q : Str} {st : Stmt} {dv kv dc pm : Value} {an : Option Addr} {cd ct : Value} {sl : Array (Option Value)}
theorem FG.F (z : FG K f oc od n q st dv kv dc pm an cd ct sl) : FunX K n q st f (PySem.W.fnOf n q (defArgs st) (defBody st) (defScope st) dv kv dc pm an cd ct) := qi8 z.l z.d z.p
theorem FM.F (z : FM K C f oc od n q st dv kv dc pm an cd ct sl) : FunX K n q st f (PySem.W.fnOf n q (defArgs st) (defBody st) (defScope st) dv kv dc pm an cd ct) := qi8 z.l z.d z.p
theorem FG.b (z : FG K f oc od n q st .none kv dc pm an cd ct sl) (ps : List Str) (h : ∀ us : List Value, us.length = ps.length -> bindArgs (PySem.W.fnOf n q (defArgs st) (defBody st) (defScope st) .none kv dc pm an cd ct) ⟨us, []⟩ = pure (ps.zip us) := by first
   | exact λ us hl => match us, hl with | [], _ => rfl
   | exact λ us hl => match us, hl with | [_], _ => rfl
   | exact λ us hl => match us, hl with | [_, _], _ => rfl
   | exact λ us hl => match us, hl with | [_, _, _], _ => rfl
   | exact λ us hl => match us, hl with | [_, _, _, _], _ => rfl
   | exact λ us hl => match us, hl with | [_, _, _, _, _], _ => rfl
   | exact λ us hl => match us, hl with | [_, _, _, _, _, _], _ => rfl) : Binds K (PySem.W.fnOf n q (defArgs st) (defBody st) (defScope st) .none kv dc pm an cd ct) ps [] := qia h
theorem FM.b (z : FM K C f oc od n q st .none kv dc pm an cd ct sl) (ps : List Str) (h : ∀ us : List Value, us.length = ps.length -> bindArgs (PySem.W.fnOf n q (defArgs st) (defBody st) (defScope st) .none kv dc pm an cd ct) ⟨us, []⟩ = pure (ps.zip us) := by first
   | exact λ us hl => match us, hl with | [], _ => rfl
   | exact λ us hl => match us, hl with | [_], _ => rfl
   | exact λ us hl => match us, hl with | [_, _], _ => rfl
   | exact λ us hl => match us, hl with | [_, _, _], _ => rfl
   | exact λ us hl => match us, hl with | [_, _, _, _], _ => rfl
   | exact λ us hl => match us, hl with | [_, _, _, _, _], _ => rfl
   | exact λ us hl => match us, hl with | [_, _, _, _, _, _], _ => rfl) : Binds K (PySem.W.fnOf n q (defArgs st) (defBody st) (defScope st) .none kv dc pm an cd ct) ps [] := qia h
end
theorem msc {N P : List Str} {sc : Scope} (h1 : sc.kind = .function := by rfl) (h2 : sc.isCoroutine = false := by rfl) (h3 : sc.isGenerator = false := by rfl) (h4 : N.Nodup := by decide +kernel) (h5 : N.take P.length = P := by rfl) (h6 : ∀ x ∈ P, sc.names.lookup x = some .local ∨ sc.names.lookup x = some .cell := by decide +kernel) (h7 : ∀ y ∈ sc.names, y.2 ≠ .free := by decide +kernel) : FnScope N P sc := ⟨h1, h2, h3, h4, h5, h6, h7⟩
theorem mhr {j k : Nat} {A : Around} (r : Room k A) (h : j <= k := by first | decide | omega) : Room j A := r.mono h
local macro_rules | `(tactic| simp? only [$as,*]) => `(tactic| simp -implicitDefEqProofs only [$as,*, qeR, qoC, qpy, qlK, qmw, qmE, qmt, dNeL, dEqL, dM, dMT, dMA, dS, dST, dSA, edM, edS, qmB, qpQ, qnY, dxOp, dxUn, ql5, qmG, qkX, qm8, qm6, qlz, qoE, dxB, qlv, dxOr, qpJ, dxIf, qqI, qlU, qqV, qlL, qmn, qlq, qpY, qrk, qoj, qpS, qlF, qkn, qlI, qom, qpP, qlT, qqb, dxRs, qmK, noE, qoU, qoD, qn9, qnq, qkk, qkJ, onI, qqT, qk9, dInK, dInT, seeR, D.Cln, Clns, Clnf, mk2, ok2, qb1, qa7, dkAt, put_same, wpOf, wpE, wpG, dEqO, qmg, qpU, qm0, qq1, dSlN, dMkV, dMkS, qqd, qpv, qph, qkc, qkw, qnS, qec, qj4, qkR, qpk, qrw, qqB, dOrW, dIfW, qod, qpM, qld, ofR, qo1, qqm, qnm, ql0, qqD, qlx, lOut, ofL, ofP, dSee, qqk, seeD, seeS, D.scal, qnd, qnp, dWhy, qbq, qen, qiS, mk1, mk3, ok3, qkf, qrj, qkd, qlw, qnT, ql3, qmJ, dDo, qpc, qmf, qpt, qpX, mOut, pOut, rOut, pgD, pgV, qo2, qhY, qnU, qoM, qlm, qkM, qqC, qlA, qp2, qq0, qpE, qmA, qpV, qgK, qfy, qlN, dInO, qqx, dSlT, qqa, qpq, qo0, qee, qfF, qeL, dCm, dSt, qiG, qju, dJs, dFmt, qeN, qp8, qfd, bx_w, eq_self, qgJ, qhE, qhc, qis, qfz, qfQ, qgn, qfm, dIxT, dIxK, qnc, qnB, qe7, qgf, qoL, qnl, qfB, dInN, qd0, qbA, List.any_cons, List.any_nil, dSlS, dVar, dC, lk, dOp, dUn, dI2, dI0, dI1, dAdd, dEqN, dNeN, dB, dAnd, dOr, dNot, qfJ, dOrV, qq6, dIf, dNil, qbD, dTup, dLst, dIx, onS, qc4, dSeq, dBrk, dCnt, qhA, dRet, qrm, dIfS, dName, qbU, qbS, qco, dAsg, dPar, qjZ, qqu, qpT, qgA, qh4, qmH, dFor, dCall, qeW, dCB, dFld, qe2, qi3, qkE, qfg, fget, fput, dIsi, qe9, qf8, qm7, dOwn, dBM, tyD, qcX, dAbs, qdW, dLen, qdE, qeh, qde, qpg, dSum, qcm, qak, dTs1, dZip, qoe, qnt, qow, qhB, dIxO, dApp, qrz, dFrz, dIsN, qqX, qcJ, qcp, dSl, dSlL, qiX, qid, List.set_cons_zero, List.set_cons_succ, List.cons_append, List.nil_append, List.append_nil, List.length_cons, List.length_nil, deq, deqs, D.isData, qah, true_and, and_true, beq_iff_eq, bne_iff_ne, decide_eq_true_eq, Bool.not_true, Bool.not_false, Bool.false_eq_true, Bool.true_eq_false, if_true, if_false, Bool.and_true, Bool.true_and, Bool.and_false, Bool.false_and, Bool.or_true, Bool.true_or, Bool.or_false, Bool.false_or, Nat.reduceAdd, Nat.reduceSub, Nat.reduceLeDiff, Nat.reduceLT, qkH, qrC, qme, qp6, ql9, qo6, qns, qmC, qqy, qqv, qqW, qmZ, qo7, qlY, qmW, qqi, qk1, qlO, qn3, qm1, qof, qoW, qlJ, qov, qk5, ql4, qnM, qnQ, qoN, qkA, qi0, qnv, qmi, qps, qky, qoz, qoA, qrl, qoX, qkI, qnD, qku, qoF, qnz, qkm, qlW, qms, qnK, qq2, qkx, qkD, qpf, qrF, qok, qpm, qlE, qqR, qrn, qqM, List.length_set, List.length_map, List.length_append])
local macro_rules | `(tactic| walk_at "dl") => `(tactic| ((try simp -implicitDefEqProofs only [qai]); simp? only [qeR]))
local macro_rules | `(tactic| walk_at "dls") => `(tactic| simp? only [qeR])
local macro_rules | `(tactic| walk_at "blk") => `(tactic| first | rfl | (dsimp only [Cx.blk]; done) | (dsimp only [Cx.blk]; rfl))
section
variable [TbC] {P : Program} {w : World} {K : PySem.W.Frag} {mg : Str -> Option Value} {base : Heap} {qaI : Addr} {qaO : Addr} {qar : Addr} {qap : Addr}
structure Txt (K : PySem.W.Frag) (mg : Str -> Option Value) (qaI : Addr) (qaO : Addr) (qar : Addr) (qap : Addr) : Prop where
 qdk : NoAttr K qap "depth"
 qdq : NoAttr K qap "form"
 qcQ : NoAttr K qap "size"
 qbH : Cls K qap
 d_LETTERS : CD K mg "LETTERS" (.str "abcdefghijklmnopqrstuvwxyz")
 d_NONE : CD K mg "NONE" (.tup [.str "none"])
 d_NOTHING : CD K mg "NOTHING" (.tup [.tup [], .tup []])
 d_WORDS : CD K mg "WORDS" (.tup [.str "call", .str "curve", .str "cut", .str "define", .str "end", .str "keep", .str "let", .str "m", .str "mirror", .str "move", .str "never", .str "none", .str "nothing", .str "odd", .str "outline", .str "paint", .str "plain", .str "repeat", .str "solid", .str "stain", .str "turn", .str "wipe"])
 qes : ∃ t, mg "MOST_DEPTH" = some (.int 20 t)
 qeE : ∃ t, mg "MOST_SHIFT" = some (.int 1000000000000 t)
 qeg : ∃ t, mg "MOST_SIZE" = some (.int 300 t)
 qc2 : ∃ t, mg "MOST_TIMES" = some (.int 1000000000000 t)
 m_Path : mg "Path" = some (.ref qap)
 qbm : mg "abs" = none
 qcE : mg "all" = none
 qb5 : mg "bool" = none
 qa4 : mg "int" = none
 qaR : mg "isinstance" = none
 qbt : mg "len" = none
 qbQ : mg "list" = none
 qcI : mg "max" = none
 qcr : mg "range" = none
 qb8 : mg "sorted" = none
 qbz : mg "str" = none
 qdU : mg "sum" = none
 qbk : mg "tuple" = none
 qdB : mg "zip" = none
abbrev qeQ : Stmt := inClass (topS 3) 0
abbrev qeX : Stmt := topS 14
abbrev qiJ : List Str := ["pairs", "sums", "unknown", "times"]
theorem sc_merged_terms : FnScope qiJ ["pairs"] (defScope qeX) := msc
abbrev qiQ : Stmt := topS 24
abbrev qpl : List Str := ["times"]
theorem qvN : FnScope qpl ["times"] (defScope qiQ) := msc
abbrev qh1 : Stmt := topS 25
abbrev qpx : List Str := ["unknown", "name", "dx", "dy", "turns", "mirrored", "tail"]
theorem sc_unknown_text : FnScope qpx ["unknown"] (defScope qh1) := msc
abbrev qfn : Stmt := topS 27
abbrev qqo : List Str := ["node"]
theorem qr0 : FnScope qqo ["node"] (defScope qfn) := msc
abbrev qdt : Stmt := topS 26
abbrev qgo : List Str := ["form", "pieces", "unknown", "times", "node", "text", "piece", "sign"]
theorem sc_form_text : FnScope qgo ["form"] (defScope qdt) := msc
abbrev qfW : Stmt := topS 15
abbrev qhq : List Str := ["pairs", "sums", "nodes", "node", "times", "text"]
theorem sc_merged_outlines : FnScope qhq ["pairs"] (defScope qfW) := msc
abbrev qfS : Stmt := topS 29
abbrev qn2 : List Str := ["node"]
theorem qtu : FnScope qn2 ["node"] (defScope qfS) := msc
abbrev qdM : Stmt := topS 28
abbrev qhI : List Str := ["form", "node", "times"]
theorem sc_form_size : FnScope qhI ["form"] (defScope qdM) := msc
abbrev qfL : Stmt := topS 31
abbrev qk8 : List Str := ["node"]
theorem qyg : FnScope qk8 ["node"] (defScope qfL) := msc
abbrev qeA : Stmt := topS 30
abbrev qin : List Str := ["form", "node", "times"]
theorem sc_form_depth : FnScope qin ["form"] (defScope qeA) := msc
abbrev qd2 : Stmt := topS 33
abbrev qjS : List Str := ["node", "unknown"]
theorem sc_node_unknowns : FnScope qjS ["node"] (defScope qd2) := msc
abbrev qdx : Stmt := topS 32
abbrev qfV : List Str := ["form", "found", "unknown", "times", "node"]
theorem sc_form_unknowns : FnScope qfV ["form"] (defScope qdx) := msc
abbrev qjd : Stmt := topS 41
abbrev qke : List Str := ["size", "depth"]
theorem qtS : FnScope qke ["size", "depth"] (defScope qjd) := msc
abbrev qhR : Stmt := topS 43
abbrev qou : List Str := ["unknowns", "unknown", "far"]
theorem sc_check_shifts : FnScope qou ["unknowns"] (defScope qhR) := msc
abbrev qj7 : Stmt := topS 42
abbrev qoa : List Str := ["form", "unknown", "times", "node"]
theorem sc_check_times : FnScope qoa ["form"] (defScope qj7) := msc
abbrev qgN : Stmt := topS 21
abbrev qrr : List Str := ["numbers", "found", "number"]
theorem sc_divisor : FnScope qrr ["numbers"] (defScope qgN) := msc
abbrev qbR : Stmt := topS 22
abbrev qcf : List Str := ["kind", "form", "terms", "unknown", "times", "outlines", "node", "numbers", "by"]
theorem sc_question : FnScope qcf ["kind", "form"] (defScope qbR) := msc
abbrev qfX : Stmt := topS 40
abbrev qhs : List Str := ["value", "letter"]
theorem sc_is_name : FnScope qhs ["value"] (defScope qfX) := msc
abbrev qey : Stmt := inClass (topS 44) 0
abbrev qqz : List Str := ["self", "form"]
theorem qBi : FnScope qqz ["self", "form"] (defScope qey) := msc
abbrev qcy : Stmt := inClass (topS 44) 1
abbrev qlR : List Str := ["cls", "name"]
theorem qBT : FnScope qlR ["cls", "name"] (defScope qcy) := msc
abbrev qhU : Stmt := inClass (topS 44) 12
abbrev qog : List Str := ["self"]
theorem qyx : FnScope qog ["self"] (defScope qhU) := msc
abbrev qcF : Stmt := topS 45
abbrev qgR : List Str := ["names", "name"]
theorem sc_curves_of : FnScope qgR ["names"] (defScope qcF) := msc
abbrev qeo : Stmt := topS 47
abbrev qj0 : List Str := ["_law_script"]
theorem qx6 : FnScope qj0 ["_law_script"] (defScope qeo) := msc
abbrev qjr : Stmt := topS 48
abbrev qqS : List Str := ["_law_bag_here", "_law_many", "_law_cell", "_law_small", "_law_digit", "_law_seed", "_law_step"]
theorem sc_law_pull : FnScope qqS ["_law_bag_here", "_law_many"] (defScope qjr) := msc
abbrev qgI : Stmt := topS 49
abbrev qnL : List Str := ["_law_bag_here", "_law_things"]
theorem qtX : FnScope qnL ["_law_bag_here", "_law_things"] (defScope qgI) := msc
abbrev qdR : Stmt := topS 50
abbrev qhN : List Str := ["_law_found", "_law_due", "_law_a", "_law_b"]
theorem sc_law_same : FnScope qhN ["_law_found", "_law_due"] (defScope qdR) := msc
abbrev qhV : Stmt := topS 54
abbrev qlf : List Str := ["_law_bag_here", "_law_letters", "_law_text", "_law_k", "_law_taken"]
theorem sc_law_name : FnScope qlf ["_law_bag_here"] (defScope qhV) := msc
abbrev qj6 : Stmt := topS 55
abbrev qlg : List Str := []
theorem quF : FnScope qlg [] (defScope qj6) := msc
abbrev qgr : Stmt := topS 56
abbrev qik : List Str := ["_law_bag_here", "_law_way", "_law_word", "_law_letters", "_law_k"]
theorem sc_law_value : FnScope qik ["_law_bag_here"] (defScope qgr) := msc
abbrev qf1 : Stmt := topS 57
abbrev qhl : List Str := ["_law_value_here", "_law_letter"]
theorem sc_law_is_name : FnScope qhl ["_law_value_here"] (defScope qf1) := msc
abbrev qrf : Stmt := topS 52
abbrev qno : List Str := ["_law_e"]
theorem qvl : FnScope qno ["_law_e"] (defScope qrf) := msc
abbrev qll : Stmt := topS 51
abbrev qoR : List Str := ["_law_e"]
theorem qBN : FnScope qoR ["_law_e"] (defScope qll) := msc
abbrev qfN : Stmt := topS 53
abbrev qwd : List Str := ["_law_ask", "_law_e"]
theorem sc_law_why : FnScope qwd ["_law_ask"] (defScope qfN) := msc
abbrev qaX : Stmt := topS 58
abbrev qby : List Str := ["_law_script", "_law_bag_here", "_law_values", "_law_k", "_law_value_here", "_law_told", "_law_bad", "_law_path"]
theorem sc_law : FnScope qby ["_law_script"] (defScope qaX) := msc
variable {f : Addr} {fd : FuncData} (T : Txt K mg qaI qaO qar qap)
include T
omit T in
theorem qAl : ErrS ["self", "value"] (defScope qeQ) := ⟨rfl, rfl, rfl, rfl, rfl, by decide +kernel, by decide +kernel⟩
theorem qrJ (F : FunX K "merged_terms" "merged_terms" qeX f fd)  : FnOk P w K mg base (L2N.CX P w) 1 f fd ["pairs"] (SpW K qiI) := by
 refine fn_ok (k := 0) (N := qiJ) 4 rfl F sc_merged_terms (λ ds Q Ed h => ?_) (λ cdv A outer s H E hr ds Qd Ed hw => ⟨_, _,
   (qaf (qte 1 sc_merged_terms.nd)
   (qaf (qbM (passes_of rfl) rfl (qaA (qab 0)) (qaS rfl (qas (qam 2 sc_merged_terms.nd) (qas (qam 3 sc_merged_terms.nd) qaT)) (qaP [2, 3]))
   (qag (qzu 1 hr (qaD (qCy 1 hr (qab 2) qad (qpd)) (qab 3)) (qab 2))))
   (qag (st_ret (qf3 T.qbk (qaa (qaY rfl sc_merged_terms.nd (qaA (qAq 1 T.qb8 rfl)) (blkOk_by (own := [("unknown", 2)]) (N := qiJ) (sc := defScope qeX) (by decide +kernel)) qbe (λ _ _ _ _ _ => (qam 2 sc_merged_terms.nd)) (λ _ _ _ _ _ => qos (qil (t_ne hr (qla 1 hr (qab 2)) qad)) (by walk_at "blk") (by walk_at "blk")) (λ _ _ _ _ _ => qrx (qay (qaa (qab 2) (qaa (qla 1 hr (qab 2)) qac))) (by walk_at "blk") (by walk_at "blk"))) qac)))))), ?_⟩)
 · rcases h with ⟨_, rfl | rfl, _⟩ <;> rfl
 · obtain ⟨ps, hds, hl, hw⟩ := hw
   try simp -implicitDefEqProofs only [qai]
   rcases hds with rfl | rfl
   · simp -implicitDefEqProofs only [qai]
     refine qaJ (λ ρ => ∃ q, ρ = [some (.d (.lst (ps.map tmD))), some (.dt q w []), none, none]) (λ N hN => by walk_at "dls"; exact λ q => hN _ ⟨q, rfl⟩) ?_
     rintro _ ⟨q, rfl⟩
     refine qaJ (λ ρ => ∃ u v, ρ = [some (.d (.lst (ps.map tmD))), some (.dt q w (qaW (accU [] ps))), u, v]) (λ N hN => qbx (ps.map tmD) (λ N h => by walk_at "dl"; exact h) ?_) ?_
     · refine qbc (λ xs ρ => ∃ r acc u v, xs = r.map tmD /\ accU acc r = accU [] ps /\ acc.length + r.length <= 90000 /\ ρ = [some (.d (.lst (ps.map tmD))), some (.dt q w (qaW acc)), u, v]) _ _ ⟨ps, [], none, none, rfl, rfl, by simpa using hl, rfl⟩ (λ x r ρ hρ N2 hN2 => ?_) (λ ρ hρ => ?_)
       · obtain ⟨r', acc, u, v, e, ea, hl', rfl⟩ := hρ
         cases r' with
         | nil => simp at e
         | cons p r' =>
           simp only [List.map_cons, List.cons.injEq] at e
           obtain ⟨rfl, rfl⟩ := e
           simp? only [tmD]
           simp -implicitDefEqProofs only [U.tk, qmQ]
           rw [qp7]
           have hp := qgB acc p.1 (getU acc p.1 + p.2)
           simp only [List.length_cons] at hl'
           refine ⟨by simp only [qaW, List.length_map]; omega, hN2 _ ⟨r', putU acc p.1 (getU acc p.1 + p.2), _, _, rfl, ea, by omega, rfl⟩⟩
       · obtain ⟨r', acc, u, v, e, ea, hl', rfl⟩ := hρ
         have e' : r' = [] := by simpa using e.symm
         subst e'
         exact hN _ ⟨u, v, by rw [<- ea]; rfl⟩
     rintro _ ⟨u, v, rfl⟩
     walk_at "dls"
     refine ⟨(accU [] ps).map (·.1.k), U.sh, by simp only [qaW, List.map_map]; rfl, λ k hk => ?_, λ ys pm so => ?_⟩
     · obtain ⟨p, _, rfl⟩ := List.mem_map.mp hk
       exact p.1.shaped
     obtain ⟨N, rfl, pN⟩ := DS.qcG pm
     have nd : ((accU [] ps).map (·.1)).Nodup := qgv List.nodup_nil
     have eN : N = qdh (accU [] ps) := qcZ (λ a b => qfu) (pN.trans (qfA _).symm) (List.pairwise_map.mp so.1) (qjv nd)
     have lN : N.length <= 90000 := by
       have := qiU ps []
       rw [pN.length_eq]
       simp only [List.length_nil] at this
       omega
     have look : ∀ p ∈ N, valD (qaW (accU [] ps)) p.1.nk = some (.int p.2) := λ p hp => by
       rw [qeU]
       have hp' := pN.mem_iff.mp hp
       rw [qmR nd hp']
       rfl
     dsimp only
     rw [List.map_map]
     refine qaM (λ p : Tm => p.1.d) (λ p => if p.2 ≠ 0 then some (tmD p) else none) N [] (λ p hp K1 K0 k1 k0 => ?_) (by simpa using Nat.le_trans lN (by decide)) ?_
     · simp -implicitDefEqProofs only [qak, List.map_cons, List.map_nil, List.set_cons_succ, List.set_cons_zero]
       simp? only [U.tk, look p hp]
       by_cases h0 : p.2 = 0
       · exact if_n (by simp [h0]) (k0 (by simp [h0]))
       · exact if_y (by simp [h0]) (k1 _ (by simp [h0]; rfl))
     · simp only [List.nil_append]
       rw [qhG, eN]
       exact hw
   · simp -implicitDefEqProofs only [qai]
     refine qaJ (λ ρ => ∃ q, ρ = [some (.d (.tup (ps.map tmD))), some (.dt q w []), none, none]) (λ N hN => by walk_at "dls"; exact λ q => hN _ ⟨q, rfl⟩) ?_
     rintro _ ⟨q, rfl⟩
     refine qaJ (λ ρ => ∃ u v, ρ = [some (.d (.tup (ps.map tmD))), some (.dt q w (qaW (accU [] ps))), u, v]) (λ N hN => qbx (ps.map tmD) (λ N h => by walk_at "dl"; exact h) ?_) ?_
     · refine qbc (λ xs ρ => ∃ r acc u v, xs = r.map tmD /\ accU acc r = accU [] ps /\ acc.length + r.length <= 90000 /\ ρ = [some (.d (.tup (ps.map tmD))), some (.dt q w (qaW acc)), u, v]) _ _ ⟨ps, [], none, none, rfl, rfl, by simpa using hl, rfl⟩ (λ x r ρ hρ N2 hN2 => ?_) (λ ρ hρ => ?_)
       · obtain ⟨r', acc, u, v, e, ea, hl', rfl⟩ := hρ
         cases r' with
         | nil => simp at e
         | cons p r' =>
           simp only [List.map_cons, List.cons.injEq] at e
           obtain ⟨rfl, rfl⟩ := e
           simp? only [tmD]
           simp -implicitDefEqProofs only [U.tk, qmQ]
           rw [qp7]
           have hp := qgB acc p.1 (getU acc p.1 + p.2)
           simp only [List.length_cons] at hl'
           refine ⟨by simp only [qaW, List.length_map]; omega, hN2 _ ⟨r', putU acc p.1 (getU acc p.1 + p.2), _, _, rfl, ea, by omega, rfl⟩⟩
       · obtain ⟨r', acc, u, v, e, ea, hl', rfl⟩ := hρ
         have e' : r' = [] := by simpa using e.symm
         subst e'
         exact hN _ ⟨u, v, by rw [<- ea]; rfl⟩
     rintro _ ⟨u, v, rfl⟩
     walk_at "dls"
     refine ⟨(accU [] ps).map (·.1.k), U.sh, by simp only [qaW, List.map_map]; rfl, λ k hk => ?_, λ ys pm so => ?_⟩
     · obtain ⟨p, _, rfl⟩ := List.mem_map.mp hk
       exact p.1.shaped
     obtain ⟨N, rfl, pN⟩ := DS.qcG pm
     have nd : ((accU [] ps).map (·.1)).Nodup := qgv List.nodup_nil
     have eN : N = qdh (accU [] ps) := qcZ (λ a b => qfu) (pN.trans (qfA _).symm) (List.pairwise_map.mp so.1) (qjv nd)
     have lN : N.length <= 90000 := by
       have := qiU ps []
       rw [pN.length_eq]
       simp only [List.length_nil] at this
       omega
     have look : ∀ p ∈ N, valD (qaW (accU [] ps)) p.1.nk = some (.int p.2) := λ p hp => by
       rw [qeU]
       have hp' := pN.mem_iff.mp hp
       rw [qmR nd hp']
       rfl
     dsimp only
     rw [List.map_map]
     refine qaM (λ p : Tm => p.1.d) (λ p => if p.2 ≠ 0 then some (tmD p) else none) N [] (λ p hp K1 K0 k1 k0 => ?_) (by simpa using Nat.le_trans lN (by decide)) ?_
     · simp -implicitDefEqProofs only [qak, List.map_cons, List.map_nil, List.set_cons_succ, List.set_cons_zero]
       simp? only [U.tk, look p hp]
       by_cases h0 : p.2 = 0
       · exact if_n (by simp [h0]) (k0 (by simp [h0]))
       · exact if_y (by simp [h0]) (k1 _ (by simp [h0]; rfl))
     · simp only [List.nil_append]
       rw [qhG, eN]
       exact hw
theorem qBo (F : FunX K "times_text" "times_text" qiQ f fd)  : FnOk P w K mg base (L2N.CX P w) 1 f fd ["times"] (SpW K qd9) := by
 refine fn_ok (k := 0) (N := qpl) 1 rfl F qvN (λ ds Q Ed h => ?_) (λ cdv A outer s H E hr ds Qd Ed hw => ⟨_, _,
   (qag (st_ret (e_if (t_eq hr (qab 0) qad) qae (qd3 (.cons (qbh (qab 0)) (.cons qae .nil)))))), ?_⟩)
 · obtain ⟨_, rfl, _⟩ := h
   rfl
 · obtain ⟨n, rfl, hn, hw⟩ := hw
   try simp -implicitDefEqProofs only [qai]
   walk_at "dl"
   by_cases h1 : n = 1
   · subst h1
     exact if_y (by decide) (by simpa [qcj] using hw)
   · refine if_n (by simpa using h1) ⟨hn.log, ?_⟩
     rw [Str.empty_append]
     unfold qcj at hw
     rw [if_neg h1] at hw
     exact ⟨qbf (Nat.le_trans hn.len (by decide)), qbf (Nat.le_trans (qbL hn.len (qa6 " * " 3 (by decide))) (by decide)), hw⟩
theorem qtP (F : FunX K "unknown_text" "unknown_text" qh1 f fd)  : FnOk P w K mg base (L2N.CX P w) 1 f fd ["unknown"] (SpW K qeV) := by
 refine fn_ok (k := 0) (N := qpx) 7 rfl F sc_unknown_text (λ ds Q Ed h => ?_) (λ cdv A outer s H E hr ds Qd Ed hw => ⟨_, _,
   (qaf (qyN (qab 0) (qaS rfl (qas (qam 1 sc_unknown_text.nd) (qas (qam 2 sc_unknown_text.nd) (qas (qam 3 sc_unknown_text.nd) (qas (qam 4 sc_unknown_text.nd) (qas (qam 5 sc_unknown_text.nd) qaT))))) (qaP [1, 2, 3, 4, 5])))
   (qaf (qat (t_eq hr (qay (qaa (qab 2) (qaa (qab 3) (qaa (qab 4) (qaa (qab 5) qac))))) (qay (qaa qad (qaa qad (qaa qad (qaa qad qac))))))
   (qag (st_ret (qab 1)))
   qau)
   (qaf (st_set 6 sc_unknown_text.nd (e_if (t_eq hr (qab 5) qad) qae qae))
   (qag (st_ret (qd3 (.cons (qbh (qab 1)) (.cons qae (.cons (qbh (qab 2)) (.cons qae (.cons (qbh (qab 3)) (.cons qae (.cons (qbh (qab 4)) (.cons (qbh (qab 6)) (.cons qae .nil))))))))))))))), ?_⟩)
 · obtain ⟨_, rfl, _⟩ := h
   rfl
 · obtain ⟨u, rfl, hu, hw⟩ := hw
   try simp -implicitDefEqProofs only [qai]
   simp? only [U.d]
   simp -implicitDefEqProofs only [show ∀ i : Int, Str.ofString (toString i) = itx i from λ _ => rfl, Str.empty_append]
   have l1 : (Str.ofString "[").length = 1 := rfl
   have l2 : (Str.ofString " ").length = 1 := rfl
   have l3 : (Str.ofString " m").length = 2 := rfl
   have l4 : (Str.ofString "]").length = 1 := rfl
   have l5 : (Str.ofString "").length = 0 := rfl
   have n0 := hu.n
   have x0 := hu.x.len
   have y0 := hu.y.len
   have t0 := hu.t.len
   unfold U.tx at hw
   by_cases h0 : u.f.x = 0 /\ u.f.y = 0 /\ u.f.t = 0 /\ u.f.m = 0
   · rw [if_pos h0] at hw
     exact if_y (by simp [h0.1, h0.2.1, h0.2.2.1, h0.2.2.2]) hw
   · rw [if_neg h0] at hw
     refine if_n (by simpa using h0) ?_
     unfold mTx at hw
     by_cases hm : u.f.m = 1
     · rw [if_pos hm] at hw ⊢
       exact ⟨by simp only [Str.length_append, l1, l2, l3, l4, l5, sizeLine_eq]; omega, by simp only [Str.length_append, l1, l2, l3, l4, l5, sizeLine_eq]; omega, by simp only [Str.length_append, l1, l2, l3, l4, l5, sizeLine_eq]; omega, hu.x.log, by simp only [Str.length_append, l1, l2, l3, l4, l5, sizeLine_eq]; omega, by simp only [Str.length_append, l1, l2, l3, l4, l5, sizeLine_eq]; omega, hu.y.log, by simp only [Str.length_append, l1, l2, l3, l4, l5, sizeLine_eq]; omega, by simp only [Str.length_append, l1, l2, l3, l4, l5, sizeLine_eq]; omega, hu.t.log, by simp only [Str.length_append, l1, l2, l3, l4, l5, sizeLine_eq]; omega, by simp only [Str.length_append, l1, l2, l3, l4, l5, sizeLine_eq]; omega, by simp only [Str.length_append, l1, l2, l3, l4, l5, sizeLine_eq]; omega, by simp only [Str.length_append, l1, l2, l3, l4, l5, sizeLine_eq]; omega, hw⟩
     · rw [if_neg hm] at hw ⊢
       exact ⟨by simp only [Str.length_append, l1, l2, l3, l4, l5, sizeLine_eq]; omega, by simp only [Str.length_append, l1, l2, l3, l4, l5, sizeLine_eq]; omega, by simp only [Str.length_append, l1, l2, l3, l4, l5, sizeLine_eq]; omega, hu.x.log, by simp only [Str.length_append, l1, l2, l3, l4, l5, sizeLine_eq]; omega, by simp only [Str.length_append, l1, l2, l3, l4, l5, sizeLine_eq]; omega, hu.y.log, by simp only [Str.length_append, l1, l2, l3, l4, l5, sizeLine_eq]; omega, by simp only [Str.length_append, l1, l2, l3, l4, l5, sizeLine_eq]; omega, hu.t.log, by simp only [Str.length_append, l1, l2, l3, l4, l5, sizeLine_eq]; omega, by simp only [Str.length_append, l1, l2, l3, l4, l5, sizeLine_eq]; omega, by simp only [Str.length_append, l1, l2, l3, l4, l5, sizeLine_eq]; omega, by simp only [Str.length_append, l1, l2, l3, l4, l5, sizeLine_eq]; omega, hw⟩
theorem qrI (F : FunX K "node_text" "node_text" qfn f fd) {n : Nat} (qdJ : Callee P w K mg base "form_text" (2 * n + 2) (qgj n) [] []) (qcb : Callee P w K mg base "node_text" (2 * n + 1) (qdf n) [] []) : FnOk P w K mg base (L2N.CX P w) (2 * n + 3) f fd ["node"] (SpW K (qdf (n + 1))) := by
 refine fn_ok (k := 2 * n + 2) (N := qqo) 1 rfl F qr0 (λ ds Q Ed h => ?_) (λ cdv A outer s H E hr ds Qd Ed hw => ⟨_, _,
   (qaf (qat (t_eq hr (qab 0) (e_cD T.d_NONE))
   (qag (st_ret qae))
   qau)
   (qaf (qat (t_in hr (e_ix (qab 0) qad) (qay (qaa qae (qaa qae qac))))
   (qag (st_ret (qd3 (.cons (qbh (e_ix (qab 0) qad)) (.cons qae (.cons (qbh (qan qdJ (mhr hr) qaq (qaa (e_ix (qab 0) qad) qac))) (.cons qae .nil)))))))
   qau)
   (qag (st_ret (qd3 (.cons qae (.cons (qbh (qan qcb (mhr hr) qaq (qaa (e_ix (qab 0) qad) qac))) (.cons qae (.cons (qbh (e_ix (qab 0) qad)) (.cons qae (.cons (qbh (qan qcb (mhr hr) qaq (qaa (e_ix (qab 0) qad) qac))) (.cons qae .nil)))))))))))), ?_⟩)
 · obtain ⟨_, rfl, _⟩ := h
   rfl
 · obtain ⟨nd, rfl, ht, hm, ok, sz, hw⟩ := hw
   have hd : nd.d.isData 150 = true := qbI (by omega) (nd.data n (by omega))
   have ln := nd.tx_len ok
   cases nd with
   | non =>
     simp -implicitDefEqProofs only [qai, Nd.d]
     walk_at "dls"
     exact hw
   | ask o ts os =>
     have hd' : (qah 147 (ts.map tmD) && qah 147 (osD os)) = true := by simpa [Nd.d, D.isData, qah] using hd
     simp -implicitDefEqProofs only [qai, Nd.d]
     walk_at "dls"
     simp only [Nd.ht] at ht
     simp only [Nd.size] at sz
     refine ⟨hd', if_y (by cases o <;> decide) ?_⟩
     have e : (Nd.ask o ts os).tx = kindS o ++ "(" ++ fmT ts os ++ ")" := rfl
     rw [e] at ln hw
     simp only [Str.length_append, Nd.size] at ln
     rw [Str.empty_append]
     exact ⟨by simp only [Str.length_append, sizeLine_eq]; omega, by simp only [Str.length_append, sizeLine_eq]; omega, by simp only [Str.length_append, sizeLine_eq]; omega, ts, os, rfl, by omega, by omega, ok, by omega, by simp only [Str.length_append, sizeLine_eq]; omega, by simp only [Str.length_append, sizeLine_eq]; omega, by simp only [Str.length_append, sizeLine_eq]; omega, hw⟩
   | jn sg a b =>
     have hd' : (D.isData 149 a.d && D.isData 149 b.d) = true := by simpa [Nd.d, D.isData, qah] using hd
     simp -implicitDefEqProofs only [qai, Nd.d]
     walk_at "dls"
     simp only [Nd.ht] at ht
     simp only [Nd.size] at sz
     refine ⟨hd', if_n (by cases sg <;> decide) ?_⟩
     have e : (Nd.jn sg a b).tx = "(" ++ a.tx ++ " " ++ sg.s ++ " " ++ b.tx ++ ")" := rfl
     rw [e] at ln hw
     simp only [Str.length_append, Nd.size] at ln
     rw [Str.empty_append]
     exact ⟨by simp only [Str.length_append, sizeLine_eq]; omega, a, rfl, by omega, by omega, ok.1, by omega, by simp only [Str.length_append, sizeLine_eq]; omega, by simp only [Str.length_append, sizeLine_eq]; omega, by simp only [Str.length_append, sizeLine_eq]; omega, by simp only [Str.length_append, sizeLine_eq]; omega, by simp only [Str.length_append, sizeLine_eq]; omega, by simp only [Str.length_append, sizeLine_eq]; omega, b, rfl, by omega, by omega, ok.2, by omega, by simp only [Str.length_append, sizeLine_eq]; omega, by simp only [Str.length_append, sizeLine_eq]; omega, by simp only [Str.length_append, sizeLine_eq]; omega, hw⟩
theorem qqF (F : FunX K "form_text" "form_text" qdt f fd) {n : Nat} (qhe : Callee P w K mg base "times_text" 1 qd9 [] []) (qgE : Callee P w K mg base "unknown_text" 1 qeV [] []) (qcb : Callee P w K mg base "node_text" (2 * n + 1) (qdf n) [] []) : FnOk P w K mg base (L2N.CX P w) (2 * n + 2) f fd ["form"] (SpW K (qgj n)) := by
 refine fn_ok (k := 2 * n + 1) (N := qgo) 8 rfl F sc_form_text (λ ds Q Ed h => ?_) (λ cdv A outer s H E hr ds Qd Ed hw => ⟨_, _,
   (qaf (qem (i := 1) rfl sc_form_text.nd rfl rfl (sw_true rfl rfl rfl (by decide +kernel)) (qaA (e_ix (qab 0) qad)) (blkOk_by (own := [("unknown", 2), ("times", 3)]) (N := qgo) (sc := defScope qdt) (by decide +kernel)) (qbr (qaF (qaF qbj))) (λ _ _ _ _ _ => (qaS rfl (qas (qam 2 sc_form_text.nd) (qas (qam 3 sc_form_text.nd) qaT)) (qaP [2, 3]))) (λ _ _ _ _ _ => qaH qaK (by walk_at "blk")) (λ _ _ _ _ _ => qaE (qay (qaa (qbW (qab 3) (qvo qad (qbW qad (e_ix (qab 2) qad)))) (qaa (qan qgE (mhr hr) qbJ (qaa (qab 2) qac)) qac))) (by walk_at "blk")))
   (qaf (st_set 1 sc_form_text.nd (qf4 (qab 1) (qaY rfl sc_form_text.nd (qaA (e_ix (qab 0) qad)) (blkOk_by (own := [("node", 4), ("times", 3)]) (N := qgo) (sc := defScope qdt) (by decide +kernel)) (qbr (qaF (qaF qbj))) (λ _ _ _ _ _ => (qaS rfl (qas (qam 4 sc_form_text.nd) (qas (qam 3 sc_form_text.nd) qaT)) (qaP [4, 3]))) (λ _ _ _ _ _ => qaH qaK (by walk_at "blk")) (λ _ _ _ _ _ => qaE (qay (qaa (qab 3) (qaa (qd3 (.cons qae (.cons (qbh (qan qcb (mhr hr) qbJ (qaa (qab 4) qac))) (.cons qae .nil)))) qac))) (by walk_at "blk")))))
   (qaf (qat (t_eq hr (qab 1) (qbp qac))
   (qag (st_ret qae))
   qau)
   (qaf (st_set 5 sc_form_text.nd qae)
   (qaf (qbM (passes_of rfl) rfl (qaA (qab 1)) (qaS rfl (qas (qam 3 sc_form_text.nd) (qas (qam 6 sc_form_text.nd) qaT)) (qaP [3, 6]))
   (qaf (st_set 7 sc_form_text.nd (e_if (t_lt (qab 3) qad) qae qae))
   (qaf (qat (t_eq hr (qab 5) qae)
   (qag (st_set 7 sc_form_text.nd (e_if (t_lt (qab 3) qad) qae qae)))
   qau)
   (qag (st_set 5 sc_form_text.nd (qaD (qaD (qaD (qab 5) (qab 7)) (qan qhe (mhr hr) qaq (qaa (qcg T.qbm (qaa (qab 3) qac)) qac))) (qab 6)))))))
   (qag (st_ret (qab 5)))))))), ?_⟩)
 · obtain ⟨_, _, rfl, _⟩ := h
   rfl
 · obtain ⟨ts, os, rfl, ht, hm, ok, sz, hw⟩ := hw
   simp -implicitDefEqProofs only [qai, fmD]
   refine qav [some (.d (fmD ts os)), some (.d (.lst (ts.map λ p => pcD (tmP p)))), none, none, none, none, none, none] (λ N hN => ?_) ?_
   · walk_at "dls"
     refine qaM tmD (λ p => some (pcD (tmP p))) ts [] (λ p hp K1 K0 k1 _ => ?_) (by have := ok.1; simp only [List.length_nil]; omega) ?_
     · simp -implicitDefEqProofs only [qak, List.map_cons, List.map_nil, List.set_cons_succ, List.set_cons_zero, tmD]
       simp? only [U.d]
       obtain ⟨hu, hk⟩ := ok.2.2.1 p hp
       exact ⟨.inl (by decide), .inr (by rcases hu.m with e | e <;> rw [e] <;> decide), p.1, rfl, hu, k1 _ rfl⟩
     · rw [List.nil_append, qa9]
       exact hN
   refine qav [some (.d (fmD ts os)), some (.d (.lst ((ts.map tmP ++ osP os).map pcD))), none, none, none, none, none, none] (λ N hN => ?_) ?_
   · simp? only [fmD]
     rw [qaL]
     refine qaM outD (λ p => some (pcD (p.2, (("outline(" : Str) ++ p.1.tx ++ (")" : Str) : Str)))) os [] (λ p hp K1 K0 k1 _ => ?_) (by have := ok.2.1; simp only [List.length_nil]; omega) ?_
     · simp -implicitDefEqProofs only [qak, List.map_cons, List.map_nil, List.set_cons_succ, List.set_cons_zero, outD]
       walk_at "dls"
       have z := qmX p hp
       have z2 := Nd.tx_len p.1 (ok.2.2.2.mem p hp).1
       have l1 : (Str.ofString "outline(").length = 8 := rfl
       have l2 : (Str.ofString ")").length = 1 := rfl
       rw [Str.empty_append]
       exact ⟨by simp only [Str.length_append, sizeLine_eq, l1, l2]; omega, p.1, rfl, qbO ht p hp, hm, (ok.2.2.2.mem p hp).1, by omega, by simp only [Str.length_append, sizeLine_eq, l1, l2]; omega, by simp only [Str.length_append, sizeLine_eq, l1, l2]; omega, by simp only [Str.length_append, sizeLine_eq, l1, l2]; omega, k1 _ rfl⟩
     · rw [List.nil_append, qa9]
       have hN' := hN
       rw [qel, List.map_append, List.map_map, List.map_map] at hN'
       unfold fmD at hN'
       rw [qaL] at hN'
       refine ⟨?_, hN'⟩
       have := ok.1
       have := ok.2.1
       simp only [List.length_map]
       omega
   have hlp : lenP (ts.map tmP ++ osP os) <= 4000000 := by
     have z1 := qgs ok.2.2.1
     have z2 := qfq os ok.2.2.2
     rw [qg9]
     omega
   have hsm : ∀ p ∈ ts.map tmP ++ osP os, Sm p.1 := λ p hp => by
     rcases List.mem_append.mp hp with hp | hp
     · obtain ⟨q, hq, rfl⟩ := List.mem_map.mp hp
       exact qiA (ok.2.2.1 q hq).1 (ok.2.2.1 q hq).2
     · rw [qel] at hp
       obtain ⟨q, hq, rfl⟩ := List.mem_map.mp hp
       exact (ok.2.2.2.mem q hq).2
   have hw' : Qd (.str (qcO (ts.map tmP ++ osP os))) := hw
   have hdat : qah 149 ((ts.map tmP ++ osP os).map pcD) = true := all_map λ _ _ => rfl
   generalize ts.map tmP ++ osP os = ps at hlp hsm hw' hdat ⊢
   generalize fmD ts os = x0
   cases ps with
   | nil =>
     simp? only [List.map_nil]
     exact hw'
   | cons p0 r0 =>
     refine qav [some (.d x0), some (.d (.lst ((p0 :: r0).map pcD))), none, none, none, none, none, none] (λ N hN => ?_) ?_
     · simp -implicitDefEqProofs only [List.map_cons, qeR, qoC, qpy, qlK, qmw, qmE, qmt, dNeL, dEqL, dM, dMT, dMA, dS, dST, dSA, edM, edS, qmB, qpQ, qnY, dxOp, dxUn, ql5, qmG, qkX, qm8, qm6, qlz, qoE, dxB, qlv, dxOr, qpJ, dxIf, qqI, qlU, qqV, qlL, qmn, qlq, qpY, qrk, qoj, qpS, qlF, qkn, qlI, qom, qpP, qlT, qqb, dxRs, qmK, noE, qoU, qoD, qn9, qnq, qkk, qkJ, onI, qqT, qk9, dInK, dInT, seeR, D.Cln, Clns, Clnf, mk2, ok2, qb1, qa7, dkAt, put_same, wpOf, wpE, wpG, dEqO, qmg, qpU, qm0, qq1, dSlN, dMkV, dMkS, qqd, qpv, qph, qkc, qkw, qnS, qec, qj4, qkR, qpk, qrw, qqB, dOrW, dIfW, qod, qpM, qld, ofR, qo1, qqm, qnm, ql0, qqD, qlx, lOut, ofL, ofP, dSee, qqk, seeD, seeS, D.scal, qnd, qnp, dWhy, qbq, qen, qiS, mk1, mk3, ok3, qkf, qrj, qkd, qlw, qnT, ql3, qmJ, dDo, qpc, qmf, qpt, qpX, mOut, pOut, rOut, pgD, pgV, qo2, qhY, qnU, qoM, qlm, qkM, qqC, qlA, qp2, qq0, qpE, qmA, qpV, qgK, qfy, qlN, dInO, qqx, dSlT, qqa, qpq, qo0, qee, qfF, qeL, dCm, dSt, qiG, qju, dJs, dFmt, qeN, qp8, qfd, bx_w, eq_self, qgJ, qhE, qhc, qis, qfz, qfQ, qgn, qfm, dIxT, dIxK, qnc, qnB, qe7, qgf, qoL, qnl, qfB, dInN, qd0, qbA, List.any_cons, List.any_nil, dSlS, dVar, dC, lk, dOp, dUn, dI2, dI0, dI1, dAdd, dEqN, dNeN, dB, dAnd, dOr, dNot, qfJ, dOrV, qq6, dIf, dNil, qbD, dTup, dLst, dIx, onS, qc4, dSeq, dBrk, dCnt, qhA, dRet, qrm, dIfS, dName, qbU, qbS, qco, dAsg, dPar, qjZ, qqu, qpT, qgA, qh4, qmH, dFor, dCall, qeW, dCB, dFld, qe2, qi3, qkE, qfg, fget, fput, dIsi, qe9, qf8, qm7, dOwn, dBM, tyD, qcX, dAbs, qdW, dLen, qdE, qeh, qde, qpg, dSum, qcm, qak, dTs1, dZip, qoe, qnt, qow, qhB, dIxO, dApp, qrz, dFrz, dIsN, qqX, qcJ, qcp, dSl, dSlL, qiX, qid, List.set_cons_zero, List.set_cons_succ, List.cons_append, List.nil_append, List.append_nil, List.length_cons, List.length_nil, deq, deqs, D.isData, qah, true_and, and_true, beq_iff_eq, bne_iff_ne, decide_eq_true_eq, Bool.not_true, Bool.not_false, Bool.false_eq_true, Bool.true_eq_false, if_true, if_false, Bool.and_true, Bool.true_and, Bool.and_false, Bool.false_and, Bool.or_true, Bool.true_or, Bool.or_false, Bool.false_or, Nat.reduceAdd, Nat.reduceSub, Nat.reduceLeDiff, Nat.reduceLT, qkH, qrC, qme, qp6, ql9, qo6, qns, qmC, qqy, qqv, qqW, qmZ, qo7, qlY, qmW, qqi, qk1, qlO, qn3, qm1, qof, qoW, qlJ, qov, qk5, ql4, qnM, qnQ, qoN, qkA, qi0, qnv, qmi, qps, qky, qoz, qoA, qrl, qoX, qkI, qnD, qku, qoF, qnz, qkm, qlW, qms, qnK, qq2, qkx, qkD, qpf, qrF, qok, qpm, qlE, qqR, qrn, qqM, List.length_set, List.length_map, List.length_append] at hdat hN ⊢
       exact ⟨hdat, hN⟩
     refine qav [some (.d x0), some (.d (.lst ((p0 :: r0).map pcD))), none, none, none, some (.d (.str "")), none, none] (λ N hN => by walk_at "dls"; exact hN) ?_
     refine qaJ (λ ρ => ∃ u3 u6 u7, ρ = [some (.d x0), some (.d (.lst ((p0 :: r0).map pcD))), none, u3, none, some (.d (.str (qdg "" (p0 :: r0)))), u6, u7]) (λ N hN => qbx ((p0 :: r0).map pcD) (λ N h => by walk_at "dls"; exact h) ?_) ?_
     · refine qbc (λ xs ρ => ∃ r acc u3 u6 u7, xs = r.map pcD /\ qdg acc r = qdg "" (p0 :: r0) /\ acc.length + lenP r <= 4000000 /\ (∀ p ∈ r, Sm p.1) /\ ρ = [some (.d x0), some (.d (.lst ((p0 :: r0).map pcD))), none, u3, none, some (.d (.str acc)), u6, u7]) _ _
         ⟨p0 :: r0, "", none, none, none, rfl, rfl, by have e : (("" : Str)).length = 0 := rfl; omega, hsm, rfl⟩ (λ x r ρ hρ N2 hN2 => ?_) (λ ρ hρ => ?_)
       · obtain ⟨r', acc, u3, u6, u7, e, ea, hl', hs', rfl⟩ := hρ
         cases r' with
         | nil => simp at e
         | cons p r' =>
           simp only [List.map_cons, List.cons.injEq] at e
           obtain ⟨rfl, rfl⟩ := e
           have hp := hs' p List.mem_cons_self
           have ep : lenP (p :: r') = (60 + p.2.length) + lenP r' := rfl
           have ht := qqs (n := p.1.natAbs) hp
           have hsg : (sgnT acc p.1).length <= 3 := by
             unfold sgnT
             split <;> split <;> decide
           have go : qd9 [.int p.1.natAbs] (λ z => dAdd (.str (acc ++ sgnT acc p.1)) z λ z => dAdd z (.str p.2) λ z => N2 [some (.d x0), some (.d (.lst ((p0 :: r0).map pcD))), none, some (.d (.int p.1)), none, some (.d z), some (.d (.str p.2)), some (.d (.str (sgnT acc p.1)))]) Ed := by
             refine ⟨_, rfl, hp, ?_, ?_, hN2 _ ⟨r', _, _, _, _, rfl, ea, ?_, λ q hq => hs' q (List.mem_cons_of_mem _ hq), rfl⟩⟩
             all_goals simp only [Str.length_append, sizeLine_eq]; omega
           have hal : acc.length + (sgnT acc p.1).length <= sizeLine := by
             simp only [sizeLine_eq]
             omega
           simp? only [pcD]
           have ab : (if p.1 < 0 then -p.1 else p.1) = (p.1.natAbs : Int) := by split <;> omega
           unfold sgnT at go hal
           rw [ab]
           by_cases h1 : p.1 < 0 <;> by_cases h2 : acc = Str.ofString "" <;> simp only [h1, h2, if_true, if_false] at go hal ⊢ <;> exact ⟨hal, go⟩
       · obtain ⟨r', acc, u3, u6, u7, e, ea, hl', hs', rfl⟩ := hρ
         have e' : r' = [] := by simpa using e.symm
         subst e'
         exact hN _ ⟨u3, u6, u7, by rw [<- ea]; rfl⟩
     rintro _ ⟨u3, u6, u7, rfl⟩
     walk_at "dls"
     exact hw'
omit T in
theorem qlG {f1 f2 : Addr} {fd1 fd2 : FuncData} (T : Txt K mg qaI qaO qar qap) (F1 : FunX K "node_text" "node_text" qfn f1 fd1) (F2 : FunX K "form_text" "form_text" qdt f2 fd2) (c1 : Callee P w K mg base "times_text" 1 qd9 [] []) (c2 : Callee P w K mg base "unknown_text" 1 qeV [] []) (g1 : mg "node_text" = some (.ref f1)) (g2 : mg "form_text" = some (.ref f2)) (b1 : Binds K fd1 ["node"] []) (b2 : Binds K fd2 ["form"] []) :
   ∀ n : Nat, FnOk P w K mg base (L2N.CX P w) (2 * n + 1) f1 fd1 ["node"] (SpW K (qdf n)) /\ FnOk P w K mg base (L2N.CX P w) (2 * n + 2) f2 fd2 ["form"] (SpW K (qgj n))
 | 0 =>
   have z : FnOk P w K mg base (L2N.CX P w) 1 f1 fd1 ["node"] (SpW K (qdf 0)) := qfZ λ _ _ _ ⟨_, _, h, _⟩ => Nat.not_lt_zero _ h
   ⟨z, qqF T F2 c1 c2 (qax F1 g1 z b1)⟩
 | n + 1 =>
   have ⟨h1, h2⟩ := qlG T F1 F2 c1 c2 g1 g2 b1 b2 n
   have z := qrI T F1 (qax F2 g2 h2 b2) (qax F1 g1 h1 b1)
   ⟨z, qqF T F2 c1 c2 (qax F1 g1 z b1)⟩
theorem qzi (F : FunX K "merged_outlines" "merged_outlines" qfW f fd) (qcb : Callee P w K mg base "node_text" 51 (qdf 25) [] []) : FnOk P w K mg base (L2N.CX P w) 53 f fd ["pairs"] (SpW K qiE) := by
 refine fn_ok (k := 52) (N := qhq) 6 rfl F sc_merged_outlines (λ ds Q Ed h => ?_) (λ cdv A outer s H E hr ds Qd Ed hw => ⟨_, _,
   (qaf (qpA 1 sc_merged_outlines.nd)
   (qaf (qpA 2 sc_merged_outlines.nd)
   (qaf (qbM (passes_of rfl) rfl (qaA (qab 0)) (qaS rfl (qas (qam 3 sc_merged_outlines.nd) (qas (qam 4 sc_merged_outlines.nd) qaT)) (qaP [3, 4]))
   (qaf (st_set 5 sc_merged_outlines.nd (qan qcb (mhr hr) qaq (qaa (qab 3) qac)))
   (qaf (qoJ 1 hr (qaD (qse 1 hr (qab 5) qad (qpd)) (qab 4)) (qab 5))
   (qag (qoJ 2 hr (qab 3) (qab 5))))))
   (qag (st_ret (qf3 T.qbk (qaa (qaY rfl sc_merged_outlines.nd (qaA (qw4 1 T.qb8 rfl)) (blkOk_by (own := [("text", 5)]) (N := qhq) (sc := defScope qfW) (by decide +kernel)) qbe (λ _ _ _ _ _ => (qam 5 sc_merged_outlines.nd)) (λ _ _ _ _ _ => qos (qil (t_w (w_and (t_ne hr (qgd 1 hr (qab 5)) qad) (qmq (t_ne hr (qgd 2 hr (qab 5)) (qpI T.d_NONE)))))) (by walk_at "blk") (by walk_at "blk")) (λ _ _ _ _ _ => qrx (qay (qaa (qgd 2 hr (qab 5)) (qaa (qgd 1 hr (qab 5)) qac))) (by walk_at "blk") (by walk_at "blk"))) qac))))))), ?_⟩)
 · rcases h with ⟨_, rfl | rfl, _⟩ <;> rfl
 · obtain ⟨ps, hds, hl, ht, hok, hw⟩ := hw
   try simp -implicitDefEqProofs only [qai]
   rcases hds with rfl | rfl
   · simp -implicitDefEqProofs only [qai]
     refine qaJ (λ ρ => ∃ q, ρ = [some (.d (.lst (osD ps))), some (.dk q []), none, none, none, none]) (λ N hN => by walk_at "dls"; exact λ q => hN _ ⟨q, rfl⟩) ?_
     rintro _ ⟨q, rfl⟩
     refine qaJ (λ ρ => ∃ q2, ρ = [some (.d (.lst (osD ps))), some (.dk q []), some (.dk q2 []), none, none, none]) (λ N hN => by walk_at "dls"; exact λ q2 => hN _ ⟨q2, rfl⟩) ?_
     rintro _ ⟨q2, rfl⟩
     refine qaJ (λ ρ => ∃ u v t, ρ = [some (.d (.lst (osD ps))), some (.dk q (qaV (accO [] ps))), some (.dk q2 (qba (accO [] ps))), u, v, t]) (λ N hN => qbx (osD ps) (λ N h => by walk_at "dls"; exact h) ?_) ?_
     · rw [qaL]
       refine qbc (λ xs ρ => ∃ r acc u v t, xs = r.map outD /\ accO acc r = accO [] ps /\ acc.length + r.length <= 600 /\ (∀ p ∈ r, p ∈ ps) /\ ρ = [some (.d (.lst (osD ps))), some (.dk q (qaV acc)), some (.dk q2 (qba acc)), u, v, t]) _ _ ⟨ps, [], none, none, none, rfl, rfl, by simpa using hl, λ p hp => hp, by rw [qaL]; rfl⟩ (λ x r ρ hρ N2 hN2 => ?_) (λ ρ hρ => ?_)
       · obtain ⟨r', acc, u, v, t, e, ea, hl', hs', rfl⟩ := hρ
         cases r' with
         | nil => simp at e
         | cons p r' =>
           simp only [List.map_cons, List.cons.injEq] at e
           obtain ⟨rfl, rfl⟩ := e
           simp? only [outD]
           have hpm := hs' p List.mem_cons_self
           obtain ⟨po, psz⟩ := hok p hpm
           refine ⟨p.1, rfl, qbO ht p hpm, by decide, po, psz, ?_⟩
           simp -implicitDefEqProofs only [keyOf, qkO]
           have e1 : stoD (qaV acc) (.inr p.1.tx) (.int (getO acc p.1.tx + p.2)) = qaV (putO acc p.1.tx (getO acc p.1.tx + p.2) p.1) := qf6 (f := λ q => D.int q.2.1) acc p.1.tx (getO acc p.1.tx + p.2) p.1
           have e2 : stoD (qba acc) (.inr p.1.tx) p.1.d = qba (putO acc p.1.tx (getO acc p.1.tx + p.2) p.1) := qf6 (f := λ q => q.2.2.d) acc p.1.tx (getO acc p.1.tx + p.2) p.1
           rw [e1, e2]
           have hp := qjF acc p.1.tx (getO acc p.1.tx + p.2) p.1
           simp only [List.length_cons] at hl'
           exact ⟨by simp only [qaV, List.length_map]; omega, by simp only [qba, List.length_map]; omega, hN2 _ ⟨r', putO acc p.1.tx (getO acc p.1.tx + p.2) p.1, _, _, _, rfl, ea, by omega, λ q hq => hs' q (List.mem_cons_of_mem _ hq), rfl⟩⟩
       · obtain ⟨r', acc, u, v, t, e, ea, hl', hs', rfl⟩ := hρ
         have e' : r' = [] := by simpa using e.symm
         subst e'
         exact hN _ ⟨u, v, t, by rw [<- ea]; rfl⟩
     rintro _ ⟨u, v, t, rfl⟩
     walk_at "dls"
     have la := qiq ps []
     simp only [List.length_nil] at la
     refine ⟨(accO [] ps).map (·.1), by simp only [qaV, List.map_map]; rfl, by rw [List.length_map]; omega, λ ys pm so => ?_⟩
     obtain ⟨N, rfl, pN⟩ := DS.qcG pm
     have nd : ((accO [] ps).map (·.1)).Nodup := qgC List.nodup_nil
     have ndN : (N.map (·.1)).Nodup := (pN.map (·.1)).nodup_iff.mpr nd
     have eN : N = qc9 (accO [] ps) := qcZ (λ a b => qqt) (pN.trans (qfa _).symm) (List.pairwise_map.mp (qrD _ ndN so)) (qhg nd)
     have look1 : ∀ p ∈ N, valD (qaV (accO [] ps)) (.inr p.1) = some (.int p.2.1) := λ p hp => by
       unfold qaV
       rw [qdu, qgb nd (pN.mem_iff.mp hp)]
       rfl
     have look2 : ∀ p ∈ N, valD (qba (accO [] ps)) (.inr p.1) = some p.2.2.d := λ p hp => by
       unfold qba
       rw [qdu, qgb nd (pN.mem_iff.mp hp)]
       rfl
     have dat : ∀ p ∈ N, p.2.2.d.isData 150 = true := λ p hp => by
       rcases qgW (pN.mem_iff.mp hp) with ⟨x, hx, e⟩ | ⟨x, hx, _⟩
       · have := qbO ht x hx
         rw [<- e]
         exact qbI (by decide) (x.1.data 25 (by omega))
       · cases hx
     dsimp only
     rw [List.map_map]
     refine qaM (λ p : Ac => D.str p.1) (λ p => if (decide (p.2.1 ≠ 0) && !p.2.2.isNon) = true then some (outD (p.2.2, p.2.1)) else none) N [] (λ p hp K1 K0 k1 k0 => ?_) (by rw [pN.length_eq]; simp only [List.length_nil]; omega) ?_
     · simp -implicitDefEqProofs only [qak, List.map_cons, List.map_nil, List.set_cons_succ, List.set_cons_zero]
       simp? only [keyOf, look1 p hp, look2 p hp, qpD]
       by_cases h1 : p.2.1 = 0
       · exact if_n (by simp [h1]) (k0 (by simp [h1]))
       · refine if_y (by simp [h1]) ⟨dat p hp, ?_⟩
         cases h2 : p.2.2.isNon
         · exact if_y rfl (k1 _ (by simp [h1, h2, outD]))
         · exact if_n (by decide) (k0 (by simp [h2]))
     · simp only [List.nil_append]
       rw [qgZ, eN, <- qaL]
       exact hw
   · simp -implicitDefEqProofs only [qai]
     refine qaJ (λ ρ => ∃ q, ρ = [some (.d (.tup (osD ps))), some (.dk q []), none, none, none, none]) (λ N hN => by walk_at "dls"; exact λ q => hN _ ⟨q, rfl⟩) ?_
     rintro _ ⟨q, rfl⟩
     refine qaJ (λ ρ => ∃ q2, ρ = [some (.d (.tup (osD ps))), some (.dk q []), some (.dk q2 []), none, none, none]) (λ N hN => by walk_at "dls"; exact λ q2 => hN _ ⟨q2, rfl⟩) ?_
     rintro _ ⟨q2, rfl⟩
     refine qaJ (λ ρ => ∃ u v t, ρ = [some (.d (.tup (osD ps))), some (.dk q (qaV (accO [] ps))), some (.dk q2 (qba (accO [] ps))), u, v, t]) (λ N hN => qbx (osD ps) (λ N h => by walk_at "dls"; exact h) ?_) ?_
     · rw [qaL]
       refine qbc (λ xs ρ => ∃ r acc u v t, xs = r.map outD /\ accO acc r = accO [] ps /\ acc.length + r.length <= 600 /\ (∀ p ∈ r, p ∈ ps) /\ ρ = [some (.d (.tup (osD ps))), some (.dk q (qaV acc)), some (.dk q2 (qba acc)), u, v, t]) _ _ ⟨ps, [], none, none, none, rfl, rfl, by simpa using hl, λ p hp => hp, by rw [qaL]; rfl⟩ (λ x r ρ hρ N2 hN2 => ?_) (λ ρ hρ => ?_)
       · obtain ⟨r', acc, u, v, t, e, ea, hl', hs', rfl⟩ := hρ
         cases r' with
         | nil => simp at e
         | cons p r' =>
           simp only [List.map_cons, List.cons.injEq] at e
           obtain ⟨rfl, rfl⟩ := e
           simp? only [outD]
           have hpm := hs' p List.mem_cons_self
           obtain ⟨po, psz⟩ := hok p hpm
           refine ⟨p.1, rfl, qbO ht p hpm, by decide, po, psz, ?_⟩
           simp -implicitDefEqProofs only [keyOf, qkO]
           have e1 : stoD (qaV acc) (.inr p.1.tx) (.int (getO acc p.1.tx + p.2)) = qaV (putO acc p.1.tx (getO acc p.1.tx + p.2) p.1) := qf6 (f := λ q => D.int q.2.1) acc p.1.tx (getO acc p.1.tx + p.2) p.1
           have e2 : stoD (qba acc) (.inr p.1.tx) p.1.d = qba (putO acc p.1.tx (getO acc p.1.tx + p.2) p.1) := qf6 (f := λ q => q.2.2.d) acc p.1.tx (getO acc p.1.tx + p.2) p.1
           rw [e1, e2]
           have hp := qjF acc p.1.tx (getO acc p.1.tx + p.2) p.1
           simp only [List.length_cons] at hl'
           exact ⟨by simp only [qaV, List.length_map]; omega, by simp only [qba, List.length_map]; omega, hN2 _ ⟨r', putO acc p.1.tx (getO acc p.1.tx + p.2) p.1, _, _, _, rfl, ea, by omega, λ q hq => hs' q (List.mem_cons_of_mem _ hq), rfl⟩⟩
       · obtain ⟨r', acc, u, v, t, e, ea, hl', hs', rfl⟩ := hρ
         have e' : r' = [] := by simpa using e.symm
         subst e'
         exact hN _ ⟨u, v, t, by rw [<- ea]; rfl⟩
     rintro _ ⟨u, v, t, rfl⟩
     walk_at "dls"
     have la := qiq ps []
     simp only [List.length_nil] at la
     refine ⟨(accO [] ps).map (·.1), by simp only [qaV, List.map_map]; rfl, by rw [List.length_map]; omega, λ ys pm so => ?_⟩
     obtain ⟨N, rfl, pN⟩ := DS.qcG pm
     have nd : ((accO [] ps).map (·.1)).Nodup := qgC List.nodup_nil
     have ndN : (N.map (·.1)).Nodup := (pN.map (·.1)).nodup_iff.mpr nd
     have eN : N = qc9 (accO [] ps) := qcZ (λ a b => qqt) (pN.trans (qfa _).symm) (List.pairwise_map.mp (qrD _ ndN so)) (qhg nd)
     have look1 : ∀ p ∈ N, valD (qaV (accO [] ps)) (.inr p.1) = some (.int p.2.1) := λ p hp => by
       unfold qaV
       rw [qdu, qgb nd (pN.mem_iff.mp hp)]
       rfl
     have look2 : ∀ p ∈ N, valD (qba (accO [] ps)) (.inr p.1) = some p.2.2.d := λ p hp => by
       unfold qba
       rw [qdu, qgb nd (pN.mem_iff.mp hp)]
       rfl
     have dat : ∀ p ∈ N, p.2.2.d.isData 150 = true := λ p hp => by
       rcases qgW (pN.mem_iff.mp hp) with ⟨x, hx, e⟩ | ⟨x, hx, _⟩
       · have := qbO ht x hx
         rw [<- e]
         exact qbI (by decide) (x.1.data 25 (by omega))
       · cases hx
     dsimp only
     rw [List.map_map]
     refine qaM (λ p : Ac => D.str p.1) (λ p => if (decide (p.2.1 ≠ 0) && !p.2.2.isNon) = true then some (outD (p.2.2, p.2.1)) else none) N [] (λ p hp K1 K0 k1 k0 => ?_) (by rw [pN.length_eq]; simp only [List.length_nil]; omega) ?_
     · simp -implicitDefEqProofs only [qak, List.map_cons, List.map_nil, List.set_cons_succ, List.set_cons_zero]
       simp? only [keyOf, look1 p hp, look2 p hp, qpD]
       by_cases h1 : p.2.1 = 0
       · exact if_n (by simp [h1]) (k0 (by simp [h1]))
       · refine if_y (by simp [h1]) ⟨dat p hp, ?_⟩
         cases h2 : p.2.2.isNon
         · exact if_y rfl (k1 _ (by simp [h1, h2, outD]))
         · exact if_n (by decide) (k0 (by simp [h2]))
     · simp only [List.nil_append]
       rw [qgZ, eN, <- qaL]
       exact hw
theorem qtU (F : FunX K "node_size" "node_size" qfS f fd) {n : Nat} (qdv : Callee P w K mg base "form_size" (2 * n + 2) (qfM n) [] []) (qd8 : Callee P w K mg base "node_size" (2 * n + 1) (qeP n) [] []) : FnOk P w K mg base (L2N.CX P w) (2 * n + 3) f fd ["node"] (SpW K (qeP (n + 1))) := by
 refine fn_ok (k := 2 * n + 2) (N := qn2) 1 rfl F qtu (λ ds Q Ed h => ?_) (λ cdv A outer s H E hr ds Qd Ed hw => ⟨_, _,
   (qaf (qat (t_eq hr (qab 0) (e_cD T.d_NONE))
   (qag (st_ret qad))
   qau)
   (qaf (qat (t_in hr (e_ix (qab 0) qad) (qay (qaa qae (qaa qae qac))))
   (qag (st_ret (qaD qad (qan qdv (mhr hr) qaq (qaa (e_ix (qab 0) qad) qac)))))
   qau)
   (qag (st_ret (qaD (qaD qad (qan qd8 (mhr hr) qaq (qaa (e_ix (qab 0) qad) qac))) (qan qd8 (mhr hr) qaq (qaa (e_ix (qab 0) qad) qac))))))), ?_⟩)
 · obtain ⟨_, rfl, _⟩ := h
   rfl
 · obtain ⟨nd, rfl, ht, hm, ok, hw⟩ := hw
   have hd : nd.d.isData 150 = true := qbI (by omega) (nd.data n (by omega))
   cases nd with
   | non =>
     simp -implicitDefEqProofs only [qai, Nd.d]
     walk_at "dls"
     exact hw
   | ask o ts os =>
     have hd' : (qah 147 (ts.map tmD) && qah 147 (osD os)) = true := by simpa [Nd.d, D.isData, qah] using hd
     simp -implicitDefEqProofs only [qai, Nd.d]
     walk_at "dls"
     simp only [Nd.ht] at ht
     refine ⟨hd', if_y (by cases o <;> decide) ⟨ts, os, rfl, by omega, by omega, ok, ?_⟩⟩
     show Qd (.int (1 + ((ts.length + qaz os : Nat) : Int)))
     rw [show (1 + ((ts.length + qaz os : Nat) : Int)) = ((1 + (ts.length + qaz os) : Nat) : Int) by omega]
     exact hw
   | jn sg a b =>
     have hd' : (D.isData 149 a.d && D.isData 149 b.d) = true := by simpa [Nd.d, D.isData, qah] using hd
     simp -implicitDefEqProofs only [qai, Nd.d]
     walk_at "dls"
     simp only [Nd.ht] at ht
     refine ⟨hd', if_n (by cases sg <;> decide) ⟨a, rfl, by omega, by omega, ok.1, b, rfl, by omega, by omega, ok.2, ?_⟩⟩
     show Qd (.int (1 + (a.size : Int) + (b.size : Int)))
     rw [show (1 + (a.size : Int) + (b.size : Int)) = ((1 + a.size + b.size : Nat) : Int) by omega]
     exact hw
theorem qmz (F : FunX K "form_size" "form_size" qdM f fd) {n : Nat} (qd8 : Callee P w K mg base "node_size" (2 * n + 1) (qeP n) [] []) : FnOk P w K mg base (L2N.CX P w) (2 * n + 2) f fd ["form"] (SpW K (qfM n)) := by
 refine fn_ok (k := 2 * n + 1) (N := qhI) 3 rfl F sc_form_size (λ ds Q Ed h => ?_) (λ cdv A outer s H E hr ds Qd Ed hw => ⟨_, _,
   (qag (st_ret (qaD (qb7 T.qbt (qaa (e_ix (qab 0) qad) qac)) (qxV rfl T.qdU (qaa (qaY rfl sc_form_size.nd (qaA (e_ix (qab 0) qad)) (blkOk_by (own := [("node", 1), ("times", 2)]) (N := qhI) (sc := defScope qdM) (by decide +kernel)) (qbr (qaF (qaF qbj))) (λ _ _ _ _ _ => (qaS rfl (qas (qam 1 sc_form_size.nd) (qas (qam 2 sc_form_size.nd) qaT)) (qaP [1, 2]))) (λ _ _ _ _ _ => qaH qaK (by walk_at "blk")) (λ _ _ _ _ _ => qaE (qaD qad (qan qd8 (mhr hr) qbJ (qaa (qab 1) qac))) (by walk_at "blk"))) qac))))), ?_⟩)
 · obtain ⟨_, _, rfl, _⟩ := h
   rfl
 · obtain ⟨ts, os, rfl, ht, hm, ok, hw⟩ := hw
   simp -implicitDefEqProofs only [qai, fmD]
   walk_at "dls"
   rw [qaL]
   refine qaM outD (λ p => some (.int (1 + (p.1.size : Int)))) os [] (λ p hp K1 K0 k1 _ => ?_) (by have := ok.2.1; simp only [List.length_nil]; omega) ?_
   · simp -implicitDefEqProofs only [qak, List.map_cons, List.map_nil, List.set_cons_succ, List.set_cons_zero, outD]
     walk_at "dls"
     exact ⟨p.1, rfl, qbO ht p hp, hm, (ok.2.2.2.mem p hp).1, k1 _ rfl⟩
   · rw [List.nil_append]
     simp only [qi2]
     rw [qop]
     exact hw
omit T in
theorem qqr {f1 f2 : Addr} {fd1 fd2 : FuncData} (T : Txt K mg qaI qaO qar qap) (F1 : FunX K "node_size" "node_size" qfS f1 fd1) (F2 : FunX K "form_size" "form_size" qdM f2 fd2) (g1 : mg "node_size" = some (.ref f1)) (g2 : mg "form_size" = some (.ref f2)) (b1 : Binds K fd1 ["node"] []) (b2 : Binds K fd2 ["form"] []) :
   ∀ n : Nat, FnOk P w K mg base (L2N.CX P w) (2 * n + 1) f1 fd1 ["node"] (SpW K (qeP n)) /\ FnOk P w K mg base (L2N.CX P w) (2 * n + 2) f2 fd2 ["form"] (SpW K (qfM n))
 | 0 =>
   have z : FnOk P w K mg base (L2N.CX P w) 1 f1 fd1 ["node"] (SpW K (qeP 0)) := qfZ λ _ _ _ ⟨_, _, h, _⟩ => Nat.not_lt_zero _ h
   ⟨z, qmz T F2 (qax F1 g1 z b1)⟩
 | n + 1 =>
   have ⟨h1, h2⟩ := qqr T F1 F2 g1 g2 b1 b2 n
   have z := qtU T F1 (qax F2 g2 h2 b2) (qax F1 g1 h1 b1)
   ⟨z, qmz T F2 (qax F1 g1 z b1)⟩
theorem qrQ (F : FunX K "node_depth" "node_depth" qfL f fd) {n : Nat} (qdy : Callee P w K mg base "form_depth" (2 * n + 2) (qe8 n) [] []) (qez : Callee P w K mg base "node_depth" (2 * n + 1) (qdX n) [] []) : FnOk P w K mg base (L2N.CX P w) (2 * n + 3) f fd ["node"] (SpW K (qdX (n + 1))) := by
 refine fn_ok (k := 2 * n + 2) (N := qk8) 1 rfl F qyg (λ ds Q Ed h => ?_) (λ cdv A outer s H E hr ds Qd Ed hw => ⟨_, _,
   (qaf (qat (t_eq hr (qab 0) (e_cD T.d_NONE))
   (qag (st_ret qad))
   qau)
   (qaf (qat (t_in hr (e_ix (qab 0) qad) (qay (qaa qae (qaa qae qac))))
   (qag (st_ret (qaD qad (qan qdy (mhr hr) qaq (qaa (e_ix (qab 0) qad) qac)))))
   qau)
   (qag (st_ret (qaD qad (qkp rfl T.qcI (qaa (qan qez (mhr hr) qaq (qaa (e_ix (qab 0) qad) qac)) (qaa (qan qez (mhr hr) qaq (qaa (e_ix (qab 0) qad) qac)) qac)))))))), ?_⟩)
 · obtain ⟨_, rfl, _⟩ := h
   rfl
 · obtain ⟨nd, rfl, ht, hm, ok, hw⟩ := hw
   have hd : nd.d.isData 150 = true := qbI (by omega) (nd.data n (by omega))
   cases nd with
   | non =>
     simp -implicitDefEqProofs only [qai, Nd.d]
     walk_at "dls"
     exact hw
   | ask o ts os =>
     have hd' : (qah 147 (ts.map tmD) && qah 147 (osD os)) = true := by simpa [Nd.d, D.isData, qah] using hd
     simp -implicitDefEqProofs only [qai, Nd.d]
     walk_at "dls"
     simp only [Nd.ht] at ht
     refine ⟨hd', if_y (by cases o <;> decide) ⟨ts, os, rfl, by omega, by omega, ok, ?_⟩⟩
     show Qd (.int (1 + (depL os : Int)))
     rw [show (1 + (depL os : Int)) = ((1 + depL os : Nat) : Int) by omega]
     exact hw
   | jn sg a b =>
     have hd' : (D.isData 149 a.d && D.isData 149 b.d) = true := by simpa [Nd.d, D.isData, qah] using hd
     simp -implicitDefEqProofs only [qai, Nd.d]
     walk_at "dls"
     simp only [Nd.ht] at ht
     refine ⟨hd', if_n (by cases sg <;> decide) ⟨a, rfl, by omega, by omega, ok.1, b, rfl, by omega, by omega, ok.2, ?_⟩⟩
     show Qd (.int (1 + if (b.dep : Int) > (a.dep : Int) then (b.dep : Int) else (a.dep : Int)))
     rw [show (1 + if (b.dep : Int) > (a.dep : Int) then (b.dep : Int) else (a.dep : Int)) = ((1 + max a.dep b.dep : Nat) : Int) by split <;> omega]
     exact hw
theorem qmr (F : FunX K "form_depth" "form_depth" qeA f fd) {n : Nat} (qez : Callee P w K mg base "node_depth" (2 * n + 1) (qdX n) [] []) : FnOk P w K mg base (L2N.CX P w) (2 * n + 2) f fd ["form"] (SpW K (qe8 n)) := by
 refine fn_ok (k := 2 * n + 1) (N := qin) 3 rfl F sc_form_depth (λ ds Q Ed h => ?_) (λ cdv A outer s H E hr ds Qd Ed hw => ⟨_, _,
   (qag (st_ret (qsK hr rfl T.qcI (qaa (qaY rfl sc_form_depth.nd (qaA (e_ix (qab 0) qad)) (blkOk_by (own := [("node", 1), ("times", 2)]) (N := qin) (sc := defScope qeA) (by decide +kernel)) (qbr (qaF (qaF qbj))) (λ _ _ _ _ _ => (qaS rfl (qas (qam 1 sc_form_depth.nd) (qas (qam 2 sc_form_depth.nd) qaT)) (qaP [1, 2]))) (λ _ _ _ _ _ => qaH qaK (by walk_at "blk")) (λ _ _ _ _ _ => qaE (qaD qad (qan qez (mhr hr) qbJ (qaa (qab 1) qac))) (by walk_at "blk"))) qac) (qu9 qad qff)))), ?_⟩)
 · obtain ⟨_, _, rfl, _⟩ := h
   rfl
 · obtain ⟨ts, os, rfl, ht, hm, ok, hw⟩ := hw
   simp -implicitDefEqProofs only [qai, fmD]
   walk_at "dls"
   rw [qaL]
   refine qaM outD (λ p => some (.int (1 + (p.1.dep : Int)))) os [] (λ p hp K1 K0 k1 _ => ?_) (by have := ok.2.1; simp only [List.length_nil]; omega) ?_
   · simp -implicitDefEqProofs only [qak, List.map_cons, List.map_nil, List.set_cons_succ, List.set_cons_zero, outD]
     walk_at "dls"
     exact ⟨p.1, rfl, qbO ht p hp, hm, (ok.2.2.2.mem p hp).1, k1 _ rfl⟩
   · rw [List.nil_append]
     simp only [qi2]
     rw [qxC]
     exact hw
omit T in
theorem qqe {f1 f2 : Addr} {fd1 fd2 : FuncData} (T : Txt K mg qaI qaO qar qap) (F1 : FunX K "node_depth" "node_depth" qfL f1 fd1) (F2 : FunX K "form_depth" "form_depth" qeA f2 fd2) (g1 : mg "node_depth" = some (.ref f1)) (g2 : mg "form_depth" = some (.ref f2)) (b1 : Binds K fd1 ["node"] []) (b2 : Binds K fd2 ["form"] []) :
   ∀ n : Nat, FnOk P w K mg base (L2N.CX P w) (2 * n + 1) f1 fd1 ["node"] (SpW K (qdX n)) /\ FnOk P w K mg base (L2N.CX P w) (2 * n + 2) f2 fd2 ["form"] (SpW K (qe8 n))
 | 0 =>
   have z : FnOk P w K mg base (L2N.CX P w) 1 f1 fd1 ["node"] (SpW K (qdX 0)) := qfZ λ _ _ _ ⟨_, _, h, _⟩ => Nat.not_lt_zero _ h
   ⟨z, qmr T F2 (qax F1 g1 z b1)⟩
 | n + 1 =>
   have ⟨h1, h2⟩ := qqe T F1 F2 g1 g2 b1 b2 n
   have z := qrQ T F1 (qax F2 g2 h2 b2) (qax F1 g1 h1 b1)
   ⟨z, qmr T F2 (qax F1 g1 z b1)⟩
theorem quM (F : FunX K "node_unknowns" "node_unknowns" qd2 f fd) {n : Nat} (qcY : Callee P w K mg base "form_unknowns" (2 * n + 2) (qfc n) [] []) (qdY : Callee P w K mg base "node_unknowns" (2 * n + 1) (qdN n) [] []) : FnOk P w K mg base (L2N.CX P w) (2 * n + 3) f fd ["node"] (SpW K (qdN (n + 1))) := by
 refine fn_ok (k := 2 * n + 2) (N := qjS) 2 rfl F sc_node_unknowns (λ ds Q Ed h => ?_) (λ cdv A outer s H E hr ds Qd Ed hw => ⟨_, _,
   (qaf (qat (t_eq hr (qab 0) (e_cD T.d_NONE))
   (qag (st_ret (qbp qac)))
   qau)
   (qaf (qat (t_in hr (e_ix (qab 0) qad) (qay (qaa qae (qaa qae qac))))
   (qag (st_ret (qan qcY (mhr hr) qaq (qaa (e_ix (qab 0) qad) qac))))
   qau)
   (qag (st_ret (qo5 T.qb8 rfl sc_node_unknowns.nd (qgD hr) (qaA (qf4 (qan qdY (mhr hr) qaq (qaa (e_ix (qab 0) qad) qac)) (qan qdY (mhr hr) qaq (qaa (e_ix (qab 0) qad) qac)))) (blkOk_by (own := [("unknown", 1)]) (N := qjS) (sc := defScope qd2) (by decide +kernel)) qbe (λ _ _ _ _ _ => (qam 1 sc_node_unknowns.nd)) (λ _ _ _ _ _ => qaH qaK (by walk_at "blk")) (λ _ _ _ _ _ => qaE (qab 1) (by walk_at "blk"))))))), ?_⟩)
 · obtain ⟨_, rfl, _⟩ := h
   rfl
 · obtain ⟨nd, rfl, ht, hm, ok, sz, hw⟩ := hw
   have hd : nd.d.isData 150 = true := qbI (by omega) (nd.data n (by omega))
   cases nd with
   | non =>
     simp -implicitDefEqProofs only [qai, Nd.d]
     walk_at "dls"
     exact hw
   | ask o ts os =>
     have hd' : (qah 147 (ts.map tmD) && qah 147 (osD os)) = true := by simpa [Nd.d, D.isData, qah] using hd
     simp -implicitDefEqProofs only [qai, Nd.d]
     walk_at "dls"
     simp only [Nd.ht] at ht
     exact ⟨hd', if_y (by cases o <;> decide) ⟨ts, os, rfl, by omega, by omega, ok, sz, hw⟩⟩
   | jn sg a b =>
     have hd' : (D.isData 149 a.d && D.isData 149 b.d) = true := by simpa [Nd.d, D.isData, qah] using hd
     simp -implicitDefEqProofs only [qai, Nd.d]
     walk_at "dls"
     simp only [Nd.ht] at ht
     have la : a.unk.length <= (setU (a.unk ++ b.unk)).length := qdV (qhi a) λ u hu => setU_mem.mpr (List.mem_append_left _ hu)
     have lb : b.unk.length <= (setU (a.unk ++ b.unk)).length := qdV (qhi b) λ u hu => setU_mem.mpr (List.mem_append_right _ hu)
     have sz' : (setU (a.unk ++ b.unk)).length <= 300 := sz
     have mB : ∀ u ∈ a.unk ++ b.unk, u.k ∈ (setU (a.unk ++ b.unk)).map U.k := λ u hu => List.mem_map.mpr ⟨u, setU_mem.mpr hu, rfl⟩
     have shB : ∀ k ∈ (setU (a.unk ++ b.unk)).map U.k, DS.Shaped U.sh k := λ k hk => by
       obtain ⟨u, _, rfl⟩ := List.mem_map.mp hk
       exact u.shaped
     refine ⟨hd', if_n (by cases sg <;> decide) ⟨a, rfl, by omega, by omega, ok.1, by omega, b, rfl, by omega, by omega, ok.2, by omega, by simp only [List.length_map]; omega, (setU (a.unk ++ b.unk)).map U.k, U.sh, by rw [List.length_map]; omega, shB, ?_⟩⟩
     rw [<- List.map_append]
     refine qfU U.d (λ u => some u.k) (a.unk ++ b.unk) [] (λ p hp K1 K0 k1 _ => ?_) (λ u hu k hk => by cases hk; exact mB u hu) ?_
     · simp? only [qak, List.map_cons, List.map_nil, List.set_cons_succ, List.set_cons_zero]
       exact k1 _ rfl
     · rw [List.nil_append, qa9]
       intro ys so
       rw [qqU so, qn7]
       exact hw
theorem qlp (F : FunX K "form_unknowns" "form_unknowns" qdx f fd) {n : Nat} (qdY : Callee P w K mg base "node_unknowns" (2 * n + 1) (qdN n) [] []) : FnOk P w K mg base (L2N.CX P w) (2 * n + 2) f fd ["form"] (SpW K (qfc n)) := by
 refine fn_ok (k := 2 * n + 1) (N := qfV) 5 rfl F sc_form_unknowns (λ ds Q Ed h => ?_) (λ cdv A outer s H E hr ds Qd Ed hw => ⟨_, _,
   (qaf (qem (i := 1) rfl sc_form_unknowns.nd rfl rfl (sw_true rfl rfl rfl (by decide +kernel)) (qaA (e_ix (qab 0) qad)) (blkOk_by (own := [("unknown", 2), ("times", 3)]) (N := qfV) (sc := defScope qdx) (by decide +kernel)) (qbr (qaF (qaF qbj))) (λ _ _ _ _ _ => (qaS rfl (qas (qam 2 sc_form_unknowns.nd) (qas (qam 3 sc_form_unknowns.nd) qaT)) (qaP [2, 3]))) (λ _ _ _ _ _ => qaH qaK (by walk_at "blk")) (λ _ _ _ _ _ => qaE (qab 2) (by walk_at "blk")))
   (qaf (qbM (passes_of rfl) rfl (qaA (e_ix (qab 0) qad)) (qaS rfl (qas (qam 4 sc_form_unknowns.nd) (qas (qam 3 sc_form_unknowns.nd) qaT)) (qaP [4, 3]))
   (qag (st_set 1 sc_form_unknowns.nd (qf4 (qab 1) (qan qdY (mhr hr) qaq (qaa (qab 4) qac))))))
   (qag (st_ret (qo5 T.qb8 rfl sc_form_unknowns.nd (qgD hr) (qaA (qab 1)) (blkOk_by (own := [("unknown", 2)]) (N := qfV) (sc := defScope qdx) (by decide +kernel)) qbe (λ _ _ _ _ _ => (qam 2 sc_form_unknowns.nd)) (λ _ _ _ _ _ => qaH qaK (by walk_at "blk")) (λ _ _ _ _ _ => qaE (qab 2) (by walk_at "blk"))))))), ?_⟩)
 · obtain ⟨_, _, rfl, _⟩ := h
   rfl
 · obtain ⟨ts, os, rfl, ht, hm, ok, sz, hw⟩ := hw
   simp -implicitDefEqProofs only [qai, fmD]
   have sub : ∀ p ∈ os, p.1.unk.length <= 300 := λ p hp => Nat.le_trans (qdV (qhi p.1) λ u hu => setU_mem.mpr (List.mem_append_right _ (qpz p hp hu))) sz
   refine qav [some (.d (fmD ts os)), some (.d (unkD (ts.map (·.1)))), none, none, none] (λ N hN => ?_) ?_
   · walk_at "dls"
     refine qaM tmD (λ p => some p.1.d) ts [] (λ p hp K1 K0 k1 _ => ?_) (by have := ok.1; simp only [List.length_nil]; omega) ?_
     · simp -implicitDefEqProofs only [qak, List.map_cons, List.map_nil, List.set_cons_succ, List.set_cons_zero, tmD]
       walk_at "dls"
       exact k1 _ rfl
     · rw [List.nil_append, qa9]
       unfold unkD at hN
       rw [List.map_map] at hN
       exact hN
   refine qaJ (λ ρ => ∃ u v t, ρ = [some (.d (fmD ts os)), some (.d (unkD (ts.map (·.1) ++ unkL os))), u, v, t]) (λ N hN => qbx (osD os) (λ N h => by simp? only [fmD]; exact h) ?_) ?_
   · rw [qaL]
     refine qbc (λ xs ρ => ∃ (r : Os) (acc : List U) (u v t : Option SV), xs = r.map outD /\ acc ++ unkL r = ts.map (·.1) ++ unkL os /\ acc.length + 300 * r.length <= 190000 /\ (∀ p ∈ r, p ∈ os) /\ ρ = [some (.d (fmD ts os)), some (.d (unkD acc)), u, v, t]) _ _
       ⟨os, ts.map (·.1), none, none, none, rfl, rfl, by have := ok.1; have := ok.2.1; rw [List.length_map]; omega, λ p hp => hp, rfl⟩ (λ x r ρ hρ N2 hN2 => ?_) (λ ρ hρ => ?_)
     · obtain ⟨r', acc, u, v, t, e, ea, hl', hs', rfl⟩ := hρ
       cases r' with
       | nil => simp at e
       | cons p r' =>
         simp only [List.map_cons, List.cons.injEq] at e
         obtain ⟨rfl, rfl⟩ := e
         have hpm := hs' p List.mem_cons_self
         have hz := sub p hpm
         simp only [List.length_cons] at hl'
         simp? only [outD, unkD]
         refine ⟨p.1, rfl, qbO ht p hpm, hm, (ok.2.2.2.mem p hpm).1, hz, by simp only [List.length_map]; omega, ?_⟩
         rw [<- List.map_append]
         exact hN2 _ ⟨r', acc ++ p.1.unk, _, _, _, rfl, by rw [List.append_assoc]; exact ea, by rw [List.length_append]; omega, λ q hq => hs' q (List.mem_cons_of_mem _ hq), rfl⟩
     · obtain ⟨r', acc, u, v, t, e, ea, hl', hs', rfl⟩ := hρ
       have e' : r' = [] := by simpa using e.symm
       subst e'
       exact hN _ ⟨u, v, t, by rw [<- ea, show unkL [] = [] from rfl, List.append_nil]⟩
   rintro _ ⟨u, v, t, rfl⟩
   have sz' : (setU (ts.map (·.1) ++ unkL os)).length <= 300 := sz
   have hw' : Qd (unkD (setU (ts.map (·.1) ++ unkL os))) := hw
   generalize ts.map (·.1) ++ unkL os = l at sz' hw' ⊢
   generalize fmD ts os = x0
   simp? only [unkD]
   refine ⟨(setU l).map U.k, U.sh, by rw [List.length_map]; omega, λ k hk => ?_, ?_⟩
   · obtain ⟨u, _, rfl⟩ := List.mem_map.mp hk
     exact u.shaped
   refine qfU U.d (λ u => some u.k) l [] (λ p hp K1 K0 k1 _ => ?_) (λ u hu k hk => by cases hk; exact List.mem_map.mpr ⟨u, setU_mem.mpr hu, rfl⟩) ?_
   · simp? only [qak, List.map_cons, List.map_nil, List.set_cons_succ, List.set_cons_zero]
     exact k1 _ rfl
   · rw [List.nil_append, qa9]
     intro ys so
     rw [qqU so, qn7]
     exact hw'
omit T in
theorem qpi {f1 f2 : Addr} {fd1 fd2 : FuncData} (T : Txt K mg qaI qaO qar qap) (F1 : FunX K "node_unknowns" "node_unknowns" qd2 f1 fd1) (F2 : FunX K "form_unknowns" "form_unknowns" qdx f2 fd2) (g1 : mg "node_unknowns" = some (.ref f1)) (g2 : mg "form_unknowns" = some (.ref f2)) (b1 : Binds K fd1 ["node"] []) (b2 : Binds K fd2 ["form"] []) :
   ∀ n : Nat, FnOk P w K mg base (L2N.CX P w) (2 * n + 1) f1 fd1 ["node"] (SpW K (qdN n)) /\ FnOk P w K mg base (L2N.CX P w) (2 * n + 2) f2 fd2 ["form"] (SpW K (qfc n))
 | 0 =>
   have z : FnOk P w K mg base (L2N.CX P w) 1 f1 fd1 ["node"] (SpW K (qdN 0)) := qfZ λ _ _ _ ⟨_, _, h, _⟩ => Nat.not_lt_zero _ h
   ⟨z, qlp T F2 (qax F1 g1 z b1)⟩
 | n + 1 =>
   have ⟨h1, h2⟩ := qpi T F1 F2 g1 g2 b1 b2 n
   have z := quM T F1 (qax F2 g2 h2 b2) (qax F1 g1 h1 b1)
   ⟨z, qlp T F2 (qax F1 g1 z b1)⟩
theorem qtv (F : FunX K "check_size" "check_size" qjd f fd)  : FnOk P w K mg base (L2N.CX P w) 2 f fd ["size", "depth"] (SpW K qiW) := by
 refine fn_ok (k := 1) (N := qke) 2 rfl F qtS (λ ds Q Ed h => ?_) (λ cdv A outer s H E hr ds Qd Ed hw => ⟨_, _,
   (qaf (qat (t_gt (qab 0) (qd4 T.qeg))
   (qag qeI)
   qau)
   (qag (qat (t_gt (qab 1) (qd4 T.qes))
   (qag qeI)
   qau))), ?_⟩)
 · obtain ⟨_, _, rfl, _⟩ := h
   rfl
 · obtain ⟨a, b, rfl, ha, hb, hw⟩ := hw
   try simp -implicitDefEqProofs only [qai]
   walk_at "dl"
   refine if_n (by simpa using ha) (if_n (by simpa using hb) hw)
theorem qs0 (F : FunX K "check_shifts" "check_shifts" qhR f fd)  : FnOk P w K mg base (L2N.CX P w) 2 f fd ["unknowns"] (SpW K qjL) := by
 refine fn_ok (k := 1) (N := qou) 3 rfl F sc_check_shifts (λ ds Q Ed h => ?_) (λ cdv A outer s H E hr ds Qd Ed hw => ⟨_, _,
   (qag (qbM (passes_of rfl) rfl (qaA (qab 0)) (qam 1 sc_check_shifts.nd)
   (qaf (st_set 2 sc_check_shifts.nd (qkp rfl T.qcI (qaa (qcg T.qbm (qaa (e_ix (qab 1) qad) qac)) (qaa (qcg T.qbm (qaa (e_ix (qab 1) qad) qac)) qac))))
   (qag (qat (t_gt (qab 2) (qd4 T.qeE))
   (qag qeI)
   qau))))), ?_⟩)
 · obtain ⟨_, rfl, _⟩ := h
   rfl
 · obtain ⟨l, rfl, hl, hw⟩ := hw
   try simp -implicitDefEqProofs only [qai]
   generalize hx0 : (some (.d (unkD l)) : Option SV) = x0
   refine qbx (l.map U.d) (λ N h => by subst hx0; simp? only [unkD]; exact h) ?_
   refine qbc (λ xs ρ => ∃ (r : List U) (u v : Option SV), xs = r.map U.d /\ (∀ u ∈ r, u ∈ l) /\ ρ = [x0, u, v]) _ _ ⟨l, none, none, rfl, λ _ h => h, rfl⟩ (λ x r ρ hρ N2 hN2 => ?_) (λ ρ hρ => hw)
   obtain ⟨r', u, v, e, hs, rfl⟩ := hρ
   cases r' with
   | nil => simp at e
   | cons p r' =>
     simp only [List.map_cons, List.cons.injEq] at e
     obtain ⟨rfl, rfl⟩ := e
     obtain ⟨⟨h1, h2⟩, h3, h4⟩ := hl p (hs p List.mem_cons_self)
     have go := λ z => hN2 _ ⟨r', some (.d p.d), z, rfl, λ q hq => hs q (List.mem_cons_of_mem _ hq), rfl⟩
     simp? only [U.d]
     have e1 : (if p.f.x < 0 then -p.f.x else p.f.x) <= 1000000000000 := by split <;> omega
     have e2 : (if p.f.y < 0 then -p.f.y else p.f.y) <= 1000000000000 := by split <;> omega
     exact if_n (by split <;> omega) (go _)
theorem qwL (F : FunX K "check_times" "check_times" qj7 f fd)  : FnOk P w K mg base (L2N.CX P w) 2 f fd ["form"] (SpW K qgM) := by
 refine fn_ok (k := 1) (N := qoa) 4 rfl F sc_check_times (λ ds Q Ed h => ?_) (λ cdv A outer s H E hr ds Qd Ed hw => ⟨_, _,
   (qaf (qbM (passes_of rfl) rfl (qaA (e_ix (qab 0) qad)) (qaS rfl (qas (qam 1 sc_check_times.nd) (qas (qam 2 sc_check_times.nd) qaT)) (qaP [1, 2]))
   (qag (qat (t_gt (qcg T.qbm (qaa (qab 2) qac)) (qd4 T.qc2))
   (qag qeI)
   qau)))
   (qag (qbM (passes_of rfl) rfl (qaA (e_ix (qab 0) qad)) (qaS rfl (qas (qam 3 sc_check_times.nd) (qas (qam 2 sc_check_times.nd) qaT)) (qaP [3, 2]))
   (qag (qat (t_gt (qcg T.qbm (qaa (qab 2) qac)) (qd4 T.qc2))
   (qag qeI)
   qau))))), ?_⟩)
 · obtain ⟨_, _, rfl, _⟩ := h
   rfl
 · obtain ⟨ts, os, rfl, h1, h2, hw⟩ := hw
   try simp -implicitDefEqProofs only [qai]
   refine qaJ (λ ρ => ∃ a b c, ρ = [some (.d (fmD ts os)), a, b, c]) (λ N hN => qbx (ts.map tmD) (λ N h => by simp? only [fmD]; exact h) ?_) ?_
   · refine qbc (λ xs ρ => ∃ (r : List Tm) (a b c : Option SV), xs = r.map tmD /\ (∀ p ∈ r, p ∈ ts) /\ ρ = [some (.d (fmD ts os)), a, b, c]) _ _ ⟨ts, none, none, none, rfl, λ _ h => h, rfl⟩ (λ x r ρ hρ N2 hN2 => ?_) (λ ρ hρ => ?_)
     · obtain ⟨r', a, b, c, e, hs, rfl⟩ := hρ
       cases r' with
       | nil => simp at e
       | cons p r' =>
         simp only [List.map_cons, List.cons.injEq] at e
         obtain ⟨rfl, rfl⟩ := e
         obtain ⟨k1, k2⟩ := h1 p (hs p List.mem_cons_self)
         simp? only [tmD]
         exact if_n (by split <;> omega) (hN2 _ ⟨r', _, _, _, rfl, λ q hq => hs q (List.mem_cons_of_mem _ hq), rfl⟩)
     · obtain ⟨r', a, b, c, e, hs, rfl⟩ := hρ
       exact hN _ ⟨a, b, c, rfl⟩
   rintro _ ⟨a, b, c, rfl⟩
   refine qbx (os.map outD) (λ N h => by simp? only [fmD]; rw [qaL]; exact h) ?_
   refine qbc (λ xs ρ => ∃ (r : Os) (a b c : Option SV), xs = r.map outD /\ (∀ p ∈ r, p ∈ os) /\ ρ = [some (.d (fmD ts os)), a, b, c]) _ _ ⟨os, a, b, c, rfl, λ _ h => h, rfl⟩ (λ x r ρ hρ N2 hN2 => ?_) (λ ρ hρ => hw)
   obtain ⟨r', a, b, c, e, hs, rfl⟩ := hρ
   cases r' with
   | nil => simp at e
   | cons p r' =>
     simp only [List.map_cons, List.cons.injEq] at e
     obtain ⟨rfl, rfl⟩ := e
     obtain ⟨k1, k2⟩ := h2 p (hs p List.mem_cons_self)
     simp? only [outD]
     exact if_n (by split <;> omega) (hN2 _ ⟨r', _, _, _, rfl, λ q hq => hs q (List.mem_cons_of_mem _ hq), rfl⟩)
theorem qrY (F : FunX K "divisor" "divisor" qgN f fd)  : FnOk P w K mg base (L2N.CX P w) 1 f fd ["numbers"] (SpW K qjJ) := by
 refine fn_ok (k := 0) (N := qrr) 3 rfl F sc_divisor (λ ds Q Ed h => ?_) (λ cdv A outer s H E hr ds Qd Ed hw => ⟨_, _,
   (qaf (st_set 1 sc_divisor.nd qad)
   (qaf (qbM (passes_of rfl) rfl (qaA (qab 0)) (qam 2 sc_divisor.nd)
   (qaf (st_set 2 sc_divisor.nd (qcg T.qbm (qaa (qab 2) qac)))
   (qag (st_while (passes_of rfl) (t_gt (qab 2) qad)
   (qag (qsm (i := 1) (j := 2) rfl sc_divisor.nd rfl rfl (by decide) rfl rfl (qaa (qab 2) (qaa (qbX (qbY T.qa4 (qaa (qab 1) qac)) (qab 2)) qac)) (by first | rfl | kernel_rfl)))))))
   (qag (st_ret (qab 1))))), ?_⟩)
 · obtain ⟨_, rfl, _⟩ := h
   rfl
 · obtain ⟨ns, rfl, hw⟩ := hw
   try simp -implicitDefEqProofs only [qai]
   generalize hx0 : (some (.d (.lst (ns.map D.int))) : Option SV) = x0
   refine qav [x0, some (.d (.int ((0 : Nat) : Int))), none] (λ N hN => by walk_at "dls"; exact hN) ?_
   refine qaJ (λ ρ => ∃ u, ρ = [x0, some (.d (.int (gcdL ns : Nat))), u]) (λ N hN => qbx (ns.map D.int) (λ N h => by subst hx0; walk_at "dls"; exact h) ?_) ?_
   · refine qbc (λ xs ρ => ∃ (r : List Int) (g : Nat) (u : Option SV), xs = r.map D.int /\ r.foldl (λ g n => Nat.gcd g n.natAbs) g = gcdL ns /\ ρ = [x0, some (.d (.int (g : Int))), u]) _ _ ⟨ns, 0, none, rfl, rfl, rfl⟩ (λ x r ρ hρ N2 hN2 => ?_) (λ ρ hρ => ?_)
     · obtain ⟨r', g, u, e, ea, rfl⟩ := hρ
       cases r' with
       | nil => simp at e
       | cons n r' =>
         simp only [List.map_cons, List.cons.injEq] at e
         obtain ⟨rfl, rfl⟩ := e
         show dSeq _ _ _ _
         refine qav [x0, some (.d (.int (g : Int))), some (.d (.int (n.natAbs : Int)))] (λ N hN => ?_) ?_
         · walk_at "dls"
           rw [show (if n < 0 then -n else n) = (n.natAbs : Int) by split <;> omega]
           exact hN
         refine ⟨λ m ρ => ∃ a b : Nat, m = b /\ Nat.gcd a b = Nat.gcd g n.natAbs /\ ρ = [x0, some (.d (.int (a : Int))), some (.d (.int (b : Int)))], ⟨n.natAbs, g, n.natAbs, rfl, rfl, rfl⟩, ?_⟩
         rintro m _ ⟨a, b, rfl, hg, rfl⟩
         walk_at "dls"
         by_cases hb : (0 : Int) < (m : Int)
         · refine if_y (by simpa using hb) ⟨λ ρ => ρ = [x0, some (.d (.int (m : Int))), some (.d (.int ((a % m : Nat) : Int)))], ?_, ?_⟩
           · rintro _ rfl
             exact ⟨a % m, Nat.mod_lt _ (by omega), m, a % m, rfl, by rw [<- hg, Nat.gcd_comm m (a % m), <- Nat.gcd_rec m a, Nat.gcd_comm m a], rfl⟩
           · exact ⟨hb, by show _ = _; rw [Int.natCast_emod]⟩
         · have h0 : m = 0 := by omega
           subst h0
           refine if_n (by simp) (hN2 _ ⟨r', a, _, rfl, ?_, rfl⟩)
           rw [Nat.gcd_zero_right] at hg
           rw [hg]
           exact ea
     · obtain ⟨r', g, u, e, ea, rfl⟩ := hρ
       have e' : r' = [] := by simpa using e.symm
       subst e'
       exact hN _ ⟨u, by rw [<- ea]; rfl⟩
   rintro _ ⟨u, rfl⟩
   walk_at "dls"
   exact hw
theorem qvG (F : FunX K "question" "question" qbR f fd) (qjH : Callee P w K mg base "merged_terms" 1 qiI [] []) (qgS : Callee P w K mg base "merged_outlines" 53 qiE [] []) (qfb : Callee P w K mg base "divisor" 1 qjJ [] []) : FnOk P w K mg base (L2N.CX P w) 54 f fd ["kind", "form"] (SpW K qml) := by
 refine fn_ok (k := 53) (N := qcf) 9 rfl F sc_question (λ ds Q Ed h => ?_) (λ cdv A outer s H E hr ds Qd Ed hw => ⟨_, _,
   (qaf (qat (t_eq hr (qab 0) qae)
   (qaf (qem (i := 2) rfl sc_question.nd rfl rfl (sw_true rfl rfl rfl (by decide +kernel)) (qaA (e_ix (qab 1) qad)) (blkOk_by (own := [("unknown", 3), ("times", 4)]) (N := qcf) (sc := defScope qbR) (by decide +kernel)) (qbr (qaF (qaF qbj))) (λ _ _ _ _ _ => (qaS rfl (qas (qam 3 sc_question.nd) (qas (qam 4 sc_question.nd) qaT)) (qaP [3, 4]))) (λ _ _ _ _ _ => qaH qaK (by walk_at "blk")) (λ _ _ _ _ _ => qaE (qay (qaa (qab 3) (qaa (qbX (qbY T.qa4 (qaa (qab 4) qac)) qad) qac))) (by walk_at "blk")))
   (qaf (qem (i := 5) rfl sc_question.nd rfl rfl (sw_true rfl rfl rfl (by decide +kernel)) (qaA (e_ix (qab 1) qad)) (blkOk_by (own := [("node", 6), ("times", 4)]) (N := qcf) (sc := defScope qbR) (by decide +kernel)) (qbr (qaF (qaF qbj))) (λ _ _ _ _ _ => (qaS rfl (qas (qam 6 sc_question.nd) (qas (qam 4 sc_question.nd) qaT)) (qaP [6, 4]))) (λ _ _ _ _ _ => qaH qaK (by walk_at "blk")) (λ _ _ _ _ _ => qaE (qay (qaa (qab 6) (qaa (qbX (qbY T.qa4 (qaa (qab 4) qac)) qad) qac))) (by walk_at "blk")))
   (qag (st_set 1 sc_question.nd (qay (qaa (qan qjH (mhr hr) qaq (qaa (qab 2) qac)) (qaa (qan qgS (mhr hr) qaq (qaa (qab 5) qac)) qac)))))))
   qau)
   (qaf (qat (t_eq hr (qab 1) (e_cD T.d_NOTHING))
   (qag (st_ret (e_cD T.d_NONE)))
   qau)
   (qaf (qat (t_eq hr (qab 0) qae)
   (qaf (st_set 7 sc_question.nd (qf4 (qaY rfl sc_question.nd (qaA (e_ix (qab 1) qad)) (blkOk_by (own := [("unknown", 3), ("times", 4)]) (N := qcf) (sc := defScope qbR) (by decide +kernel)) (qbr (qaF (qaF qbj))) (λ _ _ _ _ _ => (qaS rfl (qas (qam 3 sc_question.nd) (qas (qam 4 sc_question.nd) qaT)) (qaP [3, 4]))) (λ _ _ _ _ _ => qaH qaK (by walk_at "blk")) (λ _ _ _ _ _ => qaE (qab 4) (by walk_at "blk"))) (qaY rfl sc_question.nd (qaA (e_ix (qab 1) qad)) (blkOk_by (own := [("node", 6), ("times", 4)]) (N := qcf) (sc := defScope qbR) (by decide +kernel)) (qbr (qaF (qaF qbj))) (λ _ _ _ _ _ => (qaS rfl (qas (qam 6 sc_question.nd) (qas (qam 4 sc_question.nd) qaT)) (qaP [6, 4]))) (λ _ _ _ _ _ => qaH qaK (by walk_at "blk")) (λ _ _ _ _ _ => qaE (qab 4) (by walk_at "blk")))))
   (qaf (st_set 8 sc_question.nd (e_if (t_gt (e_ix (qab 7) qad) qad) (qan qfb (mhr hr) qaq (qaa (qab 7) qac)) (qri (qan qfb (mhr hr) qaq (qaa (qab 7) qac)))))
   (qaf (st_set 2 sc_question.nd (qf3 T.qbk (qaa (qaY rfl sc_question.nd (qaA (e_ix (qab 1) qad)) (blkOk_by (own := [("unknown", 3), ("times", 4)]) (N := qcf) (sc := defScope qbR) (by decide +kernel)) (qbr (qaF (qaF qbj))) (λ _ _ _ _ _ => (qaS rfl (qas (qam 3 sc_question.nd) (qas (qam 4 sc_question.nd) qaT)) (qaP [3, 4]))) (λ _ _ _ _ _ => qaH qaK (by walk_at "blk")) (λ _ _ _ _ _ => qaE (qay (qaa (qab 3) (qaa (qq7 (qab 4) (qab 8)) qac))) (by walk_at "blk"))) qac)))
   (qag (st_set 1 sc_question.nd (qay (qaa (qab 2) (qaa (qf3 T.qbk (qaa (qaY rfl sc_question.nd (qaA (e_ix (qab 1) qad)) (blkOk_by (own := [("node", 6), ("times", 4)]) (N := qcf) (sc := defScope qbR) (by decide +kernel)) (qbr (qaF (qaF qbj))) (λ _ _ _ _ _ => (qaS rfl (qas (qam 6 sc_question.nd) (qas (qam 4 sc_question.nd) qaT)) (qaP [6, 4]))) (λ _ _ _ _ _ => qaH qaK (by walk_at "blk")) (λ _ _ _ _ _ => qaE (qay (qaa (qab 6) (qaa (qq7 (qab 4) (qab 8)) qac))) (by walk_at "blk"))) qac)) qac))))))))
   qau)
   (qag (st_ret (qay (qaa (qab 0) (qaa (qab 1) qac)))))))), ?_⟩)
 · rcases h with ⟨_, _, rfl, _⟩ | ⟨_, _, rfl, _⟩ <;> rfl
 · obtain ⟨ts, os, rfl, ok, hh, hl, ho, hm, hw⟩ | ⟨ts, os, rfl, ok, hh, hl, hlo, hby, hw⟩ := hw
   try simp -implicitDefEqProofs only [qai]
   skip
   · refine qav [some (.d (.str (Str.ofString "odd"))), some (.d (fmD (qbG (qa5 ts)) (qbo (qa1 os)))), some (.d (.lst ((qa5 ts).map tmD))), none, none, some (.d (.lst (osD (qa1 os)))), none, none, none] (λ N hN => ?_) ?_
     · refine qgp (λ Q q => by walk_at "dls"; rw [beq_self_eq_true]; exact q) ?_
       refine qav [some (.d (.str (Str.ofString "odd"))), some (.d (fmD ts os)), some (.d (.lst ((qa5 ts).map tmD))), none, none, none, none, none, none] (λ N hN => ?_) ?_
       · simp? only [fmD]
         refine qaM tmD (λ p => some (tmD (p.1, p.2 % 2))) ts [] (λ p hp K1 K0 k1 _ => ?_) (by simp only [List.length_nil]; omega) ?_
         · simp -implicitDefEqProofs only [qak, List.map_cons, List.map_nil, List.set_cons_succ, List.set_cons_zero, tmD]
           walk_at "dls"
           exact ⟨by decide, k1 _ rfl⟩
         · rw [List.nil_append, qa9]
           unfold qa5 at hN
           rw [List.map_map] at hN
           exact hN
       refine qav [some (.d (.str (Str.ofString "odd"))), some (.d (fmD ts os)), some (.d (.lst ((qa5 ts).map tmD))), none, none, some (.d (.lst (osD (qa1 os)))), none, none, none] (λ N hN => ?_) ?_
       · simp? only [fmD]
         rw [qaL os]
         have h1 := ho.1
         simp only [qa1, List.length_map] at h1
         refine qaM outD (λ p => some (outD (p.1, p.2 % 2))) os [] (λ p hp K1 K0 k1 _ => ?_) (by simp only [List.length_nil]; omega) ?_
         · simp -implicitDefEqProofs only [qak, List.map_cons, List.map_nil, List.set_cons_succ, List.set_cons_zero, outD]
           walk_at "dls"
           exact ⟨by decide, k1 _ rfl⟩
         · rw [List.nil_append, qa9]
           unfold qa1 at hN
           rw [qaL (os.map _), List.map_map] at hN
           unfold fmD at hN
           rw [qaL os] at hN
           exact hN
       walk_at "dls"
       exact ⟨qa5 ts, .inl rfl, by simp only [qa5, List.length_map]; exact hl, qa1 os, .inl rfl, ho.1, ho.2.1, ho.2.2, hN⟩
     have hdat := qp3 (qbG (qa5 ts)) (qbo (qa1 os)) hm
     show dSeq _ _ _ _
     by_cases he : qbG (qa5 ts) = [] /\ qbo (qa1 os) = []
     · rw [if_pos he] at hw
       refine qgp (λ Q q => ?_) ?_
       · show _ /\ _ /\ Q (deq _ _)
         rw [qf2, decide_eq_true he]
         exact ⟨hdat, by decide, q⟩
       · exact hw
     · rw [if_neg he] at hw
       refine qfv (λ Q q => ?_) ?_
       · show _ /\ _ /\ Q (deq _ _)
         rw [qf2, decide_eq_false he]
         exact ⟨hdat, by decide, q⟩
       · dsimp only [qc4]
         refine qfv (λ Q q => by walk_at "dls"; rw [show (Str.ofString "odd" == Str.ofString "solid") = false by decide]; exact q) ?_
         walk_at "dls"
         exact hw
   · simp -implicitDefEqProofs only [qai]
     refine qav [some (.d (.str (Str.ofString "solid"))), some (.d (fmD ts os)), none, none, none, none, none, none, none] (λ N hN => ?_) ?_
     · refine qfv (λ Q q => by walk_at "dls"; rw [show (Str.ofString "solid" == Str.ofString "odd") = false by decide]; exact q) ?_
       exact hN
     have hdat := qp3 ts os hh
     show dSeq _ _ _ _
     by_cases he : ts = [] /\ os = []
     · rw [if_pos he] at hw
       refine qgp (λ Q q => ?_) ?_
       · show _ /\ _ /\ Q (deq _ _)
         rw [qf2, decide_eq_true he]
         exact ⟨hdat, by decide, q⟩
       · exact hw
     rw [if_neg he] at hw
     refine qfv (λ Q q => ?_) ?_
     · show _ /\ _ /\ Q (deq _ _)
       rw [qf2, decide_eq_false he]
       exact ⟨hdat, by decide, q⟩
     dsimp only [qc4]
     refine qav [some (.d (.str (Str.ofString "solid"))), some (.d (fmD (qcv (byOf ts os) ts) (qeC (byOf ts os) os))), some (.d (.tup ((qcv (byOf ts os) ts).map tmD))), none, none, none, none, some (.d (.lst ((qbZ ts os).map D.int))), some (.d (.int (byOf ts os)))] (λ N hN => ?_) ?_
     · refine qgp (λ Q q => by walk_at "dls"; rw [beq_self_eq_true]; exact q) ?_
       refine qav [some (.d (.str (Str.ofString "solid"))), some (.d (fmD ts os)), none, none, none, none, none, some (.d (.lst ((qbZ ts os).map D.int))), none] (λ N hN => ?_) ?_
       · simp? only [fmD]
         refine qaM tmD (λ p => some (.int p.2)) ts [] (λ p hp K1 K0 k1 _ => ?_) (by simp only [List.length_nil]; omega) ?_
         · simp -implicitDefEqProofs only [qak, List.map_cons, List.map_nil, List.set_cons_succ, List.set_cons_zero, tmD]
           walk_at "dls"
           exact k1 _ rfl
         · rw [List.nil_append, qa9, qaL os]
           refine qaM outD (λ p => some (.int p.2)) os [] (λ p hp K1 K0 k1 _ => ?_) (by simp only [List.length_nil]; omega) ?_
           · simp -implicitDefEqProofs only [qak, List.map_cons, List.map_nil, List.set_cons_succ, List.set_cons_zero, outD]
             walk_at "dls"
             exact k1 _ rfl
           · rw [List.nil_append, qa9]
             unfold qbZ fmD at hN
             rw [List.map_append, List.map_map, List.map_map, qaL os] at hN
             exact ⟨by simp only [List.length_map]; omega, hN⟩
       obtain ⟨n, r, e⟩ : ∃ n r, qbZ ts os = n :: r := by
         cases ts with
         | nil => cases os with
           | nil => exact absurd ⟨rfl, rfl⟩ he
           | cons p r => exact ⟨_, _, rfl⟩
         | cons p r => exact ⟨_, _, rfl⟩
       have hz := hby he
       refine qav [some (.d (.str (Str.ofString "solid"))), some (.d (fmD ts os)), none, none, none, none, none, some (.d (.lst ((qbZ ts os).map D.int))), some (.d (.int (byOf ts os)))] (λ N hN => ?_) ?_
       · simp -implicitDefEqProofs only [e, byOf, List.map_cons, List.headD_cons] at hN ⊢
         simp? only [qeR]
         by_cases h0 : 0 < n
         · rw [if_pos h0] at hN
           exact if_y (by simpa using h0) ⟨n :: r, rfl, hN⟩
         · rw [if_neg h0] at hN
           exact if_n (by simpa using h0) ⟨n :: r, rfl, hN⟩
       refine qav [some (.d (.str (Str.ofString "solid"))), some (.d (fmD ts os)), some (.d (.tup ((qcv (byOf ts os) ts).map tmD))), none, none, none, none, some (.d (.lst ((qbZ ts os).map D.int))), some (.d (.int (byOf ts os)))] (λ N hN => ?_) ?_
       · generalize byOf ts os = j at hN hz ⊢
         simp? only [fmD]
         refine qaM tmD (λ p => some (tmD (p.1, p.2.fdiv j))) ts [] (λ p hp K1 K0 k1 _ => ?_) (by simp only [List.length_nil]; omega) ?_
         · simp -implicitDefEqProofs only [qak, List.map_cons, List.map_nil, List.set_cons_succ, List.set_cons_zero, tmD]
           walk_at "dls"
           exact ⟨hz, k1 _ rfl⟩
         · rw [List.nil_append, qa9]
           unfold qcv at hN
           rw [List.map_map] at hN
           exact hN
       generalize byOf ts os = j at hN hz ⊢
       simp? only [fmD]
       rw [qaL os]
       refine qaM outD (λ p => some (outD (p.1, p.2.fdiv j))) os [] (λ p hp K1 K0 k1 _ => ?_) (by simp only [List.length_nil]; omega) ?_
       · simp -implicitDefEqProofs only [qak, List.map_cons, List.map_nil, List.set_cons_succ, List.set_cons_zero, outD]
         walk_at "dls"
         exact ⟨hz, k1 _ rfl⟩
       · rw [List.nil_append, qa9]
         unfold qeC fmD at hN
         rw [qaL (os.map _), List.map_map] at hN
         exact hN
     walk_at "dls"
     exact hw
theorem qwq (F : FunX K "is_name" "is_name" qfX f fd)  : FnOk P w K mg base (L2N.CX P w) 1 f fd ["value"] (SpW K qei) := by
 refine fn_ok (k := 0) (N := qhs) 2 rfl F sc_is_name (λ ds Q Ed h => ?_) (λ cdv A outer s H E hr ds Qd Ed hw => ⟨_, _,
   (qaf (qat (t_w (w_or (qb0 (qbd (qa8 T.qaR (qaa (qab 0) (qaa (b_ty "str" T.qbz) qac))))) (qc7 (qb0 (qCw qad (qb7 T.qbt (qaa (qab 0) qac)) qad)))))
   (qag (st_ret e_bl))
   qau)
   (qag (st_ret (qeH (qh6 rfl T.qcE (qaa (qaY rfl sc_is_name.nd (qoo (qab 0)) (blkOk_by (own := [("letter", 1)]) (N := qhs) (sc := defScope qfX) (by decide +kernel)) qbe (λ _ _ _ _ _ => (qam 1 sc_is_name.nd)) (λ _ _ _ _ _ => qaH qaK (by walk_at "blk")) (λ _ _ _ _ _ => qaE (e_in hr (qab 1) (qpI T.d_LETTERS)) (by walk_at "blk"))) qac)) (qfR (qvV hr (qab 0) (e_cD T.d_WORDS))))))), ?_⟩)
 · obtain ⟨_, rfl, _⟩ := h
   rfl
 · obtain ⟨v, rfl, sv, hw⟩ := hw
   try simp -implicitDefEqProofs only [qai]
   rcases sv with (rfl | ⟨i, rfl⟩ | ⟨s, rfl, hl⟩) | ⟨b, rfl⟩ | ⟨xs, rfl⟩ | ⟨xs, rfl⟩
   · walk_at "dls"
     exact hw
   · walk_at "dls"
     exact hw
   · obtain ⟨l, rfl⟩ : ∃ l : List Nat, s = ⟨l.toArray⟩ := ⟨s.cps.toList, by simp⟩
     have hlen : (Str.mk l.toArray).length = l.length := rfl
     rw [hlen] at hl
     by_cases hb : 1 <= l.length /\ l.length <= 8
     · refine qav [some (.d (.str ⟨l.toArray⟩)), none] (λ N hN => ?_) ?_
       · walk_at "dls"
         refine ⟨qbf (by rw [hlen]; omega), ?_⟩
         rw [hlen, decide_eq_true (show (1 : Int) <= (l.length : Int) by omega), decide_eq_true (show (l.length : Int) <= 8 by omega)]
         exact hN
       have e1 : qaw (.str ⟨l.toArray⟩) = ((l.all λ c => decide (c ∈ (Str.ofString "abcdefghijklmnopqrstuvwxyz").cps.toList)) && !(wordsL.any (· == (⟨l.toArray⟩ : Str)))) := by
         show (decide (1 <= l.length /\ l.length <= 8) && _ && _) = _
         rw [decide_eq_true hb, Bool.true_and]
       rw [e1] at hw
       simp only [wordsL, List.any_cons, List.any_nil, Bool.or_false] at hw
       walk_at "dls"
       refine qaM (λ c : Nat => D.str ⟨#[c]⟩) (λ c => some (D.bl (decide (c ∈ (Str.ofString "abcdefghijklmnopqrstuvwxyz").cps.toList)))) l [] (λ c hcm K1 K0 k1 _ => ?_) (by simp only [List.length_nil]; omega) ?_
       · simp? only [qak, List.map_cons, List.map_nil, List.set_cons_succ, List.set_cons_zero]
         exact ⟨c, rfl, k1 _ rfl⟩
       · rw [List.nil_append, qa9]
         have e : l.map (λ c => D.bl (decide (c ∈ (Str.ofString "abcdefghijklmnopqrstuvwxyz").cps.toList))) = (l.map λ c => decide (c ∈ (Str.ofString "abcdefghijklmnopqrstuvwxyz").cps.toList)).map D.bl := by rw [List.map_map]; rfl
         dsimp only
         rw [e, qgt]
         dsimp only
         rw [List.all_map]
         cases ha : l.all λ c => decide (c ∈ (Str.ofString "abcdefghijklmnopqrstuvwxyz").cps.toList)
         · rw [ha] at hw
           rw [if_neg (by rw [show l.all (id ∘ λ c => decide (c ∈ (Str.ofString "abcdefghijklmnopqrstuvwxyz").cps.toList)) = false from ha]; decide)]
           exact hw
         · rw [ha] at hw
           exact if_y ha hw
     · have e1 : qaw (.str ⟨l.toArray⟩) = false := by
         show (decide (1 <= l.length /\ l.length <= 8) && _ && _) = false
         rw [decide_eq_false hb, Bool.false_and, Bool.false_and]
       rw [e1] at hw
       refine qci λ N => ?_
       walk_at "dls"
       refine ⟨qbf (by rw [hlen]; omega), ?_⟩
       rw [hlen]
       by_cases h1 : 1 <= l.length
       · rw [decide_eq_true (show (1 : Int) <= (l.length : Int) by omega), decide_eq_false (p := (l.length : Int) <= 8) (λ z => hb ⟨h1, by omega⟩)]
         exact hw
       · rw [decide_eq_false (p := (1 : Int) <= (l.length : Int)) (λ z => h1 (by omega))]
         exact hw
   · walk_at "dls"
     exact hw
   · walk_at "dls"
     exact hw
   · walk_at "dls"
     exact hw
theorem qnO (F : FunX K "__init__" "Path.__init__" qey f fd) (qfe : Callee P w K mg base "check_times" 2 qgM [] []) (qgg : Callee P w K mg base "check_shifts" 2 qjL [] []) (qfi : Callee P w K mg base "check_size" 2 qiW [] []) (qcY : Callee P w K mg base "form_unknowns" 52 (qfc 25) [] []) (qdv : Callee P w K mg base "form_size" 52 (qfM 25) [] []) (qdy : Callee P w K mg base "form_depth" 52 (qe8 25) [] []) : FnOk P w K mg base (L2N.CX P w) 54 f fd ["self", "form"] (SpI K qap qhC) := by
 refine qxe (k := 53) (N := qqz) 1 rfl F qBi (λ ds Q Ed h => ?_) (λ cdv A outer s H E hr x ds Qf Ed hw => ⟨_, _,
   (qaf (qhP (qan qfe (mhr hr) qaq (qaa (qab 1) qac)))
   (qaf (qhP (qan qgg (mhr hr) qaq (qaa (qan qcY (mhr hr) qaq (qaa (qab 1) qac)) qac)))
   (qaf (qh0 0 T.qbH T.qdq (qab 1))
   (qaf (qh0 0 T.qbH T.qcQ (qan qdv (mhr hr) qaq (qaa (qab 1) qac)))
   (qaf (qh0 0 T.qbH T.qdk (qan qdy (mhr hr) qaq (qaa (qab 1) qac)))
   (qag (qhP (qan qfi (mhr hr) qaq (qaa (qrt 0 T.qbH T.qcQ) (qaa (qrt 0 T.qbH T.qdk) qac)))))))))), ?_⟩)
 · obtain ⟨_, _, rfl, _⟩ := h
   rfl
 · obtain ⟨ts, os, rfl, ok, hw⟩ := hw
   simp -implicitDefEqProofs only [qai, List.set_cons_zero, List.cons_append, List.nil_append]
   walk_at "dls"
   refine ⟨ts, os, rfl, ok.t1, ok.t2, ts, os, rfl, ok.ht, by decide, ok.fm, ok.few, fmU ts os, rfl, ok.sh, ts, os, rfl, ok.ht, by decide, ok.fm, ts, os, rfl, ok.ht, by decide, ok.fm, ?_⟩
   have n1 : ¬ (Str.ofString "form" = Str.ofString "size") := by decide
   have n2 : ¬ (Str.ofString "form" = Str.ofString "depth") := by decide
   have n3 : ¬ (Str.ofString "size" = Str.ofString "depth") := by decide
   have n4 : ¬ (Str.ofString "depth" = Str.ofString "size") := by decide
   simp -implicitDefEqProofs only [n1, n2, n3, n4, if_false, if_true, fput, fget, List.length_cons, List.length_nil]
   have z1 := ok.size
   have z2 := ok.dep
   exact ⟨by decide, _, _, rfl, by omega, by omega, hw⟩
theorem qzY (F : FunX K "curve" "Path.curve" qcy f fd) (qc1 : Callee P w K mg base "is_name" 1 qei [] []) (qcD : qfp P w K mg "InvalidName" qar 1 (λ _ => True) (mk1 "value" "InvalidName")) (qbH : Maker P w K mg base "Path" qap 54 qhC [] []) : FnOk P w K mg base (L2N.CX P w) 56 f fd ["cls", "name"] (SpW K (qdD qap qar)) := by
 refine fn_ok (k := 55) (N := qlR) 2 rfl F qBT (λ ds Q Ed h => ?_) (λ cdv A outer s H E hr ds Qd Ed hw => ⟨_, _,
   (qaf (qat (qb0 (qbd (qan qc1 (mhr hr) qaq (qaa (qab 1) qac))))
   (qag (st_raise (k := 0) qcD (mhr hr) rfl qmo (qaa (qab 1) qac)))
   qau)
   (qag (st_ret (qxZ 0 qbH (mhr hr) qaq (qaa (qay (qaa (qay (qaa (qay (qaa (qay (qaa (qab 1) (qaa qad (qaa qad (qaa qad (qaa qad qac)))))) (qaa qad qac))) qac)) (qaa (qay qac) qac))) qac))))), ?_⟩)
 · obtain ⟨_, rfl, _⟩ := h
   rfl
 · obtain ⟨v, rfl, sv, hw⟩ := hw
   try simp -implicitDefEqProofs only [qai]
   cases e : qaw v with
   | false =>
     rw [e, if_neg (by decide)] at hw
     refine qci λ N => ?_
     walk_at "dls"
     refine ⟨v, rfl, sv, ?_⟩
     rw [e]
     exact if_y (by decide) hw
   | true =>
     rw [e, if_pos rfl] at hw
     obtain ⟨s, rfl⟩ : ∃ s, v = .str s := by
       cases v with
       | str s => exact ⟨s, rfl⟩
       | _ => cases e
     have hs := NmOk.of (qkY e)
     simp? only [qeL]
     refine ⟨.str s, rfl, sv, ?_⟩
     rw [e]
     refine if_n (by decide) ⟨[(⟨s, Mv.one⟩, 1)], [], rfl, ?_, hw s rfl⟩
     exact PGo.ok (x := ([(⟨s, Mv.one⟩, 1)], [])) (qlS hs Mv.one_ok ⟨⟨by decide, by decide⟩, by decide, by decide⟩ (by decide) (by decide))
theorem qB3 (F : FunX K "__str__" "Path.__str__" qhU f fd) (qdJ : Callee P w K mg base "form_text" 52 (qgj 25) [] []) : FnOk P w K mg base (L2N.CX P w) 107 f fd ["self"] (SpW K (qdo qap)) := by
 refine fn_ok (k := 106) (N := qog) 1 rfl F qyx (λ ds Q Ed h => ?_) (λ cdv A outer s H E hr ds Qd Ed hw => ⟨_, _,
   (qag (st_ret (qyb (qbh (qan qdJ (mhr hr) qaq (qaa (quP T.qbH T.qdq (qab 0)) qac)))))), ?_⟩)
 · obtain ⟨_, rfl, _⟩ := h
   rfl
 · obtain ⟨x, rfl, gx, hw⟩ := hw
   try simp -implicitDefEqProofs only [qai]
   simp only [pD, qjK]
   simp? only [qf8, fget, if_true]
   have z := gx.s
   have ok := gx.ok
   have z1 := qgs ok.fm.2.2.1
   have z2 := qfq x.2 ok.fm.2.2.2
   refine ⟨x.1, x.2, rfl, gx.ht, by decide, ok.fm, by omega, ?_, hw⟩
   have z3 := qm9 (x.1.map tmP ++ osP x.2) (by
     intro p hp
     rcases List.mem_append.mp hp with hp | hp
     · obtain ⟨q, hq, rfl⟩ := List.mem_map.mp hp
       exact qiA (ok.fm.2.2.1 q hq).1 (ok.fm.2.2.1 q hq).2
     · rw [qel] at hp
       obtain ⟨q, hq, rfl⟩ := List.mem_map.mp hp
       exact (ok.fm.2.2.2.mem q hq).2)
   rw [qg9] at z3
   exact qbf (Nat.le_trans z3 (by omega))
theorem qtz (F : FunX K "curves_of" "curves_of" qcF f fd) {ks : List Str} {g : List Value -> List Value -> List Value} {gV : List V -> List V -> List V} (hb : BndV K fd [] "names" 0 ks g gV) (qdz : CMt P w K mg base qap "curve" 56 (qdD qap qar) [] []) : FnV P w K mg base (L2N.CX P w) 57 f ks (SpV K 0 gV (qdS qap qar)) := by
 refine qBv (ps := []) (pv := "names") (k := 56) (N := qgR) 2 rfl F sc_curves_of hb (λ ds Q Ed h => ?_) (λ cdv A outer s H E hr ds Qd Ed hw => ⟨_, _,
   (qag (st_ret (qvQ qmo rfl sc_curves_of.nd (qaA (qab 0)) (blkOk_by (own := [("name", 1)]) (N := qgR) (sc := defScope qcF) (by decide +kernel)) qbe (λ _ _ _ _ _ _ => (qam 1 sc_curves_of.nd)) (λ _ _ _ _ _ _ => qaH qaK (by walk_at "blk")) (λ _ _ _ _ _ _ hpR => qaE (e_cm qdz (mhr hr) hpR (qo8 T.m_Path) (qaa (qab 1) qac)) (by walk_at "blk"))))), ?_⟩)
 · obtain ⟨_, rfl, _⟩ := h
   rfl
 · obtain ⟨vs, rfl, ⟨hv, hl⟩, hw⟩ := hw
   try simp -implicitDefEqProofs only [qai]
   walk_at "dls"
   refine qnk (λ v => pD qap (tmF (strD v) Mv.one 1)) (λ v => !qaw v) vs [] (by simp only [List.length_nil]; omega) (λ v hm hb K1 k1 => ?_) (λ v hf K1 => ?_) λ hn => ?_
   · have hb : qaw v = true := by simpa using hb
     simp -implicitDefEqProofs only [qak, List.map_cons, List.map_nil, List.set_cons_succ, List.set_cons_zero]
     walk_at "dls"
     refine ⟨v, rfl, hv v hm, ?_⟩
     rw [if_pos hb]
     rintro s rfl
     exact k1
   · have hm := List.mem_of_find?_eq_some hf
     have hb : qaw v = false := by simpa using List.find?_some hf
     rw [hf] at hw
     simp -implicitDefEqProofs only [qak, List.map_cons, List.map_nil, List.set_cons_succ, List.set_cons_zero]
     walk_at "dls"
     refine ⟨v, rfl, hv v hm, ?_⟩
     rw [if_neg (by rw [hb]; decide)]
     exact hw
   · rw [hn] at hw
     exact hw
theorem que (F : FunX K "_law_bag" "_law_bag" qeo f fd) : FnOk P w K mg base (L2N.CX P w) 1 f fd ["_law_script"] (SpW K qeZ) := by
 refine qyL (F.okX (k := 0) (N := qj0) qx6 (λ vs H Q E h => ?_) (λ cdv A outer s H vs Q E hr h => ⟨_, (show JB (bx P w K mg base qj0 "_law_bag" qeo f cdv A outer s H E) (λ _ => False) E (defBody qeo) _ _ from
   (qag (st_ret (qbp (qaa (quv T.qbQ (qaa (qka (qab 0) qdO (qct qad)) qac)) (qaa qad (qaa qad (qaa qad (qaa qad qac))))))))).pe, ?_⟩)) rfl
 · obtain ⟨a, ns, rfl, _⟩ := h
   rfl
 · obtain ⟨a, ns, rfl, ha, hq⟩ := h
   have hc : cutV (ns.map V.int) none (some 63) = (ns.take 63).map V.int := by
     unfold cutV
     simp only [HT.sIx, List.length_map, <- List.map_drop, <- List.map_take]
     congr 1
     simp only [List.drop_zero]
     rw [if_neg (by decide), Nat.sub_zero, <- List.take_take, List.take_length]
     rfl
   exact ⟨.ref a, rfl, 63, rfl, a, _, rfl, ha, λ p1 h1 => ⟨p1, _, rfl, .inl (SqL.of upd_same), λ l hl => ⟨(show 5 <= sizeLine by decide), λ p hp => hq p l _ ((same_upd h1).trans ((same_upd hl).trans (same_upd hp))) ((same_upd h1).trans (same_upd hl) |>.free hp) ((same_upd h1).free hl) (by rw [upd_ne (ne_of_none upd_same hp), upd_same, hc]) (by rw [upd_same]; rfl)⟩⟩⟩
theorem qCc (F : FunX K "_law_pull" "_law_pull" qjr f fd) : FnOk P w K mg base (L2N.CX P w) 1 f fd ["_law_bag_here", "_law_many"] (SpW K qbb) := by
 refine qzn (qr8 (k := 0) (N := qqS) 6 rfl F sc_law_pull (λ xs ds Q Ed h => ?_) (λ cdv A outer s H E hr q xs ds Qf Ed hw => ⟨_, _,
   (qaf (qcM 0 (qaD (qa3 0 qad) qad) qad)
   (qaf (qat (t_w (w_and (t_eq hr (qa3 0 qad) qad) (qmq (t_lt (qa3 0 qad) (qb7 T.qbt (qaa (qa3 0 qad) qac))))))
   (qaf (st_set 2 sc_law_pull.nd (e_ix (qa3 0 qad) (qa3 0 qad)))
   (qaf (qcM 0 (qaD (qa3 0 qad) qad) qad)
   (qag (qat (t_ge (qcg T.qbm (qaa (qab 2) qac)) (qwQ qad qad))
   (qag (qcM 0 (qcg T.qbm (qaa (qab 2) qac)) qad))
   (qaf (st_set 3 sc_law_pull.nd (qaD (qbW (qbX (qbY T.qa4 (qaa (qab 2) qac)) qad) qad) qad))
   (qag (qcM 0 (qbX (qbY T.qa4 (qaa (qaD (qbW (qa3 0 qad) qad) (qab 3)) qac)) qad) qad)))))))
   qau)
   (qaf (qat (t_gt (qa3 0 qad) qad)
   (qaf (st_set 4 sc_law_pull.nd (qbX (qbY T.qa4 (qaa (qa3 0 qad) qac)) (qab 1)))
   (qaf (qcM 0 (qmc (qa3 0 qad) (qab 1)) qad)
   (qag (st_ret (qab 4)))))
   qau)
   (qaf (st_set 5 sc_law_pull.nd (qa3 0 qad))
   (qaf (st_set 6 sc_law_pull.nd (qaD (qaD (qbW (qab 5) qad) (qbW (qa3 0 qad) qad)) qad))
   (qaf (qcM 0 (qbX (qbY T.qa4 (qaa (qaD (qbW (qbW (qab 5) (qab 5)) qad) (qab 6)) qac)) qad) qad)
   (qag (st_ret (qbX (qbY T.qa4 (qaa (qaD (qmc (qa3 0 qad) qad) (qbW (qbX (qbY T.qa4 (qaa (qa3 0 qad) qac)) qad) qad)) qac)) (qab 1)))))))))), ?_⟩)) rfl
 · obtain ⟨_, _, _, _, _, _, _, _, rfl, _⟩ := h
   rfl
 · obtain ⟨c, ns, i, g, sd, n, m, rfl, rfl, hl, i0, i1, g0, s0, s1, m0, m1, hq⟩ := hw
   simp -implicitDefEqProofs only [qai, List.set_cons_zero, List.cons_append, List.nil_append, bagD]
   refine qav [some (.lst q (bagD c ns i g sd (n + 1))), some (.d (.int m)), none, none, none, none, none] (λ N hN => by walk_at "dl"; exact hN) ?_
   refine qaJ (λ ρ => ∃ i g s n u v, 0 <= i /\ i <= (ns.length : Int) /\ 0 <= g /\ 0 <= s /\ s < 2147483587 /\ ρ = [some (.lst q (bagD c ns i g s n)), some (.d (.int m)), u, v, none, none, none]) (λ N hN => ?_) (λ ρ hρ => ?_)
   · simp only [bagD]
     by_cases hg : g = 0
     · by_cases hi : i < (ns.length : Int)
       · obtain ⟨v, hv⟩ := qz7 (f := D.int) i0 hi
         subst hg
         simp? only [hv, hi]
         exact ⟨⟨by decide, by decide, by decide⟩, if_c (λ h => hN _ ⟨i + 1, _, sd, n + 1, _, _, by omega, by omega, by split <;> omega, s0, s1, rfl⟩) λ h => ⟨by decide, .inr ⟨by decide, by decide⟩, .inr ⟨by decide, by decide⟩, by decide, hN _ ⟨i + 1, 0, _, n + 1, _, _, by omega, by omega, by omega, Int.emod_nonneg _ (by decide), Int.emod_lt_of_pos _ (by decide), rfl⟩⟩⟩
       · subst hg
         simp? only [hi]
         exact hN _ ⟨i, 0, sd, n + 1, _, _, i0, i1, g0, s0, s1, rfl⟩
     · simp? only [hg]
       exact hN _ ⟨i, g, sd, n + 1, _, _, i0, i1, g0, s0, s1, rfl⟩
   · obtain ⟨i, g, s, n, u, v, i0, i1, g0, s0, s1, rfl⟩ := hρ
     simp only [bagD]
     walk_at "dl"
     exact if_c (λ hg => ⟨m0, qq9 m0 m1, hq i (g / m) s n _ i0 i1 (Int.ediv_nonneg g0 (by omega)) s0 s1 (Int.emod_nonneg _ (by omega)) (Int.emod_lt_of_pos _ m0)⟩) λ hg => ⟨.inr ⟨by decide, by decide⟩, .inr ⟨by decide, by decide⟩, .inl ⟨by omega, by omega⟩, .inr ⟨by decide, by decide⟩, by decide, qq9 (by decide) (by decide), by decide, .inr ⟨by decide, by decide⟩, m0, hq i g _ n _ i0 i1 g0 (Int.emod_nonneg _ (by decide)) (Int.emod_lt_of_pos _ (by decide)) (Int.emod_nonneg _ (by omega)) (Int.emod_lt_of_pos _ m0)⟩
theorem qw1 (F : FunX K "_law_of" "_law_of" qgI f fd) (qbs : Callee P w K mg base "_law_pull" 1 qbb [] []) : FnOk P w K mg base (L2N.CX P w) 2 f fd ["_law_bag_here", "_law_things"] (SpW K qb9) := by
 refine fn_ok (k := 1) (N := qnL) 2 rfl F qtX (λ ds Q Ed h => ?_) (λ cdv A outer s H E hr ds Qd Ed hw => ⟨_, _,
   (qag (st_ret (e_ix (qab 1) (qan qbs (mhr hr) qaq (qaa (qab 0) (qaa (qb7 T.qbt (qaa (qab 1) qac)) qac)))))), ?_⟩)
 · obtain ⟨_, rfl, _⟩ := h
   rfl
 · obtain ⟨xs, rfl, hn, hl, hw⟩ := hw
   simp -implicitDefEqProofs only [qai]
   simp? only [qbb]
   refine ⟨⟨by omega, by omega⟩, λ d d0 d1 => ?_⟩
   obtain ⟨j, rfl⟩ := Int.eq_ofNat_of_zero_le d0
   have hj : j < xs.length := by omega
   rw [atI_nat (List.getElem?_eq_getElem hj)]
   exact hw _ (List.getElem_mem hj)
theorem qlj (F : FunX K "_law_same" "_law_same" qdR f fd) {n k : Nat} {wpc : Wp} (c : Callee P w K mg base "_law_same" k wpc [] []) (hc : ∀ m, n = m + 1 -> wpc = qbl m) : FnOk P w K mg base (L2N.CX P w) (k + 1) f fd ["_law_found", "_law_due"] (SpW K (qbl n)) := by
 refine fn_ok (k := k) (N := qhN) 4 rfl F sc_law_same (λ ds Q Ed h => ?_) (λ cdv A outer s H E hr ds Qd Ed hw => ⟨_, _,
   (qaf (qat (t_w (w_or (qpp (qab 1)) (qc7 (qpp (qab 0)))))
   (qag (st_ret (qeH (qpb (qab 1)) (qfR (qpb (qab 0))))))
   qau)
   (qaf (qat (t_w (w_or (qbd (qa8 T.qaR (qaa (qab 1) (qaa (b_ty "bool" T.qb5) qac)))) (qc7 (qbd (qa8 T.qaR (qaa (qab 0) (qaa (b_ty "bool" T.qb5) qac)))))))
   (qag (st_ret (qeH (qa8 T.qaR (qaa (qab 1) (qaa (b_ty "bool" T.qb5) qac))) (qeH (qa8 T.qaR (qaa (qab 0) (qaa (b_ty "bool" T.qb5) qac))) (qfR (e_eq hr (qab 0) (qab 1)))))))
   qau)
   (qaf (qat (t_w (w_or (qbd (qqK T.qaR (qab 1) (qaa (b_ty "list" T.qbQ) (qaa (b_ty "tuple" T.qbk) qac)))) (qc7 (qbd (qqK T.qaR (qab 0) (qaa (b_ty "list" T.qbQ) (qaa (b_ty "tuple" T.qbk) qac)))))))
   (qaf (qat (t_ne hr (qa8 T.qaR (qaa (qab 1) (qaa (b_ty "list" T.qbQ) qac))) (qa8 T.qaR (qaa (qab 0) (qaa (b_ty "list" T.qbQ) qac))))
   (qag (st_ret e_bl))
   qau)
   (qaf (qat (t_w (w_or (t_ne hr (qa8 T.qaR (qaa (qab 1) (qaa (b_ty "tuple" T.qbk) qac))) (qa8 T.qaR (qaa (qab 0) (qaa (b_ty "tuple" T.qbk) qac)))) (qc7 (t_ne hr (qb7 T.qbt (qaa (qab 0) qac)) (qb7 T.qbt (qaa (qab 1) qac))))))
   (qag (st_ret e_bl))
   qau)
   (qag (st_ret (qh6 rfl T.qcE (qaa (qaY rfl sc_law_same.nd (qsz T.qdB (qaa (qab 0) (qaa (qab 1) qac))) (blkOk_by (own := [("_law_a", 2), ("_law_b", 3)]) (N := qhN) (sc := defScope qdR) (by decide +kernel)) (qbr (qaF (qaF qbj))) (λ _ _ _ _ _ => (qaS rfl (qas (qam 2 sc_law_same.nd) (qas (qam 3 sc_law_same.nd) qaT)) (qaP [2, 3]))) (λ _ _ _ _ _ => qaH qaK (by walk_at "blk")) (λ _ _ _ _ _ => qaE (qan c (mhr hr) qbJ (qaa (qab 2) (qaa (qab 3) qac))) (by walk_at "blk"))) qac))))))
   qau)
   (qaf (qat (t_ne hr (qa8 T.qaR (qaa (qab 1) (qaa (b_ty "int" T.qa4) qac))) (qa8 T.qaR (qaa (qab 0) (qaa (b_ty "int" T.qa4) qac))))
   (qag (st_ret e_bl))
   qau)
   (qag (st_ret (qeH (e_eq hr (qa8 T.qaR (qaa (qab 1) (qaa (b_ty "str" T.qbz) qac))) (qa8 T.qaR (qaa (qab 0) (qaa (b_ty "str" T.qbz) qac)))) (qfR (e_eq hr (qab 0) (qab 1)))))))))), ?_⟩)
 · unfold qbl at h
   split at h
   · rfl
   · exact h.elim
 · unfold qbl at hw
   split at hw
   · rename_i x y
     obtain ⟨hx, hy, hf, hq⟩ := hw
     have px : (x = .non ∨ (∃ b, x = .bl b) ∨ (∃ i, x = .int i) ∨ (∃ s, x = .str s)) ∨ (∃ xs, x = .tup xs) ∨ ∃ xs, x = .lst xs := by
       cases x <;> simp [D.isData] at hx ⊢
     have py : (y = .non ∨ (∃ b, y = .bl b) ∨ (∃ i, y = .int i) ∨ (∃ s, y = .str s)) ∨ (∃ xs, y = .tup xs) ∨ ∃ xs, y = .lst xs := by
       cases y <;> simp [D.isData] at hy ⊢
     rcases px with px | ⟨xs, rfl⟩ | ⟨xs, rfl⟩
     · rcases px with rfl | ⟨b, rfl⟩ | ⟨i, rfl⟩ | ⟨t, rfl⟩ <;> rcases py with (rfl | ⟨b2, rfl⟩ | ⟨i2, rfl⟩ | ⟨t2, rfl⟩) | ⟨ys, rfl⟩ | ⟨ys, rfl⟩ <;> (walk_at "dl"; first | exact hq | (simp_all [qaU]; done))
     · rcases py with py | ⟨ys, rfl⟩ | ⟨ys, rfl⟩
       · rcases py with rfl | ⟨b2, rfl⟩ | ⟨i2, rfl⟩ | ⟨t2, rfl⟩ <;> (walk_at "dl"; first | exact hq | (simp_all [qaU]; done))
       ·
         walk_at "dl"
         cases n with
         | zero => exact absurd hx (by simp [D.isData])
         | succ n =>
           obtain ⟨f1, f2⟩ := Bool.and_eq_true_iff.mp (show (decide (xs.length <= 90000) && qbC xs) = true from hf)
           refine if_n (by decide) (if_n (by decide) (if_c (λ hl => ?_) λ hl => ?_))
           · rw [show qaU (.tup xs) (.tup ys) = false from qhO (λ z => by rw [z] at hl; simp at hl)] at hq
             exact hq
           · exact qrs (hc n rfl) hx hy (of_decide_eq_true f1) f2 (by simp at hl; omega) hq
       · (walk_at "dl"; first | exact hq | (simp_all [qaU]; done))
     · rcases py with py | ⟨ys, rfl⟩ | ⟨ys, rfl⟩
       · rcases py with rfl | ⟨b2, rfl⟩ | ⟨i2, rfl⟩ | ⟨t2, rfl⟩ <;> (walk_at "dl"; first | exact hq | (simp_all [qaU]; done))
       · (walk_at "dl"; first | exact hq | (simp_all [qaU]; done))
       ·
         walk_at "dl"
         cases n with
         | zero => exact absurd hx (by simp [D.isData])
         | succ n =>
           obtain ⟨f1, f2⟩ := Bool.and_eq_true_iff.mp (show (decide (xs.length <= 90000) && qbC xs) = true from hf)
           refine if_n (by decide) (if_n (by decide) (if_c (λ hl => ?_) λ hl => ?_))
           · rw [show qaU (.lst xs) (.lst ys) = false from qhO (λ z => by rw [z] at hl; simp at hl)] at hq
             exact hq
           · exact qrs (hc n rfl) hx hy (of_decide_eq_true f1) f2 (by simp at hl; omega) hq
   · exact hw.elim
omit T in
theorem qqh {f : Addr} {fd : FuncData} (T : Txt K mg qaI qaO qar qap) (F : FunX K "_law_same" "_law_same" qdR f fd) (g : mg "_law_same" = some (.ref f)) (b : Binds K fd ["_law_found", "_law_due"] []) : ∀ n : Nat, FnOk P w K mg base (L2N.CX P w) (n + 1) f fd ["_law_found", "_law_due"] (SpW K (qbl n))
 | 0 => qlj T F (quj F g b) λ m e => nomatch e
 | n + 1 => qlj T F (qax F g (qqh T F g b n) b) λ m e => by
   cases e
   rfl
theorem qzV (F : FunX K "_law_name" "_law_name" qhV f fd) (qbs : Callee P w K mg base "_law_pull" 1 qbb [] []) (qbT : Callee P w K mg base "_law_of" 2 qb9 [] []) : FnOk P w K mg base (L2N.CX P w) 3 f fd ["_law_bag_here"] (SpW K qek) := by
 refine fn_ok (k := 2) (N := qlf) 5 rfl F sc_law_name (λ ds Q Ed h => ?_) (λ cdv A outer s H E hr ds Qd Ed hw => ⟨_, _,
   (qaf (st_set 1 sc_law_name.nd qae)
   (qaf (st_set 2 sc_law_name.nd (qan qbT (mhr hr) qaq (qaa (qab 0) (qaa (qbp (qaa qae (qaa qae (qaa qae (qaa qae (qaa qae qac)))))) qac))))
   (qaf (qbM (passes_of rfl) rfl (qi5 T.qcr (qaa (qan qbs (mhr hr) qaq (qaa (qab 0) (qaa qad qac))) qac)) (qam 3 sc_law_name.nd)
   (qag (st_set 2 sc_law_name.nd (qaD (qab 2) (e_ix (qab 1) (qan qbs (mhr hr) qaq (qaa (qab 0) (qaa qad qac))))))))
   (qaf (st_set 4 sc_law_name.nd (qay (qaa qae (qaa qae (qaa qae (qaa qae (qaa qae (qaa qae (qaa qae (qaa qae (qaa qae (qaa qae (qaa qae (qaa qae qac))))))))))))))
   (qaf (qat (t_in hr (qab 2) (qab 4))
   (qag (st_ret (qaD qae (qiP (qab 2) (qct qad) (qct qad)))))
   qau)
   (qag (st_ret (qab 2)))))))), ?_⟩)
 · unfold qek at h
   split at h
   · rfl
   · exact h.elim
 · unfold qek at hw
   split at hw
   · simp -implicitDefEqProofs only [qai]
     refine qav [some (.d .bag), some (.d (.str "abcdefghijklmnopqrstuvwxyz")), none, none, none] (λ N hN => by walk_at "dl"; exact hN) ?_
     refine qaJ (λ ρ => ∃ s, PreName 0 s /\ ρ = [some (.d .bag), some (.d (.str "abcdefghijklmnopqrstuvwxyz")), some (.d (.str s)), none, none]) (λ N hN => ?_) ?_
     · simp? only [qb9]
       refine ⟨_, rfl, by decide, by decide, λ x hx => ?_⟩
       have hx : x = .str "a" ∨ x = .str "b" ∨ x = .str "c" ∨ x = .str "q" ∨ x = .str "z" := by simpa using hx
       rcases hx with rfl | rfl | rfl | rfl | rfl
       · exact hN _ ⟨_, ⟨[97], by decide +kernel, by decide, by decide, by decide, _, _, rfl, by decide⟩, rfl⟩
       · exact hN _ ⟨_, ⟨[98], by decide +kernel, by decide, by decide, by decide, _, _, rfl, by decide⟩, rfl⟩
       · exact hN _ ⟨_, ⟨[99], by decide +kernel, by decide, by decide, by decide, _, _, rfl, by decide⟩, rfl⟩
       · exact hN _ ⟨_, ⟨[113], by decide +kernel, by decide, by decide, by decide, _, _, rfl, by decide⟩, rfl⟩
       · exact hN _ ⟨_, ⟨[122], by decide +kernel, by decide, by decide, by decide, _, _, rfl, by decide⟩, rfl⟩
     rintro ρ ⟨s0, hs0, rfl⟩
     refine qaJ (λ ρ => ∃ s u, PreName 7 s /\ ρ = [some (.d .bag), some (.d (.str "abcdefghijklmnopqrstuvwxyz")), some (.d (.str s)), u, none]) (λ N hN => ?_) ?_
     · simp? only [qbb]
       refine ⟨⟨by decide, by decide⟩, λ d d0 d1 => ⟨by omega, qbc (λ xs ρ => ∃ s u, xs.length <= 7 /\ PreName (7 - xs.length) s /\ ρ = [some (.d .bag), some (.d (.str "abcdefghijklmnopqrstuvwxyz")), some (.d (.str s)), u, none]) _ _ ?_ (λ x r ρ hρ N2 hN2 => ?_) (λ ρ hρ => ?_)⟩⟩
       · have hl : (qbu 0 d.toNat).length = d.toNat := by simp [qbu]
         exact ⟨s0, none, by omega, hs0.mono (by omega), rfl⟩
       · obtain ⟨s, u, hl, hs, rfl⟩ := hρ
         simp? only [qbb]
         refine ⟨⟨by decide, by decide⟩, λ d d0 d1 => ⟨by decide, ?_⟩⟩
         obtain ⟨j, rfl⟩ := Int.eq_ofNat_of_zero_le d0
         have hj : j < (("abcdefghijklmnopqrstuvwxyz" : Str)).cps.toList.length := by rw [qh5]; simp; omega
         rw [atI_nat (List.getElem?_eq_getElem hj)]
         simp only [List.length_cons] at hl hs
         have hs1 := hs.grow (qnf (List.getElem_mem hj))
         refine ⟨?_, hN2 _ ⟨_, _, by omega, hs1.mono (by omega), rfl⟩⟩
         have hlen := hs.len
         have e1 : (Str.mk #[(("abcdefghijklmnopqrstuvwxyz" : Str)).cps.toList[j]]).length = 1 := rfl
         rw [e1, sizeLine_eq]
         omega
       · obtain ⟨s, u, hl, hs, rfl⟩ := hρ
         exact hN _ ⟨s, u, hs, rfl⟩
     rintro ρ ⟨s, u, hs, rfl⟩
     refine qav [some (.d .bag), some (.d (.str "abcdefghijklmnopqrstuvwxyz")), some (.d (.str s)), u, some (.d (.tup (takenL.map D.str)))] (λ N hN => by walk_at "dl"; exact hN) ?_
     walk_at "dls"
     refine ⟨by decide, if_c (λ h => ?_) λ h => ?_⟩
     · have hm : s ∈ takenL := by
         obtain ⟨z, hz, e⟩ := List.any_eq_true.mp h
         obtain ⟨t, ht, rfl⟩ := List.mem_map.mp hz
         have e : t = s := by simpa [deq] using e
         exact e ▸ ht
       have hlen := hs.len
       have h2 := cutS_length s (some 1) (some 3)
       rw [sizeLine_eq]
       exact ⟨by omega, by rw [show (Str.ofString "q").length = 1 by decide +kernel]; omega, hw _ (qsU hm hs)⟩
     · refine hw _ (hs.name λ hm => h ?_)
       exact List.any_eq_true.mpr ⟨_, List.mem_map.mpr ⟨s, hm, rfl⟩, by simp [deq]⟩
   · exact hw.elim
theorem qup (F : FunX K "_law_words" "_law_words" qj6 f fd)  : FnOk P w K mg base (L2N.CX P w) 1 f fd [] (SpW K qcd) := by
 refine fn_ok (k := 0) (N := qlg) 0 rfl F quF (λ ds Q Ed h => ?_) (λ cdv A outer s H E hr ds Qd Ed hw => ⟨_, _,
   (qag (st_ret (qbp (qaa qae (qaa qae (qaa qae (qaa qae (qaa qae (qaa qae (qaa qae (qaa qae (qaa qae (qaa qae (qaa qae (qaa qae (qaa qae (qaa qae (qaa qae (qaa qae (qaa qae (qaa qae (qaa qae (qaa qae (qaa qae (qaa qae qac))))))))))))))))))))))))), ?_⟩)
 · obtain ⟨rfl, _⟩ := h
   rfl
 · obtain ⟨rfl, hw⟩ := hw
   try simp -implicitDefEqProofs only [qai]
   walk_at "dls"
   exact hw
theorem qAf (F : FunX K "_law_value" "_law_value" qgr f fd) (qbs : Callee P w K mg base "_law_pull" 1 qbb [] []) (qbT : Callee P w K mg base "_law_of" 2 qb9 [] []) (qcw : Callee P w K mg base "_law_words" 1 qcd [] []) (qhZ : Callee P w K mg base "_law_name" 3 qek [] []) : FnOk P w K mg base (L2N.CX P w) 4 f fd ["_law_bag_here"] (SpW K qfs) := by
 refine fn_ok (k := 3) (N := qik) 5 rfl F sc_law_value (λ ds Q Ed h => ?_) (λ cdv A outer s H E hr ds Qd Ed hw => ⟨_, _,
   (qaf (st_set 1 sc_law_value.nd (qan qbs (mhr hr) qaq (qaa (qab 0) (qaa qad qac))))
   (qaf (qat (t_eq hr (qab 1) qad)
   (qag (st_ret (qan qbT (mhr hr) qaq (qaa (qab 0) (qaa (qbp (qaa qyO (qaa qad (qaa e_bl (qaa qae (qaa (qay qac) (qaa (qay (qaa qae qac)) (qaa (qbp qac) (qaa (qbp (qaa qae qac)) qac))))))))) qac)))))
   qau)
   (qaf (qat (t_eq hr (qab 1) qad)
   (qag (st_ret (qan qbT (mhr hr) qaq (qaa (qab 0) (qaa (qhL qcw (mhr hr) qaq) qac)))))
   qau)
   (qaf (qat (t_eq hr (qab 1) qad)
   (qaf (st_set 2 sc_law_value.nd (qan qbT (mhr hr) qaq (qaa (qab 0) (qaa (qhL qcw (mhr hr) qaq) qac))))
   (qag (st_ret (qan qbT (mhr hr) qaq (qaa (qab 0) (qaa (qbp (qaa (qaD (qab 2) qae) (qaa (qiP (qab 2) (qct qad) qdO) (qaa (qiP (qab 2) qdO (qct (qri qad))) (qaa (qyR (qab 2)) (qaa (qaD qae (qab 2)) qac)))))) qac))))))
   qau)
   (qaf (qat (t_eq hr (qab 1) qad)
   (qag (st_ret (qan qhZ (mhr hr) qaq (qaa (qab 0) qac))))
   qau)
   (qaf (st_set 3 sc_law_value.nd qae)
   (qag (st_ret (qwo qae (qaY rfl sc_law_value.nd (qi5 T.qcr (qaa (qan qbs (mhr hr) qaq (qaa (qab 0) (qaa qad qac))) qac)) (blkOk_by (own := [("_law_k", 4)]) (N := qik) (sc := defScope qgr) (by decide +kernel)) qbe (λ _ _ _ _ _ => (qam 4 sc_law_value.nd)) (λ _ _ _ _ _ => qaH qaK (by walk_at "blk")) (λ _ _ _ _ _ => qaE (e_ix (qab 3) (qan qbs (mhr hr) qbJ (qaa (qab 0) (qaa (e_if (t_eq hr (qab 1) qad) qad qad) qac)))) (by walk_at "blk")))))))))))), ?_⟩)
 · obtain ⟨rfl, _⟩ := h
   rfl
 · obtain ⟨rfl, hw⟩ := hw
   try simp -implicitDefEqProofs only [qai]
   refine qaJ (λ ρ => ∃ d : Int, (0 <= d /\ d < 6) /\ ρ = [some (.d .bag), some (.d (.int d)), none, none, none]) (λ N hN => ?_) ?_
   · simp? only [qbb]
     exact ⟨⟨by decide, by decide⟩, λ d d0 d1 => hN _ ⟨d, ⟨d0, d1⟩, rfl⟩⟩
   rintro ρ ⟨d, ⟨d0, d1⟩, rfl⟩
   have hd : d = 0 ∨ d = 1 ∨ d = 2 ∨ d = 3 ∨ d = 4 ∨ d = 5 := by omega
   have hS : ∀ s : Str, s.length <= 50 -> Qd (.str s) := λ s hs => hw _ (.inl ⟨s, rfl, hs⟩)
   rcases hd with rfl | rfl | rfl | rfl | rfl | rfl
   · refine qci λ N => ?_
     simp? only [qb9]
     refine ⟨_, rfl, by decide, by decide, λ x hx => ?_⟩
     have hx : x = .str "" ∨ x ∈ [D.non, .int 3, .bl true, .tup [], .tup [.str "a"], .lst [], .lst [.str "a"]] := by
       simp only [List.mem_cons, List.not_mem_nil, or_false] at hx ⊢
       rcases hx with h | h | h | h | h | h | h | h <;> simp [h] <;> rfl
     rcases hx with rfl | hx
     · exact hS _ (by decide)
     · exact hw _ (.inr hx)
   · refine qav [some (.d .bag), some (.d (.int 1)), none, none, none] (λ N hN => by walk_at "dls"; exact hN) ?_
     refine qci λ N => ?_
     simp? only [qb9, qcd]
     refine ⟨_, rfl, by decide, by decide, λ x hx => ?_⟩
     obtain ⟨s, hs, rfl⟩ := List.mem_map.mp hx
     have hl := qnG s hs
     exact hS s (by omega)
   · refine qav [some (.d .bag), some (.d (.int 2)), none, none, none] (λ N hN => by walk_at "dls"; exact hN) ?_
     refine qav [some (.d .bag), some (.d (.int 2)), none, none, none] (λ N hN => by walk_at "dls"; exact hN) ?_
     refine qci λ N => ?_
     simp? only [qb9, qcd]
     refine ⟨_, rfl, by decide, by decide, λ x hx => ?_⟩
     obtain ⟨s, hs, rfl⟩ := List.mem_map.mp hx
     have hl := qnG s hs
     simp? only [qb9, dSlS, qoS]
     have q := qn6
     have c1 := cutS_length s (some 1) none
     have c2 := cutS_length s none (some (-1))
     refine ⟨qbf (by omega), qbf (by omega), qbf (by omega), by omega, qbf (by omega), _, rfl, Nat.zero_lt_succ 4, (by decide : 5 <= 1000), λ x hx => ?_⟩
     simp only [List.mem_cons, List.not_mem_nil, or_false] at hx
     rcases hx with rfl | rfl | rfl | rfl | rfl
     · exact hS _ (by rw [Str.length_append]; omega)
     · exact hS _ (by omega)
     · exact hS _ (by omega)
     · exact hS _ hl.2
     · exact hS _ (by rw [Str.length_append]; omega)
   · refine qav [some (.d .bag), some (.d (.int 3)), none, none, none] (λ N hN => by walk_at "dls"; exact hN) ?_
     refine qav [some (.d .bag), some (.d (.int 3)), none, none, none] (λ N hN => by walk_at "dls"; exact hN) ?_
     refine qav [some (.d .bag), some (.d (.int 3)), none, none, none] (λ N hN => by walk_at "dls"; exact hN) ?_
     refine qci λ N => ?_
     simp? only [qek]
     exact λ s hs => hS s (by have := qAy hs; omega)
   all_goals
     refine qav [some (.d .bag), some (.d (.int _)), none, none, none] (λ N hN => by walk_at "dls"; exact hN) ?_
     refine qav [some (.d .bag), some (.d (.int _)), none, none, none] (λ N hN => by walk_at "dls"; exact hN) ?_
     refine qav [some (.d .bag), some (.d (.int _)), none, none, none] (λ N hN => by walk_at "dls"; exact hN) ?_
     refine qav [some (.d .bag), some (.d (.int _)), none, none, none] (λ N hN => by walk_at "dls"; exact hN) ?_
     simp? only [qbb]
     refine ⟨⟨by decide, by decide⟩, λ n n0 n1 => ⟨by omega, ?_⟩⟩
     refine qiN D.str (λ s => s.length <= 1) _ [] (λ x _ K1 k1 => ?_) (by rw [qf7, List.length_nil]; omega) (λ b hb => by cases hb) λ bs hl hb => ?_
     · simp? only [qak, qbb, List.map_cons, List.map_nil, List.set_cons_succ, List.set_cons_zero]
       try rw [if_neg (by decide)]
       refine ⟨⟨by decide, by decide⟩, λ d d0 d1 => ⟨by decide, ?_⟩⟩
       obtain ⟨j, rfl⟩ := Int.eq_ofNat_of_zero_le d0
       have hj : j < (Str.ofString "abcdefghijklmnopqrstuvwxyzABZ09 _-.~{").cps.toList.length := by rw [qtw]; omega
       rw [atI_nat (List.getElem?_eq_getElem hj)]
       exact k1 _ (Nat.le_refl 1)
     · rw [qf7, List.length_nil] at hl
       have z := qxs hb (by omega)
       simp only [qn0]
       exact ⟨z.1, hS _ z.2⟩
theorem qt8 (F : FunX K "_law_is_name" "_law_is_name" qf1 f fd) (qcw : Callee P w K mg base "_law_words" 1 qcd [] []) : FnOk P w K mg base (L2N.CX P w) 2 f fd ["_law_value_here"] (SpW K qcB) := by
 refine fn_ok (k := 1) (N := qhl) 2 rfl F sc_law_is_name (λ ds Q Ed h => ?_) (λ cdv A outer s H E hr ds Qd Ed hw => ⟨_, _,
   (qaf (qat (t_w (w_or (qb0 (qbd (qa8 T.qaR (qaa (qab 0) (qaa (b_ty "str" T.qbz) qac))))) (w_or (t_lt (qb7 T.qbt (qaa (qab 0) qac)) qad) (w_or (t_gt (qb7 T.qbt (qaa (qab 0) qac)) qad) (qc7 (t_in hr (qab 0) (qhL qcw (mhr hr) qaq)))))))
   (qag (st_ret e_bl))
   qau)
   (qag (st_ret (qh6 rfl T.qcE (qaa (qaY rfl sc_law_is_name.nd (qoo (qab 0)) (blkOk_by (own := [("_law_letter", 1)]) (N := qhl) (sc := defScope qf1) (by decide +kernel)) qbe (λ _ _ _ _ _ => (qam 1 sc_law_is_name.nd)) (λ _ _ _ _ _ => qaH qaK (by walk_at "blk")) (λ _ _ _ _ _ => qaE (qCJ qae (qab 1) qae) (by walk_at "blk"))) qac))))), ?_⟩)
 · obtain ⟨_, rfl, _⟩ := h
   rfl
 · obtain ⟨v, rfl, hv, hw⟩ := hw
   try simp -implicitDefEqProofs only [qai]
   rcases hv with ⟨s, rfl, hl⟩ | hv
   · have e0 : qaw (.str s) = true <-> (1 <= s.length /\ s.length <= 8) /\ (s.cps.toList.all λ c => decide (c ∈ (Str.ofString "abcdefghijklmnopqrstuvwxyz").cps.toList)) = true /\ s ∉ wordsK := qxo
     obtain ⟨l, rfl⟩ : ∃ l : List Nat, s = ⟨l.toArray⟩ := ⟨s.cps.toList, by simp⟩
     have hlen : (Str.mk l.toArray).length = l.length := rfl
     rw [hlen] at hl e0
     have ea : (((wordsK.map D.str).any λ z => deq z (.str ⟨l.toArray⟩)) = true) <-> (⟨l.toArray⟩ : Str) ∈ wordsK := by rw [qyv, decide_eq_true_eq]
     by_cases hb : (1 <= l.length /\ l.length <= 8) /\ (⟨l.toArray⟩ : Str) ∉ wordsK
     · refine qav [some (.d (.str ⟨l.toArray⟩)), none] (λ N hN => ?_) ?_
       · simp? only [qcd]
         rw [hlen, if_neg (by omega), if_neg (by omega)]
         exact ⟨qbf (by omega), qbf (by omega), by decide, if_n (λ z => hb.2 (ea.mp z)) hN⟩
       walk_at "dls"
       refine qaM (λ c : Nat => D.str ⟨#[c]⟩) (λ c => some (D.bl (decide (c ∈ (Str.ofString "abcdefghijklmnopqrstuvwxyz").cps.toList)))) l [] (λ c hcm K1 K0 k1 _ => ?_) (by simp only [List.length_nil]; omega) ?_
       · simp? only [qak, List.map_cons, List.map_nil, List.set_cons_succ, List.set_cons_zero, dLeS, qcp]
         have z := k1 _ rfl
         have hm : decide (c ∈ (Str.ofString "abcdefghijklmnopqrstuvwxyz").cps.toList) = (!decide ([c] < (Str.ofString "a").cps.toList) && !decide ((Str.ofString "z").cps.toList < [c])) := qsP c
         rw [hm] at z
         by_cases h1 : [c] < (Str.ofString "a").cps.toList
         · rw [decide_eq_true h1] at z ⊢
           exact z
         · rw [decide_eq_false h1] at z ⊢
           exact z
       · rw [List.nil_append, qa9]
         have e : l.map (λ c => D.bl (decide (c ∈ (Str.ofString "abcdefghijklmnopqrstuvwxyz").cps.toList))) = (l.map λ c => decide (c ∈ (Str.ofString "abcdefghijklmnopqrstuvwxyz").cps.toList)).map D.bl := by rw [List.map_map]; rfl
         dsimp only
         rw [e, qgt]
         dsimp only
         rw [List.all_map]
         have eq0 : qaw (.str ⟨l.toArray⟩) = l.all λ c => decide (c ∈ (Str.ofString "abcdefghijklmnopqrstuvwxyz").cps.toList) := by
           rw [Bool.eq_iff_iff, e0]
           exact ⟨λ z => z.2.1, λ z => ⟨hb.1, z, hb.2⟩⟩
         rw [eq0] at hw
         exact hw
     · have eb : qaw (.str ⟨l.toArray⟩) = false := by
         rw [<- Bool.not_eq_true]
         exact λ z => hb ⟨(e0.mp z).1, (e0.mp z).2.2⟩
       rw [eb] at hw
       refine qci λ N => ?_
       simp? only [qcd]
       rw [hlen]
       refine ⟨qbf (by omega), ?_⟩
       by_cases h1 : (l.length : Int) < 1
       · rw [if_pos h1]
         exact hw
       rw [if_neg h1]
       refine ⟨qbf (by omega), ?_⟩
       by_cases h2 : 8 < (l.length : Int)
       · rw [if_pos h2]
         exact hw
       rw [if_neg h2]
       exact ⟨by decide, if_y (ea.mpr (Decidable.not_not.mp λ z => hb ⟨by omega, z⟩)) hw⟩
   · have hb : qaw v = false := by
       simp only [List.mem_cons, List.not_mem_nil, or_false] at hv
       rcases hv with rfl | rfl | rfl | rfl | rfl | rfl | rfl <;> rfl
     rw [hb] at hw
     refine qci λ N => ?_
     simp only [List.mem_cons, List.not_mem_nil, or_false] at hv
     rcases hv with rfl | rfl | rfl | rfl | rfl | rfl | rfl
     all_goals
       walk_at "dls"
       exact hw
def endV (o : Option D) (x : D) : D := match o with
 | none => .tup [.str "value", x]
 | some v => .tup [.str "InvalidName", v]
omit T in
theorem qAS {o : Option D} {x : D} (h : ∀ v, o = some v -> v.isData 2 = true /\ v.few = true) (h2 : x.isData 2 = true /\ x.few = true) : (endV o x).isData 3 = true /\ (endV o x).few = true := by
 have e : ∀ (s : Str) (z : D), (z.isData 2 = true /\ z.few = true) -> (D.tup [.str s, z]).isData 3 = true /\ (D.tup [.str s, z]).few = true := λ s z h => by
   simp only [D.isData, qah, D.few, qbC, h.1, h.2]
   exact ⟨rfl, rfl⟩
 cases o with
 | none => exact e _ x h2
 | some v => exact e _ v (h v rfl)
omit T in
theorem Val8.nm {v : D} (h : Val8 v) : NmW v := by
 rcases h with ⟨s, rfl, hl⟩ | h
 · exact .inl (.inr (.inr ⟨s, rfl, by omega⟩))
 · simp only [List.mem_cons, List.not_mem_nil, or_false] at h
   rcases h with rfl | rfl | rfl | rfl | rfl | rfl | rfl
   · exact .inl (.inl rfl)
   · exact .inl (.inr (.inl ⟨_, rfl⟩))
   · exact .inr (.inl ⟨_, rfl⟩)
   · exact .inr (.inr (.inl ⟨_, rfl⟩))
   · exact .inr (.inr (.inl ⟨_, rfl⟩))
   · exact .inr (.inr (.inr ⟨_, rfl⟩))
   · exact .inr (.inr (.inr ⟨_, rfl⟩))
omit T in
theorem Val8.da {v : D} (h : Val8 v) : v.isData 1 = true /\ v.few = true := by
 rcases h with ⟨s, rfl, hl⟩ | h
 · exact ⟨rfl, rfl⟩
 · simp only [List.mem_cons, List.not_mem_nil, or_false] at h
   rcases h with rfl | rfl | rfl | rfl | rfl | rfl | rfl <;> exact ⟨rfl, rfl⟩
def qeO (b : Bool) (v x : D) : D := if b = true then .tup [.str "value", x] else .tup [.str "InvalidName", v]
omit T in
theorem qtp {b : Bool} {v x : D} (h : v.isData 2 = true /\ v.few = true) (h2 : x.isData 2 = true /\ x.few = true) : (qeO b v x).isData 3 = true /\ (qeO b v x).few = true := by
 have e : ∀ (s : Str) (z : D), (z.isData 2 = true /\ z.few = true) -> (D.tup [.str s, z]).isData 3 = true /\ (D.tup [.str s, z]).few = true := λ s z h => by
   simp only [D.isData, qah, D.few, qbC, h.1, h.2]
   exact ⟨rfl, rfl⟩
 cases b
 · exact e _ v h
 · exact e _ x h2
omit T in
theorem qk0 (s : Str) : fmT (tmF s Mv.one 1).1 (tmF s Mv.one 1).2 = s := by
 show ("" : Str) ++ "" ++ "" ++ s = s
 show Str.mk (#[] ++ s.cps) = s
 simp
omit T in
theorem qmY {s : Str} (h : qaw (.str s) = true) : PGo (tmF s Mv.one 1) := qlS (NmOk.of (qkY h)) Mv.one_ok ⟨⟨by decide, by decide⟩, by decide, by decide⟩ (by decide) (by decide)
omit T in
theorem qqN {C : Addr} {v : D} {Q : D -> Prop} (h : Q (.tup [.str "InvalidName", v])) : qhk [(C, ["value", "code"])] Q (C, nmF v) := by
 refine ⟨List.mem_cons_self, ?_⟩
 show qew "InvalidName" (nmF v) _
 unfold qew
 rw [if_neg (by decide), if_neg (by decide), if_neg (by decide), if_neg (by decide), if_neg (by decide), if_neg (by decide)]
 exact h
omit T in
theorem qBL {v : D} (h : qaw v = true) : ∃ s, v = .str s := by
 cases v with
 | str s => exact ⟨s, rfl⟩
 | _ => cases h
theorem ok_law {f c Pt : Addr} {fd : FuncData} (F : FunC K "law" "law" qaX f fd c) (Lm : LamP mg base "law" c Pt) (Wy : WhyF P w K mg base 130 qaO qaI) (HK : ∀ e ∈ ([(qar, ["value", "code"])] : List (Addr × List Str)), ErrK K qaO qaI e.1 e.2) (qg5 : Callee P w K mg base "_law_bag" 1 qeZ [] []) (qi1 : Callee P w K mg base "_law_value" 4 qfs [] []) (qc1 : Callee P w K mg base "is_name" 1 qei [] []) (qex : Callee P w K mg base "_law_is_name" 2 qcB [] []) (qdz : CMt P w K mg base qap "curve" 56 (qdD qap qar) [] []) (qd5 : Strr P w K mg base qap "__str__" 107 (qdo qap)) (qcs : Callee P w K mg base "_law_same" 4 (qbl 3) [] []) (qd6 : qgk P w K mg base "curves_of" 57 (qdS qap qar) [] (λ _ zs => zs) id) : FnOk P w K mg base (L2N.CX P w) 190 f fd ["_law_script"] (SpW K qfD) := by
 refine qsy (k := 189) (N := qby) 8 rfl F sc_law (λ ds Q Ed h => ?_) (λ A outer s H E hr ds Qd Ed hw => ⟨_, _,
   (qaf (st_set 1 sc_law.nd (qan qg5 (mhr hr) qaq (qaa (qab 0) qac)))
   (qaf (st_set 2 sc_law.nd (qaY rfl sc_law.nd (qi5 T.qcr (qaa qad qac)) (blkOk_by (own := [("_law_k", 3)]) (N := qby) (sc := defScope qaX) (by decide +kernel)) qbe (λ _ _ _ _ _ => (qam 3 sc_law.nd)) (λ _ _ _ _ _ => qaH qaK (by walk_at "blk")) (λ _ _ _ _ _ => qaE (qan qi1 (mhr hr) qbJ (qaa (qab 1) qac)) (by walk_at "blk"))))
   (qaf (qbM (passes_of rfl) rfl (qaA (qab 2)) (qam 4 sc_law.nd)
   (qaf (qat (qb0 (qbd (qan qcs (mhr hr) qaq (qaa (qan qc1 (mhr hr) qaq (qaa (qab 4) qac)) (qaa (qan qex (mhr hr) qaq (qaa (qab 4) qac)) qac)))))
   (qag (st_ret e_bl))
   qau)
   (qaf (st_set 5 sc_law.nd (qnA (X := bx P w K mg base qby "law" qaX f (.ref c) A outer s H E) (Ks := [(qar, ["value", "code"])]) Wy Lm.t Lm.u Lm.b rfl HK (mhr hr) (LamX.lamS_by (sc := defScope qaX) (by decide +kernel)) (λ A2 outer2 s2 H2 E2 fl cl Ed2 hr => by refine qaE (qiD qd5 T.qbz (mhr hr) (passL (X := bx P w K mg base qby "law" qaX f (.ref c) A outer s H E) (A := A2) (outer := outer2) (s := s2) (H := H2) (E := E2) (f := fl) (c' := cl)) (qaa (e_cm qdz (mhr hr) (passL (X := bx P w K mg base qby "law" qaX f (.ref c) A outer s H E) (A := A2) (outer := outer2) (s := s2) (H := H2) (E := E2) (f := fl) (c' := cl)) (qo8 T.m_Path) (qaa (qab 4) qac)) qac)) ?_; (try dsimp only [lamK, lamW, lamR, bxK, bxW, bxR]) <;> rfl)))
   (qag (qat (qb0 (qbd (qan qcs (mhr hr) qaq (qaa (qab 5) (qaa (e_if (qbd (qan qex (mhr hr) qaq (qaa (qab 4) qac))) (qay (qaa qae (qaa (qab 4) qac))) (qay (qaa qae (qaa (qab 4) qac)))) qac)))))
   (qag (st_ret e_bl))
   qau)))))
   (qaf (qat (qb0 (qbd (qan qcs (mhr hr) qaq (qaa (qzJ qd6 (mhr hr) qaq qff) (qaa (qbp qac) qac)))))
   (qag (st_ret e_bl))
   qau)
   (qaf (qem (i := 6) rfl sc_law.nd rfl rfl (sw_true rfl rfl rfl (by decide +kernel)) (qaA (qka (qab 2) qdO (qct qad))) (blkOk_by (own := [("_law_value_here", 4)]) (N := qby) (sc := defScope qaX) (by decide +kernel)) qbe (λ _ _ _ _ _ => (qam 4 sc_law.nd)) (λ _ _ _ _ _ => qaH (qil (qb0 (qbd (qan qex (mhr hr) qbJ (qaa (qab 4) qac))))) (by walk_at "blk")) (λ _ _ _ _ _ => qaE (qab 4) (by walk_at "blk")))
   (qaf (st_set 5 sc_law.nd (qnA (X := bx P w K mg base qby "law" qaX f (.ref c) A outer s H E) (Ks := [(qar, ["value", "code"])]) Wy Lm.t Lm.u Lm.b rfl HK (mhr hr) (LamX.lamS_by (sc := defScope qaX) (by decide +kernel)) (λ A2 outer2 s2 H2 E2 fl cl Ed2 hr => by refine qaE (qaY rfl sc_law.nd (qaA (qnC qd6 (mhr hr) (passL (X := bx P w K mg base qby "law" qaX f (.ref c) A outer s H E) (A := A2) (outer := outer2) (s := s2) (H := H2) (E := E2) (f := fl) (c' := cl)) (qaa (e_ix (qab 2) qad) (qaa (e_ix (qab 2) qad) (qaa (e_ix (qab 2) qad) qac))) qff)) (qtC (own := [("_law_path", 7)]) (N := qby) (by decide +kernel)) qbe (λ _ _ _ _ _ => (qam 7 sc_law.nd)) (λ _ _ _ _ _ => qaH qaK (by walk_at "blk")) (λ _ _ _ _ _ => qaE (qiD qd5 T.qbz (mhr hr) qbJ (qaa (qab 7) qac)) (by walk_at "blk"))) ?_; (try dsimp only [lamK, lamW, lamR, bxK, bxW, bxR]) <;> rfl)))
   (qaf (qat (qb0 (qbd (qan qcs (mhr hr) qaq (qaa (qab 5) (qaa (e_if (t_ne hr (qab 6) (qbp qac)) (qay (qaa qae (qaa (e_ix (qab 6) qad) qac))) (qay (qaa qae (qaa (qka (qab 2) qdO (qct qad)) qac)))) qac)))))
   (qag (st_ret e_bl))
   qau)
   (qag (st_ret (qan qcs (mhr hr) qaq (qaa (qaY rfl sc_law.nd (qaA (qnC qd6 (mhr hr) qaq (qaa qae qac) qff)) (blkOk_by (own := [("_law_path", 7)]) (N := qby) (sc := defScope qaX) (by decide +kernel)) qbe (λ _ _ _ _ _ => (qam 7 sc_law.nd)) (λ _ _ _ _ _ => qaH qaK (by walk_at "blk")) (λ _ _ _ _ _ => qaE (qiD qd5 T.qbz (mhr hr) qbJ (qaa (qab 7) qac)) (by walk_at "blk"))) (qaa (qbp (qaa qae qac)) qac)))))))))))), ?_⟩)
 · obtain ⟨_, rfl, _⟩ := h
   rfl
 · obtain ⟨ns, rfl, hl, hw⟩ := hw
   simp -implicitDefEqProofs only [qai]
   refine qav [some (.d (.lst (ns.map D.int))), some (.d .bag), none, none, none, none, none, none] (λ N hN => by
     simp? only [qeZ]
     exact ⟨ns, rfl, hN⟩) ?_
   refine qaJ (λ ρ => ∃ vs : List D, (vs.length = 5 /\ ∀ v ∈ vs, Val8 v) /\ ρ = [some (.d (.lst (ns.map D.int))), some (.d .bag), some (.d (.lst vs)), none, none, none, none, none]) (λ N hN => ?_) ?_
   · walk_at "dls"
     refine ⟨by decide, ?_⟩
     refine qiN (λ v : D => v) Val8 (qbu 0 (Int.toNat 5)) [] (λ x _ K1 k1 => ?_) (by rw [qf7]; decide) (λ b hb => by cases hb) λ bs hl hb => ?_
     · simp? only [qak, qfs, List.map_cons, List.map_nil, List.set_cons_succ, List.set_cons_zero]
       exact λ v hv => k1 v hv
     · rw [List.map_id']
       exact hN _ ⟨bs, ⟨by rw [hl, qf7]; rfl, hb⟩, rfl⟩
   rintro _ ⟨vs, ⟨hl5, hv⟩, rfl⟩
   have sm : ∀ {n : Nat} {d : D}, d.isData n = true -> ¬ (!qaU d d) = true := λ {n d} h => by rw [qo4 n d h]; decide
   have cmp : ∀ (a0 a1 a2 a3 a4 a5 a6 a7 : Option SV) (ws : List D) (Q : D -> Prop), (∀ v ∈ ws, qaw v = true) -> ws.length <= 100 -> Q (.lst ws) -> qaG (dName 7) dTs1 (qee qap (qdo qap) (λ _ => False) (qbD (dVar 7) dNil)) (ws.map λ v => pD qap (tmF (strD v) Mv.one 1)) [] [a0, a1, a2, a3, a4, a5, a6, a7] Q := λ a0 a1 a2 a3 a4 a5 a6 a7 ws Q h hl q => by
     refine qaM (λ v => pD qap (tmF (strD v) Mv.one 1)) some ws [] (λ v hm K1 K0 k1 _ => ?_) (by rw [List.length_nil]; omega) (by rw [List.filterMap_some]; exact q)
     have hb := h v hm
     obtain ⟨s, rfl⟩ := qBL hb
     simp? only [List.set_cons_succ, List.set_cons_zero, qdo]
     refine ⟨tmF s Mv.one 1, rfl, qmY hb, _, rfl, ?_⟩
     rw [qk0]
     exact k1 _ rfl
   refine qaJ (λ ρ => ∃ u w, ρ = [some (.d (.lst (ns.map D.int))), some (.d .bag), some (.d (.lst vs)), none, u, w, none, none]) (λ N hN => ?_) ?_
   · refine qbx vs (λ N h => by
       walk_at "dls"
       exact h) ?_
     refine qbc (λ xs ρ => (∀ x ∈ xs, Val8 x) /\ ∃ u w, ρ = [some (.d (.lst (ns.map D.int))), some (.d .bag), some (.d (.lst vs)), none, u, w, none, none]) _ _ ⟨hv, none, none, rfl⟩ (λ v r ρ hρ N2 hN2 => ?_) (λ ρ hρ => ?_)
     · obtain ⟨hr, u, w, rfl⟩ := hρ
       have h8 := hr v List.mem_cons_self
       have hd2 : v.isData 2 = true /\ v.few = true := ⟨qiK h8.da.1 (by decide), h8.da.2⟩
       have hdl := qtp (b := qaw v) (v := v) (x := v) hd2 hd2
       refine qav [some (.d (.lst (ns.map D.int))), some (.d .bag), some (.d (.lst vs)), none, some (.d v), w, none, none] (λ N hN => by
         simp? only [qbl, qei, qcB]
         exact ⟨v, rfl, h8.nm, v, rfl, h8, rfl, if_n (sm (n := 3) rfl) hN⟩) ?_
       refine qav [some (.d (.lst (ns.map D.int))), some (.d .bag), some (.d (.lst vs)), none, some (.d v), some (.d (qeO (qaw v) v v)), none, none] (λ N hN => by
         simp? only [dWhy, qbq, qdD, qdo]
         refine ⟨v, rfl, h8.nm, ?_⟩
         cases hb : qaw v with
         | true =>
           rw [if_pos rfl]
           rintro s rfl
           refine ⟨_, rfl, qmY hb, _, rfl, ?_⟩
           rw [qk0]
           rw [hb] at hN
           exact hN
         | false =>
           rw [if_neg (by decide)]
           rw [hb] at hN
           exact qqN hN) ?_
       simp? only [qbl, qcB]
       refine ⟨v, rfl, h8, ?_⟩
       cases hb : qaw v with
       | true =>
         rw [hb] at hdl
         rw [if_pos rfl]
         refine ⟨hdl.1, hd2.1, hdl.2, if_n (sm hdl.1) ?_⟩
         have z := hN2 [some (.d (.lst (ns.map D.int))), some (.d .bag), some (.d (.lst vs)), none, some (.d v), some (.d (qeO (qaw v) v v)), none, none] ⟨λ x hx => hr x (List.mem_cons_of_mem _ hx), _, _, rfl⟩
         rw [hb] at z
         exact z
       | false =>
         rw [hb] at hdl
         rw [if_neg (by decide)]
         refine ⟨hdl.1, hd2.1, hdl.2, if_n (sm hdl.1) ?_⟩
         have z := hN2 [some (.d (.lst (ns.map D.int))), some (.d .bag), some (.d (.lst vs)), none, some (.d v), some (.d (qeO (qaw v) v v)), none, none] ⟨λ x hx => hr x (List.mem_cons_of_mem _ hx), _, _, rfl⟩
         rw [hb] at z
         exact z
     · exact hN _ hρ.2
   rintro _ ⟨u, w, rfl⟩
   obtain ⟨v0, v1, v2, v3, v4, rfl⟩ : ∃ v0 v1 v2 v3 v4, vs = [v0, v1, v2, v3, v4] := by
     match vs, hl5 with
     | [a, b, c, d, e], _ => exact ⟨a, b, c, d, e, rfl⟩
   have h0 := hv v0 (by simp)
   have h1 := hv v1 (by simp)
   have h2 := hv v2 (by simp)
   have hv3 : ∀ v ∈ [v0, v1, v2], Val8 v := λ v hm => hv v (by simp only [List.mem_cons, List.not_mem_nil, or_false] at hm ⊢; rcases hm with h | h | h <;> simp [h])
   have ct : cutD [v0, v1, v2, v3, v4] none (some 3) = [v0, v1, v2] := rfl
   refine qav [some (.d (.lst (ns.map D.int))), some (.d .bag), some (.d (.lst [v0, v1, v2, v3, v4])), none, u, w, none, none] (λ N hN => by
     simp? only [qbl, qdS]
     exact ⟨[], rfl, ⟨λ v hm => (by cases hm), by decide⟩, rfl, rfl, if_n (sm (n := 3) rfl) hN⟩) ?_
   refine qaJ (λ ρ => ∃ bd : List D, (bd.head? = [v0, v1, v2].find? (λ v => !qaw v) /\ ∀ v ∈ bd, Val8 v) /\ ρ = [some (.d (.lst (ns.map D.int))), some (.d .bag), some (.d (.lst [v0, v1, v2, v3, v4])), none, u, w, some (.d (.lst bd)), none]) (λ N hN => ?_) ?_
   · walk_at "dls"
     rw [ct]
     have cp := qaM (g := dName 4) (tt := dNot (dB (dCall qcB (λ _ => False) (qbD (dVar 4) dNil)))) (te := dVar 4) (ρ := qak [some (.d (.lst (ns.map D.int))), some (.d .bag), some (.d (.lst [v0, v1, v2, v3, v4])), none, u, w, none, none] [4]) (Q := λ x => N [some (.d (.lst (ns.map D.int))), some (.d .bag), some (.d (.lst [v0, v1, v2, v3, v4])), none, u, w, some (.d x), none]) (λ v : D => v) (λ v => if qaw v = true then none else some v) [v0, v1, v2] [] (λ v hm K1 K0 k1 k0 => ?_) (by simp only [List.length_nil, List.length_cons]; omega) ?_
     · exact cp
     · simp? only [qak, qcB, List.map_cons, List.map_nil, List.set_cons_succ, List.set_cons_zero]
       refine ⟨v, rfl, hv3 v hm, ?_⟩
       cases hb : qaw v with
       | true => exact k0 (if_pos hb)
       | false => exact k1 v (if_neg (by rw [hb]; decide))
     · rw [List.nil_append]
       have e : [v0, v1, v2].filterMap (λ v => if qaw v = true then none else some v) = [v0, v1, v2].filter (λ v => !qaw v) := by
         rw [<- List.filterMap_eq_filter]
         congr 1
         funext v
         cases hb : qaw v <;> simp [Option.guard, hb]
       rw [e]
       exact hN _ ⟨_, ⟨List.head?_filter, λ v hm => hv3 v ((List.mem_filter.mp hm).1)⟩, rfl⟩
   rintro _ ⟨bd, ⟨hbd, hb8⟩, rfl⟩
   have hL : (D.lst [v0, v1, v2]).isData 2 = true /\ (D.lst [v0, v1, v2]).few = true := by
     simp only [D.isData, qah, D.few, qbC, h0.da.1, h1.da.1, h2.da.1, h0.da.2, h1.da.2, h2.da.2]
     exact ⟨rfl, rfl⟩
   have he := qAS (o := bd.head?) (x := .lst [v0, v1, v2]) (λ v hm => ⟨qiK (hb8 v (List.mem_of_mem_head? hm)).da.1 (by decide), (hb8 v (List.mem_of_mem_head? hm)).da.2⟩) hL
   refine qav [some (.d (.lst (ns.map D.int))), some (.d .bag), some (.d (.lst [v0, v1, v2, v3, v4])), none, u, some (.d (endV bd.head? (.lst [v0, v1, v2]))), some (.d (.lst bd)), none] (λ N hN => ?_) ?_
   · simp? only [dWhy, qbq]
     refine ⟨[v0, v1, v2], rfl, ⟨λ v hm => (hv3 v hm).nm, (by decide : 3 <= 100)⟩, ?_⟩
     rw [hbd] at hN
     cases hf : [v0, v1, v2].find? (λ v => !qaw v) with
     | none =>
       rw [hf] at hN
       exact cmp _ _ _ _ _ _ _ _ [v0, v1, v2] _ (λ v hm => by simpa using List.find?_eq_none.mp hf v hm) (by decide : 3 <= 100) hN
     | some v =>
       rw [hf] at hN
       exact qqN hN
   refine qav [some (.d (.lst (ns.map D.int))), some (.d .bag), some (.d (.lst [v0, v1, v2, v3, v4])), none, u, some (.d (endV bd.head? (.lst [v0, v1, v2]))), some (.d (.lst bd)), none] (λ N hN => by
     simp? only [qbl]
     rw [ct]
     have hbA : qah 149 bd = true := by
       have z := all_map (f := λ v : D => v) (n := 1) (l := bd) λ v hm => (hb8 v hm).da.1
       rw [List.map_id'] at z
       exact qr3 z (by decide)
     refine ⟨hbA, ?_⟩
     cases bd with
     | nil => exact if_n (by decide) ⟨he.1, hL.1, he.2, if_n (sm he.1) hN⟩
     | cons b bs =>
       refine if_y rfl ?_
       rw [qi0]
       exact ⟨he.1, qiK (hb8 b List.mem_cons_self).da.1 (by decide), he.2, if_n (sm he.1) hN⟩) ?_
   simp? only [qbl, qdS]
   have nk : qaw (.str "ka") = true := by decide +kernel
   refine ⟨[.str "ka"], rfl, ⟨λ v hm => ?_, by decide⟩, ?_⟩
   · rw [List.mem_singleton.mp hm]
     exact .inl (.inr (.inr ⟨_, rfl, by decide⟩))
   · have hf : [D.str "ka"].find? (λ v => !qaw v) = none := by rw [List.find?_eq_none]; intro v hm; rw [List.mem_singleton.mp hm, nk]; decide
     rw [hf]
     refine cmp _ _ _ _ _ _ _ _ [.str "ka"] _ (λ v hm => by rw [List.mem_singleton.mp hm]; exact nk) (by decide) ⟨rfl, rfl, ?_⟩
     rw [show qaU (D.lst [D.str "ka"]) (D.lst [D.str "ka"]) = true from rfl]
     exact hw
end
theorem all_mk {l : PySem.W.OpenLaw} {w : World} {K : PySem.W.Frag} {h : Heap} {mg : Str -> Option Value} {fa : Addr} (X : K.In h) (G : h.Ns mainGlobals mg) (hfa : mg "law" = some (.ref fa))
   {qaI qaO qar qap qga qb2 qfO qfr qfw qhJ qgl qix qru qrd qma qyZ qzS qpK qBr qxA qwz qxT qys qwn qmM qnu qqA qnV qkS qqq qjG qlM qer qhX qlZ qnR qut qw2 qBq qAo qst qon qrh qmO qCE qr5 qqJ qu0 qcc qdl : Addr} {qkq qvq qyD qtB qtx qxl quL qzq qsT qB5 qBb qxp qw7 qx4 qyF qrX qyX qsY qwf qA7 qud qzQ qtZ qBO qy2 qsw qCH qy0 qxN : Tok} {qwm qy3 qwI qyW qxE qBF qs9 qvu qrN qAA qym qvI qwa qtQ qsX qAz qyo qrZ qwZ qwM qsq qx9 quz qwF qwD qwT qv7 qvX qvS qBy quw qsN qsC qCd qzz qsg qCA qCC qtT qr7 qAn qCo qxv qBK qAN qsh qhd qsu qxr qmS qz6 qBt qA6 qpW qAk qBl qt1 qw9 qtt qsZ qvR qvf qsG qsj qxQ qwG qtJ qr2 qsF qvz qs3 qCu qum qBR qv5 qA4 qz5 qnP ocd : Option Addr} {qy7 qAj qzm qrV qsL qrO qxG qCa quY qwN qzh quc qy9 qus qua qA5 qBe qBc qCi qwJ qBx qw8 qxH qsA qxg qBP qCm qux qAm qtd qzX qs4 qzI qyp quh qvE qxn qyy qAY qza qws qvC qAv osl : Array (Option Value)} {qxI qwV qzL qxm qwE qtW : Nat} {qyG qBG qxw qx1 qsi qsO qzv qxf qtq qB6 qvs qwr qs1 quH qxF qw5 qzx qvg qxd qxJ qta qt5 qtI qB9 qBs qBn qyh qsb qAV qwv qwx qug quT qyi qBW qwc qsM qvO qy4 qv9 qAH qBS qy8 qAD qxj qtm qwl qCr qtM qrM qwu qwC qtn qzM qyV qAW qye qBu quO qt0 qvx qwy qtO quu qyz qAw qCF qyA qAP qrS qB0 qxB qvn qvm qty qsc qyf qyY quX qui qwp qBI qtc qCt qAF qsk qsB qrP qzy qrW qzA qun qBV qvH qzd qrK qyK qvw qBk qwR qv3 qz3 qvW qxx qzB qzs qwS qAg qsJ qs6 qvT qAb qtR qAt qvD qCI qiF qhF qjE qih qjg qBX qz0 qli qql qkB qgw qkW qxR qtY qsQ qtl qBd qA2 qxt qnJ qln qpB qmL qpo qs2 qzg quG qB2 qwW qzj qwt qyq quW qAc qrL qu5 qyS qA3 qAQ qAi qti qtb qBA qtr qvP quy qz1 qsV qsI qBw qve qsS qyP qtD quD qBj qw3 qvA qtA qyT qzW quS qBY qxM qva qu7 qth qwb qs8 qAG qxi qul qB1 qAd qCf qz8 qzo qzp qwO qr4 qvh qAU qsW qxb qCj qBU qAp qwP qlD qxP qvM qrb qly qnI qnb ocl : Value} {qnr ovs : Array Value} {qp4 : Str} {qBm : List Value}
   (qhh : PySem.W.nsIn K mainGlobals "Absent" = some (some (.ref qaI)))
   (qh2 : PySem.W.nsIn K mainGlobals "CurveError" = some (some (.ref qaO)))
   (qcD : PySem.W.nsIn K mainGlobals "InvalidName" = some (some (.ref qar)))
   (qdL : PySem.W.nsIn K mainGlobals "Path" = some (some (.ref qap)))
   (qdk : PySem.W.findIn K (.ref qap) "depth" = some none)
   (qdq : PySem.W.findIn K (.ref qap) "form" = some none)
   (qcQ : PySem.W.findIn K (.ref qap) "size" = some none)
   (qhy : PySem.W.plainGet K qap Str.empty = true)
   (qjf : PySem.W.hasDictIn K qap = true)
   (qjT : PySem.W.plainOver K qap = true)
   (qjV : PySem.W.findIn K (.ref qap) "__setattr__" = some (some (.builtin "object.__setattr__")))
   (qjN : PySem.W.nsIn K mainGlobals "LETTERS" = some (some (.str "abcdefghijklmnopqrstuvwxyz" qkq)))
   (qjO : PySem.W.nsIn K mainGlobals "NONE" = some (some (.ref qga)))
   (qjh : K.lookup qga = some ⟨.type "tuple", qwm, .seq #[.str "none" qvq] qxI, qy7⟩)
   (qjB : PySem.W.nsIn K mainGlobals "NOTHING" = some (some (.ref qb2)))
   (qf9 : K.lookup qb2 = some ⟨.type "tuple", qy3, .seq #[.ref qfO, .ref qfr] qwV, qAj⟩)
   (qfP : K.lookup qfO = some ⟨.type "tuple", qwI, .seq #[] qzL, qzm⟩)
   (qfj : K.lookup qfr = some ⟨.type "tuple", qyW, .seq #[] qxm, qrV⟩)
   (qif : PySem.W.nsIn K mainGlobals "WORDS" = some (some (.ref qfw)))
   (qh8 : K.lookup qfw = some ⟨.type "tuple", qxE, .seq #[.str "call" qyD, .str "curve" qtB, .str "cut" qtx, .str "define" qxl, .str "end" quL, .str "keep" qzq, .str "let" qsT, .str "m" qB5, .str "mirror" qBb, .str "move" qxp, .str "never" qw7, .str "none" qx4, .str "nothing" qyF, .str "odd" qrX, .str "outline" qyX, .str "paint" qsY, .str "plain" qwf, .str "repeat" qA7, .str "solid" qud, .str "stain" qzQ, .str "turn" qtZ, .str "wipe" qBO] qwE, qsL⟩)
   (qes : PySem.W.nsIn K mainGlobals "MOST_DEPTH" = some (some (.int 20 qy2)))
   (qeE : PySem.W.nsIn K mainGlobals "MOST_SHIFT" = some (some (.int 1000000000000 qsw)))
   (qeg : PySem.W.nsIn K mainGlobals "MOST_SIZE" = some (some (.int 300 qCH)))
   (qc2 : PySem.W.nsIn K mainGlobals "MOST_TIMES" = some (some (.int 1000000000000 qy0)))
   (qbm : PySem.W.nsIn K mainGlobals "abs" = some none)
   (qcE : PySem.W.nsIn K mainGlobals "all" = some none)
   (qb5 : PySem.W.nsIn K mainGlobals "bool" = some none)
   (qa4 : PySem.W.nsIn K mainGlobals "int" = some none)
   (qaR : PySem.W.nsIn K mainGlobals "isinstance" = some none)
   (qbt : PySem.W.nsIn K mainGlobals "len" = some none)
   (qbQ : PySem.W.nsIn K mainGlobals "list" = some none)
   (qcI : PySem.W.nsIn K mainGlobals "max" = some none)
   (qcr : PySem.W.nsIn K mainGlobals "range" = some none)
   (qb8 : PySem.W.nsIn K mainGlobals "sorted" = some none)
   (qbz : PySem.W.nsIn K mainGlobals "str" = some none)
   (qdU : PySem.W.nsIn K mainGlobals "sum" = some none)
   (qbk : PySem.W.nsIn K mainGlobals "tuple" = some none)
   (qdB : PySem.W.nsIn K mainGlobals "zip" = some none)
   (qiL : PySem.W.nsIn K mainGlobals "super" = some none)
   (tp_ : PySem.W.nsIn K cStatics "thirdparty.any" = some none)
   (qhx : (l.prog.main.scope.names.lookup ("super" : Str)).isSome = false)
   (qhf : PySem.W.findIn K (.ref qar) "__setattr__" = some (some (.builtin "object.__setattr__")))
   (qgx : PySem.W.excOver K qar [.type "ValueError", .type "Exception", .type "BaseException", .type "object"] = true)
   (qfx : PySem.W.hasDictIn K qar = true)
   (qg6 : PySem.W.excInitIn K qar [.type "ValueError", .type "Exception", .type "BaseException", .type "object"] "ValueError.__new__" = true)
   (qfH : PySem.W.subIn K (.ref qar) (.type "BaseException") = some true)
   (qjC : PySem.W.subIn K (.ref qar) (.type "ValueError") = some true)
   (qim : PySem.W.typeIn K (.ref qar) = some (.type "type"))
   (qi9 : PySem.W.keepIn K (.ref qar) = true)
   (qio : PySem.W.ks_superIn K qar qar "__init__" = some (some (.builtin "ValueError.__init__")))
   (qjn : PySem.W.mroIn K qar (.ref qar) = some true)
   (qip : PySem.W.findIn K (.ref qar) "__init__" = some (some (.ref qhJ)))
   (qho : PySem.W.isFn K (.ref qhJ) = true)
   (qij : K.lookup qhJ = some ⟨qyG, qBF, .func (PySem.W.ksFn "__init__" "InvalidName.__init__" (defArgs qeQ) (defBody qeQ) (defScope qeQ) .none qBG qxw qx1 qs9 (.ref qgl) qsi qix), qrO⟩)
   (qgz : PySem.W.codeIn K (.ref qgl) "InvalidName.__init__" = true)
   (qjy : K.lookup qgl = some ⟨qsO, qvu, .fields qnr, qxG⟩)
   (qgX : qnr[2]? = some (.str qp4 qxN))
   (qjU : ((l.prog.main.file : Str) == qp4) = true)
   (qgL : K.lookup qix = some ⟨qzv, qrN, .cell (some (.ref qar)), qCa⟩)
   (qit : PySem.W.takerIn K qar "code" = some none)
   (qjk : PySem.W.takerIn K qar "value" = some none)
   (qhn : PySem.W.subIn K (.ref qaO) (.type "BaseException") = some true)
   (qh3 : PySem.W.isClsIn K qaO = true)
   (qhv : PySem.W.typeIn K (.ref qaO) = some (.type "type"))
   (qj9 : PySem.W.subIn K (.ref qaI) (.type "BaseException") = some true)
   (qiu : PySem.W.isClsIn K qaI = true)
   (qiT : PySem.W.typeIn K (.ref qaI) = some (.type "type"))
   (qgT : PySem.W.subIn K (.ref qar) (.ref qaO) = some true)
   (qjW : PySem.W.subIn K (.ref qar) (.ref qaI) = some false)
   (qha : PySem.W.findIn K (.ref qar) "__getattribute__" = some (some (.builtin "BaseException.__getattribute__")))
   (qg1 : PySem.W.findIn K (.ref qar) "__getattr__" = some none)
   (qqf : PySem.W.findIn K (.ref qar) "value" = some none)
   (qmu : PySem.W.findIn K (.ref qar) "code" = some none)
   (qeK : FG K qru qxf qAA "merged_terms" "merged_terms" qeX .none qtq qB6 qvs qym qwr qs1 quY)
   (qdF : FG K qrd quH qvI "times_text" "times_text" qiQ .none qxF qw5 qzx qwa qvg qxd qwN)
   (qdZ : FG K qma qxJ qtQ "unknown_text" "unknown_text" qh1 .none qta qt5 qtI qsX qB9 qBs qzh)
   (qdw : FG K qyZ qBn qAz "node_text" "node_text" qfn .none qyh qsb qAV qyo qwv qwx quc)
   (qdi : FG K qzS qug qrZ "form_text" "form_text" qdt .none quT qyi qBW qwZ qwc qsM qy9)
   (qev : FG K qpK qvO qwM "merged_outlines" "merged_outlines" qfW .none qy4 qv9 qAH qsq qBS qy8 qus)
   (qdr : FG K qBr qAD qx9 "node_size" "node_size" qfS .none qxj qtm qwl quz qCr qtM qua)
   (qdd : FG K qxA qrM qwF "form_size" "form_size" qdM .none qwu qwC qtn qwD qzM qyV qA5)
   (qdb : FG K qwz qAW qwT "node_depth" "node_depth" qfL .none qye qBu quO qv7 qt0 qvx qBe)
   (qda : FG K qxT qwy qvX "form_depth" "form_depth" qeA .none qtO quu qyz qvS qAw qCF qBc)
   (qdc : FG K qys qyA qBy "node_unknowns" "node_unknowns" qd2 .none qAP qrS qB0 quw qxB qvn qCi)
   (qcP : FG K qwn qvm qsN "form_unknowns" "form_unknowns" qdx .none qty qsc qyf qsC qyY quX qwJ)
   (qdC : FG K qmM qui qCd "check_size" "check_size" qjd .none qwp qBI qtc qzz qCt qAF qBx)
   (qeB : FG K qnu qsk qsg "check_shifts" "check_shifts" qhR .none qsB qrP qzy qCA qrW qzA qw8)
   (qdK : FG K qqA qun qCC "check_times" "check_times" qj7 .none qBV qvH qzd qtT qrK qyK qxH)
   (qeJ : FG K qnV qvw qr7 "divisor" "divisor" qgN .none qBk qwR qv3 qAn qz3 qvW qsA)
   (qed : FG K qkS qxx qCo "question" "question" qbR .none qzB qzs qwS qxv qAg qsJ qxg)
   (qdI : FG K qqq qs6 qBK "is_name" "is_name" qfX .none qvT qAb qtR qAN qAt qvD qBP)
   (qeG : FM K qap qjG qCI qsh "__init__" "Path.__init__" qey (.ref qlM) qiF qhF qjE qhd qih qjg qCm)
   (qfI : K.lookup qlM = some ⟨qBX, qsu, .seq #[.ref qb2] qtW, qux⟩)
   (qiz : PySem.W.readsIn K qap (.type "type") = true)
   (qjD : PySem.W.specialIn K (.ref qap) "__getattribute__" = some (some (.builtin "type.__getattribute__")))
   (qkb : PySem.W.findCls K (.ref qap) (.type "type") "curve" = some (.get (.builtin "classmethod.__get__") (.ref qhX) .none (.ref qap)))
   (qj8 : PySem.W.recIn K qhX "classmethod" = some (.ref qer :: qBm))
   (qjz : PySem.W.fnIn K qer = true)
   (qiM : K.lookup qer = some ⟨qz0, qxr, .func (PySem.W.fnOf "curve" "Path.curve" (defArgs qcy) (defBody qcy) (defScope qcy) .none qli qql qkB qmS qgw qkW), qAm⟩)
   (qiB : PySem.W.codeIn K qgw "Path.curve" = true)
   (qgu : PySem.W.keepIn K (.ref qer) = true)
   (qcV : FM K qap qlZ qxR qz6 "__str__" "Path.__str__" qhU .none qtY qsQ qtl qBt qBd qA2 qtd)
   (qeb : FG K qnR qxt qA6 "curves_of" "curves_of" qcF .none qnJ qln qpB qpW qmL qpo qzX)
   (qeq : FG K qut qs2 qAk "_law_bag" "_law_bag" qeo .none qzg quG qB2 qBl qwW qzj qs4)
   (qeu : FG K qw2 qwt qt1 "_law_pull" "_law_pull" qjr .none qyq quW qAc qw9 qrL qu5 qzI)
   (qdH : FG K qBq qyS qtt "_law_of" "_law_of" qgI .none qA3 qAQ qAi qsZ qti qtb qyp)
   (qcK : FG K qAo qBA qvR "_law_same" "_law_same" qdR .none qtr qvP quy qvf qz1 qsV quh)
   (qdT : FG K qst qsI qsG "_law_name" "_law_name" qhV .none qBw qve qsS qsj qyP qtD qvE)
   (qeM : FG K qon quD qxQ "_law_words" "_law_words" qj6 .none qBj qw3 qvA qwG qtA qyT qxn)
   (qej : FG K qrh qzW qtJ "_law_value" "_law_value" qgr .none quS qBY qxM qr2 qva qu7 qyy)
   (qdP : FG K qmO qth qsF "_law_is_name" "_law_is_name" qf1 .none qwb qs8 qAG qvz qxi qul qAY)
   (qcu : FG K qCE qB1 qs3 "_law_other_field" "_law_other_field" qrf .none qAd qCf qz8 qCu qzo qzp qza)
   (qcH : FG K qr5 qwO qum "_law_field" "_law_field" qll .none qr4 qvh qAU qBR qsW qxb qws)
   (qch : FG K qqJ qCj qv5 "_law_why" "_law_why" qfN .none qBU qAp qwP qA4 qlD qxP qvC)
   (qdn : FG K qu0 qvM qz5 "law" "law" qaX .none qrb qly qnI qnP (.ref qcc) qnb qAv)
   (qhj : K.lookup qcc = some ⟨ocl, ocd, .fields ovs, osl⟩)
   (qh9 : ovs[11]? = some (.ref qdl))
   (qg7 : PySem.W.codeHdIn K qcc qdl = true)
   (qi7 : PySem.W.noTabs K = true)
   (qjs : PySem.W.makesIn K qap = true)
   (qhm : PySem.W.keepIn K (.ref qap) = true)
   (OT : LamX.OwnTab K fa h) : LamX.LawAtS l w K (L2N.CX l.prog w) 190 63 "_law_script" mg fa h := by
 have e := hfa.symm.trans (PySem.W.mg_of X G qdn.g)
 cases e
 have T : Txt K mg qaI qaO qar qap := ⟨qdk, qdq, qcQ, ⟨qhy, qjf, qjT, qjV⟩, ⟨.str "abcdefghijklmnopqrstuvwxyz", .str "abcdefghijklmnopqrstuvwxyz" qkq, PySem.W.mg_of X G qjN, ⟨_, rfl⟩, λ H => rfl⟩, ⟨.ref qga, .ref qga, PySem.W.mg_of X G qjO, rfl, λ H => (qca (vs := [.str "none"]) qjh rfl rfl (show 1 <= sizeLine by decide) (.cons ⟨_, rfl⟩ .nil) ⟨_, _, rfl, rfl, rfl⟩)⟩, ⟨.ref qb2, .ref qb2, PySem.W.mg_of X G qjB, rfl, λ H => (qca (vs := [.ref qfO, .ref qfr]) qf9 rfl rfl (show 2 <= sizeLine by decide) (.cons rfl (.cons rfl .nil)) ⟨_, _, rfl, (qca (vs := []) qfP rfl rfl (show 0 <= sizeLine by decide) .nil rfl), ⟨_, _, rfl, (qca (vs := []) qfj rfl rfl (show 0 <= sizeLine by decide) .nil rfl), rfl⟩⟩)⟩, ⟨.ref qfw, .ref qfw, PySem.W.mg_of X G qif, rfl, λ H => (qca (vs := [.str "call", .str "curve", .str "cut", .str "define", .str "end", .str "keep", .str "let", .str "m", .str "mirror", .str "move", .str "never", .str "none", .str "nothing", .str "odd", .str "outline", .str "paint", .str "plain", .str "repeat", .str "solid", .str "stain", .str "turn", .str "wipe"]) qh8 rfl rfl (show 22 <= sizeLine by decide) (.cons ⟨_, rfl⟩ (.cons ⟨_, rfl⟩ (.cons ⟨_, rfl⟩ (.cons ⟨_, rfl⟩ (.cons ⟨_, rfl⟩ (.cons ⟨_, rfl⟩ (.cons ⟨_, rfl⟩ (.cons ⟨_, rfl⟩ (.cons ⟨_, rfl⟩ (.cons ⟨_, rfl⟩ (.cons ⟨_, rfl⟩ (.cons ⟨_, rfl⟩ (.cons ⟨_, rfl⟩ (.cons ⟨_, rfl⟩ (.cons ⟨_, rfl⟩ (.cons ⟨_, rfl⟩ (.cons ⟨_, rfl⟩ (.cons ⟨_, rfl⟩ (.cons ⟨_, rfl⟩ (.cons ⟨_, rfl⟩ (.cons ⟨_, rfl⟩ (.cons ⟨_, rfl⟩ .nil)))))))))))))))))))))) ⟨_, _, rfl, rfl, ⟨_, _, rfl, rfl, ⟨_, _, rfl, rfl, ⟨_, _, rfl, rfl, ⟨_, _, rfl, rfl, ⟨_, _, rfl, rfl, ⟨_, _, rfl, rfl, ⟨_, _, rfl, rfl, ⟨_, _, rfl, rfl, ⟨_, _, rfl, rfl, ⟨_, _, rfl, rfl, ⟨_, _, rfl, rfl, ⟨_, _, rfl, rfl, ⟨_, _, rfl, rfl, ⟨_, _, rfl, rfl, ⟨_, _, rfl, rfl, ⟨_, _, rfl, rfl, ⟨_, _, rfl, rfl, ⟨_, _, rfl, rfl, ⟨_, _, rfl, rfl, ⟨_, _, rfl, rfl, ⟨_, _, rfl, rfl, rfl⟩⟩⟩⟩⟩⟩⟩⟩⟩⟩⟩⟩⟩⟩⟩⟩⟩⟩⟩⟩⟩⟩)⟩, ⟨_, PySem.W.mg_of X G qes⟩, ⟨_, PySem.W.mg_of X G qeE⟩, ⟨_, PySem.W.mg_of X G qeg⟩, ⟨_, PySem.W.mg_of X G qc2⟩, PySem.W.mg_of X G qdL, PySem.W.mg_none_of X G qbm, PySem.W.mg_none_of X G qcE, PySem.W.mg_none_of X G qb5, PySem.W.mg_none_of X G qa4, PySem.W.mg_none_of X G qaR, PySem.W.mg_none_of X G qbt, PySem.W.mg_none_of X G qbQ, PySem.W.mg_none_of X G qcI, PySem.W.mg_none_of X G qcr, PySem.W.mg_none_of X G qb8, PySem.W.mg_none_of X G qbz, PySem.W.mg_none_of X G qdU, PySem.W.mg_none_of X G qbk, PySem.W.mg_none_of X G qdB⟩
 refine qAL (c := qcc) (Pt := qdl) (fd := PySem.W.fnOf "law" "law" (defArgs qaX) (defBody qaX) (defScope qaX) .none qrb qly qnI qnP (.ref qcc) qnb) (q := "law" ++ ".<locals>." ++ "<lambda>") X (OT qcc qdl _ _ _ _ _ _ qdn.l rfl rfl qhj qh9) qi7 qg7 (λ s v => .of_eq rfl) λ base _ _ hTB => ?_
 letI : TbC := qc8 qdl ("law" ++ ".<locals>." ++ "<lambda>")
 have Lm : LamP mg base "law" qcc qdl := qB4 hTB
 have SP : ER.SupF l.prog K mg := ⟨PySem.W.mg_none_of X G qiL, tp_, qhx⟩
 have qzG : ER.EC K "ValueError" "ValueError.__init__" "ValueError.__new__" [.type "ValueError", .type "Exception", .type "BaseException", .type "object"] qar := ⟨qhf, qgx, qfx, qg6, qfH, qjC, qim, qi9, qio, qjn⟩
 have qwh : ER.IniC l.prog K qar qgl qix := ⟨⟨_, _, _, _, _, _, qjy, qgX, qjU⟩, ⟨_, _, _, qgL⟩⟩
 have qcD : qfp l.prog w K mg "InvalidName" qar 1 (λ _ => True) (mk1 "value" "InvalidName") := err1 (st := qeQ) qzG PySem.F.store_ValueError PySem.W.kxs_ValueError PySem.F.excBase_ValueError SP qwh (PySem.W.mg_of X G qcD) qip qho qij qgz qit qjk rfl (λ us hl => match us, hl with | [_, _], _ => rfl) rfl rfl qAl (by decide) rfl (λ L => rfl) (λ L => rfl) (λ L => rfl) (λ L => rfl) (λ L => rfl)
 have qwA : ErrK K qaO qaI qar ["value", "code"] := ⟨⟨qha, qg1, qfH, qfx⟩, quq qhn qh3 qhv qgT qj9 qiu qiT qjW rfl, λ f hf => by
   simp only [List.mem_cons, List.not_mem_nil, or_false] at hf
   rcases hf with rfl | rfl <;> assumption⟩
 have HK : ∀ e ∈ ([(qar, ["value", "code"])] : List (Addr × List Str)), ErrK K qaO qaI e.1 e.2 := λ e he => by
   simp only [List.mem_cons, List.not_mem_nil, or_false] at he
   rcases he with rfl
   · exact qwA
 have qre := qeK.F
 have qzk := qeK.b ["pairs"]
 have qjH : Callee l.prog w K mg base "merged_terms" 1 qiI [] [] := ⟨qru, _, _, _, PySem.W.mg_of X G qeK.g, qre.kp, (qrJ T qre ), qzk, .nil, λ _ => rfl⟩
 have qni := qdF.F
 have qAK := qdF.b ["times"]
 have qhe : Callee l.prog w K mg base "times_text" 1 qd9 [] [] := ⟨qrd, _, _, _, PySem.W.mg_of X G qdF.g, qni.kp, (qBo T qni ), qAK, .nil, λ _ => rfl⟩
 have qle := qdZ.F
 have qxz := qdZ.b ["unknown"]
 have qgE : Callee l.prog w K mg base "unknown_text" 1 qeV [] [] := ⟨qma, _, _, _, PySem.W.mg_of X G qdZ.g, qle.kp, (qtP T qle ), qxz, .nil, λ _ => rfl⟩
 have qnX := qdw.F
 have qpa := qdw.b ["node"]

 have qk6 := qdi.F
 have qkC := qdi.b ["form"]
 have ⟨o_node_text, o_form_text⟩ := qlG (P := l.prog) (w := w) (base := base) T qnX qk6 qhe qgE (PySem.W.mg_of X G qdw.g) (PySem.W.mg_of X G qdi.g) qpa qkC 25
 have qcb := qax qnX (PySem.W.mg_of X G qdw.g) o_node_text qpa
 have qdJ := qax qk6 (PySem.W.mg_of X G qdi.g) o_form_text qkC
 have qqQ := qev.F
 have qsD := qev.b ["pairs"]
 have qgS : Callee l.prog w K mg base "merged_outlines" 53 qiE [] [] := ⟨qpK, _, _, _, PySem.W.mg_of X G qev.g, qqQ.kp, (qzi T qqQ qcb), qsD, .nil, λ _ => rfl⟩
 have qn1 := qdr.F
 have qmI := qdr.b ["node"]

 have qkh := qdd.F
 have qoP := qdd.b ["form"]
 have ⟨o_node_size, o_form_size⟩ := qqr (P := l.prog) (w := w) (base := base) T qn1 qkh (PySem.W.mg_of X G qdr.g) (PySem.W.mg_of X G qdd.g) qmI qoP 25
 have qd8 := qax qn1 (PySem.W.mg_of X G qdr.g) o_node_size qmI
 have qdv := qax qkh (PySem.W.mg_of X G qdd.g) o_form_size qoP
 have qoH := qdb.F
 have qlc := qdb.b ["node"]

 have qlB := qda.F
 have qnx := qda.b ["form"]
 have ⟨o_node_depth, o_form_depth⟩ := qqe (P := l.prog) (w := w) (base := base) T qoH qlB (PySem.W.mg_of X G qdb.g) (PySem.W.mg_of X G qda.g) qlc qnx 25
 have qez := qax qoH (PySem.W.mg_of X G qdb.g) o_node_depth qlc
 have qdy := qax qlB (PySem.W.mg_of X G qda.g) o_form_depth qnx
 have qng := qdc.F
 have ql6 := qdc.b ["node"]

 have qrg := qcP.F
 have qoi := qcP.b ["form"]
 have ⟨o_node_unknowns, o_form_unknowns⟩ := qpi (P := l.prog) (w := w) (base := base) T qng qrg (PySem.W.mg_of X G qdc.g) (PySem.W.mg_of X G qcP.g) ql6 qoi 25
 have qdY := qax qng (PySem.W.mg_of X G qdc.g) o_node_unknowns ql6
 have qcY := qax qrg (PySem.W.mg_of X G qcP.g) o_form_unknowns qoi
 have qrv := qdC.F
 have qtH := qdC.b ["size", "depth"]
 have qfi : Callee l.prog w K mg base "check_size" 2 qiW [] [] := ⟨qmM, _, _, _, PySem.W.mg_of X G qdC.g, qrv.kp, (qtv T qrv ), qtH, .nil, λ _ => rfl⟩
 have qmd := qeB.F
 have qyc := qeB.b ["unknowns"]
 have qgg : Callee l.prog w K mg base "check_shifts" 2 qjL [] [] := ⟨qnu, _, _, _, PySem.W.mg_of X G qeB.g, qmd.kp, (qs0 T qmd ), qyc, .nil, λ _ => rfl⟩
 have qpZ := qdK.F
 have qx7 := qdK.b ["form"]
 have qfe : Callee l.prog w K mg base "check_times" 2 qgM [] [] := ⟨qqA, _, _, _, PySem.W.mg_of X G qdK.g, qpZ.kp, (qwL T qpZ ), qx7, .nil, λ _ => rfl⟩
 have qmU := qeJ.F
 have qyM := qeJ.b ["numbers"]
 have qfb : Callee l.prog w K mg base "divisor" 1 qjJ [] [] := ⟨qnV, _, _, _, PySem.W.mg_of X G qeJ.g, qmU.kp, (qrY T qmU ), qyM, .nil, λ _ => rfl⟩
 have qnN := qed.F
 have qzR := qed.b ["kind", "form"]
 have qCU : Callee l.prog w K mg base "question" 54 qml [] [] := ⟨qkS, _, _, _, PySem.W.mg_of X G qed.g, qnN.kp, (qvG T qnN qjH qgS qfb), qzR, .nil, λ _ => rfl⟩
 have qnF := qdI.F
 have qyU := qdI.b ["value"]
 have qc1 : Callee l.prog w K mg base "is_name" 1 qei [] [] := ⟨qqq, _, _, _, PySem.W.mg_of X G qdI.g, qnF.kp, (qwq T qnF ), qyU, .nil, λ _ => rfl⟩
 have qnj := qeG.F
 have qCh := qoT (K := K) (x := "__init__") (qual := "Path.__init__") (st := qey) (kV := qiF) (doc := qhF) (pm := qjE) (an := qhd) (cdv := qih) (ct := qjg) (ps := ["self", "form"]) (its := [.ref qb2]) 2 1 qfI rfl rfl λ us hl => match us, hl with | [_, _], _ => ⟨_, rfl, rfl⟩
 have qvU := qoT (K := K) (x := "__init__") (qual := "Path.__init__") (st := qey) (kV := qiF) (doc := qhF) (pm := qjE) (an := qhd) (cdv := qih) (ct := qjg) (ps := ["self", "form"]) (its := [.ref qb2]) 1 0 qfI rfl rfl λ us hl => match us, hl with | [_], _ => ⟨_, rfl, rfl⟩
 have qo9 : Mk K qap qjG := ⟨qjs, qeG.g, qeG.i, qhm⟩
 have qbH := qzK (PySem.W.mg_of X G qdL) qo9 (qnO (P := l.prog) (w := w) (base := base) T qnj qfe qgg qfi qcY qdv qdy) qCh
 have qCP : Maker l.prog w K mg base "Path" qap 54 qhC [.ref qb2] [.tup [.tup [], .tup []]] := ⟨qjG, _, _, _, PySem.W.mg_of X G qdL, qo9, qnO T qnj qfe qgg qfi qcY qdv qdy, qvU, .cons rfl .nil, λ H => ⟨_, _, rfl, (qca (vs := [.ref qfO, .ref qfr]) qf9 rfl rfl (show 2 <= sizeLine by decide) (.cons rfl (.cons rfl .nil)) ⟨_, _, rfl, (qca (vs := []) qfP rfl rfl (show 0 <= sizeLine by decide) .nil rfl), ⟨_, _, rfl, (qca (vs := []) qfj rfl rfl (show 0 <= sizeLine by decide) .nil rfl), rfl⟩⟩), rfl⟩⟩
 have qtV := qi8 (st := qcy) qiM qiB qgu
 have qzP := qia (K := K) (x := "curve") (qual := "Path.curve") (st := qcy) (kV := qli) (doc := qql) (pm := qkB) (an := qmS) (cdv := qgw) (ct := qkW) (ps := ["cls", "name"]) λ us hl => match us, hl with | [_, _], _ => rfl
 have qdz : CMt l.prog w K mg base qap "curve" 56 (qdD qap qar) [] [] := ⟨.type "type", qhX, qer, _, _, _, ⟨qiz, qjD⟩, ⟨qkb, ⟨_, qj8⟩, qjz⟩, (qzY (P := l.prog) (w := w) (base := base) T qtV qc1 qcD qbH), qzP, .nil, λ _ => rfl⟩
 have qtL := qcV.F
 have qs7 := qcV.b ["self"]
 have qd5 : Strr l.prog w K mg base qap "__str__" 107 (qdo qap) := ⟨qlZ, _, _, qcV.g, qcV.i, (qB3 (P := l.prog) (w := w) (base := base) T qtL qdJ), qs7⟩
 have qzN := qeb.F
 have BV_c := quN (K := K) (fd := PySem.W.fnOf "curves_of" "curves_of" (defArgs qcF) (defBody qcF) (defScope qcF) .none qnJ qln qpB qpW qmL qpo) (ks := []) (pv := "names") (λ ws hl => match ws, hl with | [], _ => rfl) (λ ws r rs hl => match ws, hl with | [], _ => rfl)
 have qd6 : qgk l.prog w K mg base "curves_of" 57 (qdS qap qar) [] (λ _ zs => zs) id := ⟨qnR, PySem.W.mg_of X G qeb.g, qeb.p, qtz (P := l.prog) (w := w) (base := base) T qzN BV_c qdz, λ H ds zs _ r => r⟩
 have qmm := qeq.F
 have qz9 := qeq.b ["_law_script"]
 have qg5 := qax qmm (PySem.W.mg_of X G qeq.g) (que (P := l.prog) (w := w) (base := base) T qmm) qz9
 have qpH := qeu.F
 have qzt := qeu.b ["_law_bag_here", "_law_many"]
 have qbs := qax qpH (PySem.W.mg_of X G qeu.g) (qCc (P := l.prog) (w := w) (base := base) T qpH) qzt
 have qpw := qdH.F
 have quQ := qdH.b ["_law_bag_here", "_law_things"]
 have qbT := qax qpw (PySem.W.mg_of X G qdH.g) (qw1 (P := l.prog) (w := w) (base := base) T qpw qbs) quQ
 have qkF := qcK.F
 have qk3 := qcK.b ["_law_found", "_law_due"]
 have qcs := qax qkF (PySem.W.mg_of X G qcK.g) (qqh (P := l.prog) (w := w) (base := base) T qkF (PySem.W.mg_of X G qcK.g) qk3 3) qk3
 have qrE := qdT.F
 have qAI := qdT.b ["_law_bag_here"]
 have qhZ := qax qrE (PySem.W.mg_of X G qdT.g) (qzV (P := l.prog) (w := w) (base := base) T qrE qbs qbT) qAI
 have qn4 := qeM.F
 have qzf := qeM.b []
 have qcw : Callee l.prog w K mg base "_law_words" 1 qcd [] [] := ⟨qon, _, _, _, PySem.W.mg_of X G qeM.g, qn4.kp, (qup T qn4 ), qzf, .nil, λ _ => rfl⟩
 have qkQ := qej.F
 have qwe := qej.b ["_law_bag_here"]
 have qi1 : Callee l.prog w K mg base "_law_value" 4 qfs [] [] := ⟨qrh, _, _, _, PySem.W.mg_of X G qej.g, qkQ.kp, (qAf T qkQ qbs qbT qcw qhZ), qwe, .nil, λ _ => rfl⟩
 have qmb := qdP.F
 have qww := qdP.b ["_law_value_here"]
 have qex : Callee l.prog w K mg base "_law_is_name" 2 qcB [] [] := ⟨qmO, _, _, _, PySem.W.mg_of X G qdP.g, qmb.kp, (qt8 T qmb qcw), qww, .nil, λ _ => rfl⟩
 have qCN := qcu.F
 have HO := ER.qsf (P := l.prog) (w := w) (base := base) (k := 128) (N := qno) qcu.l (PySem.W.mg_of X G qcu.g) qcu.p qcu.d qvl rfl (.inl rfl) (λ s v => .of_eq rfl) rfl rfl
 have qCV := qcH.F
 have HF := ER.qyd (P := l.prog) (w := w) (base := base) (k := 129) (N := qoR) qcH.l rfl HO rfl (PySem.W.mg_of X G qcH.g) qcH.p qcH.d qBN rfl (.inl rfl) (by rintro es e env (rfl | rfl | rfl | rfl | rfl | rfl | rfl) <;> rfl) rfl (λ s v => .of_eq rfl) rfl rfl
 have qCQ := qch.F
 have qyE := qch.b ["_law_ask"]
 have Wy : WhyF l.prog w K mg base 130 qaO qaI := ⟨"_law_ask", "_law_e", _, _, _, _, _, _, _, _, _, _, _, _, _, _, PySem.W.mg_of X G qch.g, qch.p, qch.l, qch.d, qyE, sc_law_why, .inl rfl, rfl, rfl, λ Y qq e1 e2 e3 e4 e5 hr => by
   have HF2 : ER.HotF Y.prog Y.w Y.K Y.mg Y.base "_law_field" 130 (ER.lrOf Y.K ER.FieldV) := by
     rw [e1, e2, e3, e4, e5]
     exact HF
   have m1 : Y.mg "CurveError" = some (.ref qaO) := by
     rw [e4]
     exact PySem.W.mg_of X G qh2
   have m2 : Y.mg "Absent" = some (.ref qaI) := by
     rw [e4]
     exact PySem.W.mg_of X G qhh
   have R : LamX.GivesTo Y ["_law_ask", "_law_e"] "_law_why" (defScope qfN) qqJ qlD (defBody qfN) "_law_ask" qq (ER.qet Y.K qaO qaI) := ER.qsx (k := 130) rfl rfl rfl rfl m1 m2 sc_law_why.nd rfl rfl HF2 hr rfl rfl (λ _ => rfl) (λ _ => rfl) (λ _ => rfl) (λ _ => rfl) (λ _ => rfl) (λ _ => rfl)
   rw [e3] at R
   exact R⟩
 have qrR : FunC K "law" "law" qaX _ _ qcc := ⟨⟨_, _, _, _, _, _, _, _, _, rfl, qdn.l, qdn.d⟩⟩
 exact ok_law (P := l.prog) (w := w) (base := base) T qrR Lm Wy HK qg5 qi1 qc1 qex qdz qd5 qcs qd6
end DL
open PySem PySem.W PyProof.Rows
set_option maxHeartbeats 0 in
theorem PySem.Challenge.cw_unseencurves_k08_names_holds : PySem.Challenge.rw_unseencurves_k08_names.Holds := by
 refine KH.fin ?_
 refine LamX.walk_ofOwn (l := PySem.Challenge.rw_unseencurves_k08_names) (n := 63) (k := 190) (x := "_law_script") (CX := λ w => L2N.CX PySem.Challenge.rw_unseencurves_k08_names.prog w) rfl (by decide) rfl ⟨rfl, by decide, by decide⟩ (by decide +kernel) (λ w h Y => PySem.W.kIn_of Y) ?F (λ w H s e s2 h => DL.qv0 H s e s2 h)
 case F =>
   intro w mg fa h _ KX G hmg OT
   refine' DL.all_mk KX G hmg ?qhh ?qh2 ?qcD ?qdL ?qdk ?qdq ?qcQ ?qhy ?qjf ?qjT ?qjV ?qjN ?qjO ?qjh ?qjB ?qf9 ?qfP ?qfj ?qif ?qh8 ?qes ?qeE ?qeg ?qc2 ?qbm ?qcE ?qb5 ?qa4 ?qaR ?qbt ?qbQ ?qcI ?qcr ?qb8 ?qbz ?qdU ?qbk ?qdB ?qiL ?tp_ ?qhx ?qhf ?qgx ?qfx ?qg6 ?qfH ?qjC ?qim ?qi9 ?qio ?qjn ?qip ?qho ?qij ?qgz ?qjy ?qgX ?qjU ?qgL ?qit ?qjk ?qhn ?qh3 ?qhv ?qj9 ?qiu ?qiT ?qgT ?qjW ?qha ?qg1 ?qqf ?qmu ?qeK ?qdF ?qdZ ?qdw ?qdi ?qev ?qdr ?qdd ?qdb ?qda ?qdc ?qcP ?qdC ?qeB ?qdK ?qeJ ?qed ?qdI ?qeG ?qfI ?qiz ?qjD ?qkb ?qj8 ?qjz ?qiM ?qiB ?qgu ?qcV ?qeb ?qeq ?qeu ?qdH ?qcK ?qdT ?qeM ?qej ?qdP ?qcu ?qcH ?qch ?qdn ?qhj ?qh9 ?qg7 ?qi7 ?qjs ?qhm OT
   case qhh | qh2 | qcD | qdL | qdk | qdq | qcQ | qhy | qjf | qjT | qjV | qjN | qjO | qjh | qjB | qf9 | qfP | qfj | qif | qh8 | qes | qeE | qeg | qc2 | qbm | qcE | qb5 | qa4 | qaR | qbt | qbQ | qcI | qcr | qb8 | qbz | qdU | qbk | qdB | qiL | tp_ => first | (as_aux_lemma => k_is) | k_is
   case qhx => decide +kernel
   case qhf => first | (as_aux_lemma => k_is) | k_is
   case qgx => first | (as_aux_lemma => kernel_rfl) | kernel_rfl
   case qfx => first | (as_aux_lemma => k_is) | k_is
   case qg6 => first | (as_aux_lemma => kernel_rfl) | kernel_rfl
   case qfH | qjC | qim | qi9 => first | (as_aux_lemma => k_is) | k_is
   case qio => first | (as_aux_lemma => kernel_rfl) | kernel_rfl
   case qjn | qip | qho | qij | qgz | qjy => first | (as_aux_lemma => k_is) | k_is
   case qgX => rfl
   case qjU => decide +kernel
   case qgL | qit | qjk | qhn | qh3 | qhv | qj9 | qiu | qiT | qgT | qjW | qha | qg1 | qqf | qmu => first | (as_aux_lemma => k_is) | k_is
   case qeK | qdF | qdZ | qdw | qdi | qev | qdr | qdd | qdb | qda | qdc | qcP | qdC | qeB | qdK | qeJ | qed | qdI | qeG => constructor <;> (first | (as_aux_lemma => k_is) | k_is)
   case qfI | qiz | qjD | qkb | qj8 | qjz | qiM | qiB | qgu => first | (as_aux_lemma => k_is) | k_is
   case qcV | qeb | qeq | qeu | qdH | qcK | qdT | qeM | qej | qdP | qcu | qcH | qch | qdn => constructor <;> (first | (as_aux_lemma => k_is) | k_is)
   case qhj => first | (as_aux_lemma => k_is) | k_is
   case qh9 => rfl
   case qg7 | qi7 => first | (as_aux_lemma => kernel_rfl) | kernel_rfl
   case qjs | qhm => first | (as_aux_lemma => k_is) | k_is

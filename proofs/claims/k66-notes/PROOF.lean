import PyProof.Rows.All
import Wide.All
import OpenK.AllK
import Wide.FinOn
import PySem.Challenge.RW_takenforms_k66_notes_round
import KE.KSortTupAny
import HandS.ForMost
import HandS.SortRule
import HandS.SortInts
import HandS.Conv
import HandS.DeepEq
import HandS.IsInst
import PyProof.NeKinds
import HandS.TupMul
import HandS.Style
import HandS.Deep
import PyProof.StrBlock2
import KE.GoesMore
import HandS.Walk
import PyProof.ListMulRoad
import PyProof.FactsAll.tuple_2
import HandS.More
import HandS.HeadHook3
import KE.KStateDown
import HandS.ForExc
import HandS.Wide
import HandS.Gcd
import HandS.HeadHook2
import HandS.TupAny
import HandS.TupLen
import HandS.Defaults
import HandS.CallSlots
import HandS.Codes
import HandS.HeadHook1
import HandS.TryOnly
import HandS.ExcIs
import HandS.MakeKw
import HandS.Head0
import HandS.Head1
import HandS.Head2
import HandS.Head3
import HandS.HeadEnd
import HandS.EndBits
import PyProof.StrLawsIn
import HandS.Text
set_option Elab.async false
set_option linter.all false
set_option maxRecDepth 100000
set_option maxHeartbeats 4000000
/-! RX1: sorted of lists of tuples of ints and texts, of texts, of dicts with such keys: any number of them. -/
namespace L2
open PySem PySem.Spec PyProof.Rows Srt
/-- a key as the sort sees it -/
def keyI : Key → Int ⊕ List Nat
  | .inl i => .inl i
  | .inr x => .inr x.cps.toList
def keyT : Key → Bool
  | .inl _ => false
  | .inr _ => true
/-- each place an int or a text, as the shape says -/
def shapeOk (sh : Nat → Bool) : Nat → List Key → Bool
  | _, [] => true
  | i, k :: r => (keyT k == sh i) && shapeOk sh (i + 1) r
theorem keyI_inj {a b : Key} (h : keyI a = keyI b) : a = b := by
  cases a with
  | inl i =>
    cases b with
    | inl j => cases h; rfl
    | inr y => cases h
  | inr x =>
    cases b with
    | inl j => cases h
    | inr y =>
      have e : x.cps.toList = y.cps.toList := Sum.inr.inj h
      have e2 : x.cps = y.cps := Array.toList_inj.mp e
      cases x
      cases y
      cases e2
      rfl
theorem keysI_inj : ∀ {a b : List Key}, a.map keyI = b.map keyI → a = b
  | [], [], _ => rfl
  | [], _ :: _, h => by cases h
  | _ :: _, [], h => by cases h
  | x :: a, y :: b, h => by
    rw [List.map_cons, List.map_cons, List.cons.injEq] at h
    rw [keyI_inj h.1, keysI_inj h.2]
theorem tupItems_of {sh : Nat → Bool} : ∀ {i : Nat} {ks : List Key} {us : List Value}, shapeOk sh i ks = true → Vals (ks.map kV) us → tupItems sh i us = some (ks.map keyI)
  | i, [], us, _, r => by cases r; rfl
  | i, k :: ks, us, h, r => by
    cases r with
    | cons r1 r2 =>
      unfold shapeOk at h
      rw [Bool.and_eq_true, beq_iff_eq] at h
      have ih := tupItems_of h.2 r2
      cases k with
      | inl n =>
        obtain ⟨t, rfl⟩ := r1
        have e : sh i = false := h.1.symm
        simp [tupItems, e, ih, keyI]
      | inr x =>
        obtain ⟨t, rfl⟩ := r1
        have e : sh i = true := h.1.symm
        simp [tupItems, e, ih, keyI]
section
variable {prog : Program} {w : World} {A : Around} {E : Value → Shared → Prop} {s : Shared}
theorem tupsOf_of {h : Heap} {sh : Nat → Bool} : ∀ {vs : List Value}, (∀ v ∈ vs, ∃ f, TupOf h sh v f) → ∃ fs, TupsOf h sh vs fs ∧ fs.length = vs.length
  | [], _ => ⟨[], .nil, rfl⟩
  | v :: vs, h => by
    obtain ⟨f, hf⟩ := h v List.mem_cons_self
    obtain ⟨fs, h1, h2⟩ := tupsOf_of (vs := vs) fun u hu => h u (List.mem_cons_of_mem _ hu)
    exact ⟨f :: fs, .cons hf h1, by simp [h2]⟩
/-- what is asked of a list's items -/
def KTup (h : Heap) (sh : Nat → Bool) (v : Value) (l : List (Int ⊕ List Nat)) : Prop := ∃ b its, v = .ref b ∧ IsTup h b its ∧ tupItems sh 0 its.toList = some l ∧ l ≠ []
theorem KTup.of {h : Heap} {sh : Nat → Bool} {v : Value} {l : List (Int ⊕ List Nat)} (x : KTup h sh v l) : ∃ f, TupOf h sh v f := by
  obtain ⟨b, its, rfl, ⟨o, ho, hc, n, hd⟩, hi, hne⟩ := x
  cases e : its.toList with
  | nil =>
    rw [e] at hi
    exact absurd (Option.some.inj (show some [] = some l from hi)).symm hne
  | cons f r =>
    have h0 : its[0]? = some f := by rw [← Array.getElem?_toList, e]; rfl
    rw [e] at hi
    refine ⟨f, b, o, its, n, rfl, ho, hc, hd, h0, fun q => ?_, fun q => ?_⟩
    · obtain ⟨k, t, _, e1, _⟩ := tupItems_int q hi
      exact ⟨k, t, e1⟩
    · obtain ⟨k, t, _, e1, _⟩ := tupItems_str q hi
      exact ⟨k, t, e1⟩
theorem KTup.key {h : Heap} {sh : Nat → Bool} {v : Value} {l : List (Int ⊕ List Nat)} (x : KTup h sh v l) : tupKey h sh v = some l := by
  obtain ⟨b, its, rfl, ⟨o, ho, hc, n, hd⟩, hi, hne⟩ := x
  show (match h.get? b with
    | some o => match o.data with
      | .seq xs _ => tupItems sh 0 xs.toList
      | _ => none
    | none => none) = some l
  rw [ho]
  dsimp only
  rw [hd]
  exact hi
theorem KTup.keeps {h h' : Heap} {sh : Nat → Bool} {v : Value} {l : List (Int ⊕ List Nat)} (x : KTup h sh v l) (k : ∀ b o, h.get? b = some o → o.cls = .type "tuple" → h'.get? b = some o) : KTup h' sh v l := by
  obtain ⟨b, its, e, ⟨o, ho, hc, n, hd⟩, hi, hne⟩ := x
  exact ⟨b, its, e, ⟨o, k b o ho hc, hc, n, hd⟩, hi, hne⟩
theorem swo_key {α : Type} (kf : α → List (Int ⊕ List Nat)) : SrtO.Swo fun v u => lexLt itemOrd (kf v) (kf u) := by
  refine ⟨fun x y h => ?_, fun x y z h1 h2 => ?_⟩
  · cases q : lexLt itemOrd (kf y) (kf x) with
    | false => rfl
    | true =>
      have := lex_trans _ _ _ h q
      rw [lex_irrefl] at this
      cases this
  · cases q : lexLt itemOrd (kf z) (kf x) with
    | false => rfl
    | true =>
      rcases lex_negTrans (O := itemOrd) (kf z) (kf y) (kf x) q with h | h
      · rw [h] at h2; cases h2
      · rw [h] at h1; cases h1
theorem ktups_sortable {a : Addr} {vs : List Value} {sh : Nat → Bool} {kf : Value → List (Int ⊕ List Nat)} (h0 : 0 < vs.length) (hp : ∀ v ∈ vs, KTup s.heap sh v (kf v)) (ha : ∀ o, s.heap.get? a = some o → o.cls ≠ .type "tuple") :
    SrtO.SortableO prog w A s a vs fun v u => lexLt itemOrd (kf v) (kf u) := by
  intro h' keep
  have hp' : ∀ v ∈ vs, KTup h' sh v (kf v) := fun v hm => (hp v hm).keeps fun b o e c => keep b o (fun z => by subst z; exact ha o e c) e
  obtain ⟨fs, h1, h2⟩ := tupsOf_of fun v hm => (hp' v hm).of
  refine ⟨tuples' true, fun Q E hq => ?_, fun p q hm hm' => ?_⟩
  · exact tup_kind (s := { s with heap := h' }) (by omega) h1 hq
  · exact tup_ltAt (s := { s with heap := h' }) (shape := sh) true A _ p.1 q.1 _ _ (hp' _ hm).key (hp' _ hm').key ⟨rfl, rfl⟩
/-- what a value's V is, where it is an object -/
theorem sorted_kt {l : Addr} {vs : List Value} {sh : Nat → Bool} {kf : Value → List (Int ⊕ List Nat)} {Q : Value → Shared → Prop} (hl : s.heap.IsList l vs.toArray) (hz : vs.length ≤ sizeLine) (hp : ∀ v ∈ vs, KTup s.heap sh v (kf v))
    (h : ∀ (h' : Heap) (d : Addr) (out : List Value), SrtO.Srtd (fun v u => lexLt itemOrd (kf v) (kf u)) out → SrtO.Stb (fun v u => lexLt itemOrd (kf v) (kf u)) out vs → (∀ b o, s.heap.get? b = some o → h'.get? b = some o) → s.heap.objs.size ≤ d → (∃ n, h'.get? d = some (seqObj "list" out.toArray n)) → Q (.ref d) { s with heap := h' }) :
    wpAny (model prog w) A (call (.builtin "sorted") [.ref l]) Q E s := by
  refine SrtO.sorted_ord (swo_key kf) hl hz (fun h2 h₁ a ha kk => ?_) fun out hs hb => ?_
  · refine ktups_sortable (s := { s with heap := h₁ }) (by omega) (fun v hm => (hp v hm).keeps fun b o e _ => (kk b o e).2) fun o e => ?_
    have e' : some o = some (seqObj "list" vs.toArray 0) := e.symm.trans ha
    cases e'
    intro c
    exact absurd (Value.type.inj c) (by decide)
  · exact h _ _ out hs hb (fun b o e => sortedAll_old e) (Nat.le_succ _) (sortedAll_at s.heap vs out.toArray)
end
/-- sorted(xs), xs a list of tuples of ints and texts, not empty, of one shape -/
def rSortKT (K : PySem.W.Frag) : List V → Hp → VK → Prop := fun vs H Q => ∃ (a : Addr) (xs : List V) (sh : Nat → Bool) (kf : V → List Key), vs = [.ref a] ∧ SqL K H a xs ∧
  (∀ x ∈ xs, kf x ≠ [] ∧ shapeOk sh 0 (kf x) = true ∧ ∃ t, x = .ref t ∧ SqT K H t ((kf x).map kV)) ∧
  ∀ ys p, ys.Perm xs → ys.Pairwise (fun x y => lexLt itemOrd ((kf y).map keyI) ((kf x).map keyI) = false) → H p = none → Q (.ref p) (upd H p (.lst ys))
section
variable {X : Cx}
theorem ktup_at {pins : List (Addr × Obj)} {s : Shared} {σ : St} {H : Hp} (I : Inv X pins σ H s) {sh : Nat → Bool} {t : Addr} {ks : List Key} (h0 : ks ≠ []) (h1 : shapeOk sh 0 ks = true) (h : SqT X.K H t (ks.map kV)) : KTup s.heap sh (.ref t) (ks.map keyI) := by
  obtain ⟨its, r, p, _⟩ := I.tuple h
  exact ⟨t, its.toArray, rfl, p, tupItems_of h1 r, by simpa using h0⟩
theorem cr_sortKT : CallR X (.builtin "sorted") (rSortKT X.K) := by
  intro pins s σ H vs us Q I r h
  obtain ⟨a, xs, sh, kf, rfl, hs, hx, q⟩ := h
  obtain ⟨its, rv, hl, hz⟩ := I.list hs
  obtain ⟨u, rfl, ru⟩ := vals1 r
  obtain rfl : u = Value.ref a := ru
  obtain ⟨e1, e2⟩ := refs_back rv fun x m => by
    obtain ⟨_, _, t, e, _⟩ := hx x m
    exact ⟨t, e⟩
  refine sorted_kt (sh := sh) (kf := fun u => (kf (backV u)).map keyI) hl.isList (by rw [← rv.length]; exact hz) (fun v hv => ?_) fun h' d out h1 h2 kp hd hn => ?_
  · obtain ⟨t, rfl⟩ := e2 v hv
    have hm : V.ref t ∈ xs := by rw [e1]; exact List.mem_map.mpr ⟨_, hv, rfl⟩
    obtain ⟨c1, c2, t', e, ht⟩ := hx _ hm
    cases e
    exact ktup_at I c1 c2 ht
  · have h3 : ∀ u ∈ out, ∃ a, u = Value.ref a := fun u hu => e2 u (h2.perm.mem_iff.mp hu)
    obtain ⟨n, hn⟩ := hn
    have hb : (out.map backV).Perm xs := by
      rw [e1]
      exact h2.perm.map backV
    refine ⟨.ref d, upd H d (.lst (out.map backV)), I.laid (t' := s.toks) kp hd ⟨?_, out, n, vals_back h3, hn⟩, rfl, q _ d hb ?_ (I.hok.fresh hd)⟩
    · rw [hb.length_eq]
      exact hz
    · rw [List.pairwise_map]
      exact h1
/-- sorted(d), d a dict whose keys are tuples of ints and texts -/
def rSortDT (K : PySem.W.Frag) : List V → Hp → VK → Prop := fun vs H Q => ∃ (a : Addr) (kvs : List (List Key × V)) (sh : Nat → Bool), vs = [.ref a] ∧ Rd H a (.dT kvs) ∧ (∀ p ∈ kvs, p.1 ≠ [] ∧ shapeOk sh 0 p.1 = true) ∧
  ∀ (bs : List Addr) (kf : V → List Key) (ys : List V) (p : Addr), IsKeys H kvs bs → (∀ b ∈ bs, H b = some (.tup ((kf (.ref b)).map kV))) → ys.Perm (bs.map V.ref) → ys.Pairwise (fun x y => lexLt itemOrd ((kf y).map keyI) ((kf x).map keyI) = false) → H p = none → Q (.ref p) (upd H p (.lst ys))
theorem isKeys_len {H : Hp} : ∀ {kvs : List (List Key × V)} {bs : List Addr}, IsKeys H kvs bs → kvs.length = bs.length := fun r => Paired.length r
theorem isKeys_mem {H : Hp} {kvs : List (List Key × V)} {bs : List Addr} (r : IsKeys H kvs bs) : ∀ b ∈ bs, ∃ p ∈ kvs, H b = some (.tup (p.1.map kV)) := by
  unfold IsKeys at r
  induction r with
  | nil => intro b hb; cases hb
  | @cons p b ps bs h t ih =>
    intro c hc
    rcases List.mem_cons.mp hc with rfl | hc
    · exact ⟨p, List.mem_cons_self, h⟩
    · obtain ⟨q, hq, e⟩ := ih c hc
      exact ⟨q, List.mem_cons_of_mem _ hq, e⟩
noncomputable def keyAt (H : Hp) (v : V) : List Key := by
  classical
  exact match v with
  | .ref b => if h : ∃ ks : List Key, H b = some (.tup (ks.map kV)) then h.choose else []
  | _ => []
theorem keyAt_eq {H : Hp} {b : Addr} {ks : List Key} (h : H b = some (.tup (ks.map kV))) : keyAt H (.ref b) = ks := by
  unfold keyAt
  have ex : ∃ ks : List Key, H b = some (.tup (ks.map kV)) := ⟨ks, h⟩
  dsimp only
  rw [dif_pos ex]
  have e := h.symm.trans ex.choose_spec
  have e2 : ks.map kV = ex.choose.map kV := by injection e with e; injection e
  exact (kVs_inj e2).symm
theorem cr_sortDT (hc : X.calm = true) : CallR X (.builtin "sorted") (rSortDT X.K) := by
  intro pins s σ H xs us Q I r h
  obtain ⟨d, kvs, sh, rfl, hd, hsh, q⟩ := h
  obtain ⟨u, rfl, rx⟩ := vals1 r
  obtain rfl : u = Value.ref d := rx
  obtain ⟨z, hs, ks, pr, o, es, ep, ho, hx, hdt, he, hn⟩ := (show ObjOk X.prog X.w H s.heap d (.dT kvs) from hd.ok I.hok)
  have l1 : es.size = ks.length := size_of_entries he
  have l2 : kvs.length = ks.length := Paired.length pr
  have ik : IsKeys H kvs (ks.map fun x => x.2.1) := isKeys_of pr
  refine Calls.call_function_entry PyProof.Rows.kind_sorted PyProof.Rows.plain_sorted PyProof.Rows.entry_sorted (PyProof.Rows.args_sorted1 _) ?_
  unfold Builtin.«sorted»
  refine wpAny_bind (m := checkCount "sorted" 1 1 _) (wpAny_pure ?_)
  refine wpAny_bind (PySem.W.kdu_collect (A := X.A.in1) (kdl_raw hs hx hdt) (I.ok.hd hc) ho (by omega) fun h' tk acc' kp it => ?_)
  have ea : acc'.toList = (ks.map fun x => x.2.1).map Value.ref := by
    have hl : acc'.toList.length = ks.length := by rw [Array.length_toList, it.1]; exact l1
    apply List.ext_getElem?
    intro j
    rw [List.map_map, List.getElem?_map]
    cases hj : acc'.toList[j]? with
    | none =>
      have h1 := List.getElem?_eq_none_iff.mp hj
      rw [List.getElem?_eq_none (by omega)]
      all_goals rfl
    | some v =>
      obtain ⟨en, hen, hv⟩ := it.2 j v (by rw [← Array.getElem?_toList]; exact hj)
      have qe := entry_at he j
      rw [hen] at qe
      cases hb : ks[j]? with
      | none =>
        rw [hb] at qe
        exact nomatch (show some en = none from qe)
      | some b =>
        rw [hb] at qe
        have e2 : en = entryOfKey (tupleKind (mixKind X.prog X.w)) b := Option.some.inj qe
        rw [hv, e2]
        all_goals rfl
  generalize hbs : (ks.map fun x => x.2.1) = bs at ea ik
  have hlb : bs.length = ks.length := by rw [← hbs, List.length_map]
  have I1 : Inv X pins σ H { s with heap := h', toks := tk } := I.kept kp
  have hal : acc'.toList.length ≤ sizeLine := by rw [ea, List.length_map, hlb]; omega
  refine wpAny_bind (wpAny_newList ?_ hal)
  rw [ea]
  have hoL : (h'.push (seqObj "list" (bs.map Value.ref).toArray 0)).get? h'.objs.size = some (seqObj "list" (bs.map Value.ref).toArray 0) := Heap.get?_push_size _ rfl
  show wpAny _ _ _ _ _ { s with heap := h'.push (seqObj "list" (bs.map Value.ref).toArray 0), toks := tk }
  have hal' : (bs.map Value.ref).length ≤ sizeLine := by rw [← ea]; exact hal
  have kf : ∀ b ∈ bs, H b = some (.tup ((keyAt H (.ref b)).map kV)) := fun b hb => by
    obtain ⟨p, _, e⟩ := isKeys_mem ik b hb
    rw [keyAt_eq e]
    exact e
  refine wpAny_bind (wpAny_holding (wpAny_call_entry PyProof.Rows.slot_list_sort ⟨_, hoL, rfl⟩ PyProof.Rows.entry_list_sort
    (SrtO.list_sort_ord (s := { s with heap := h'.push (seqObj "list" (bs.map Value.ref).toArray 0), toks := tk }) (swo_key fun u => (keyAt H (backV u)).map keyI) hoL hal' (fun h2 => ?_) fun out hs hb => ⟨_, rfl, ?_⟩)
    (PyProof.Rows.args_list_sort _)))
  · refine ktups_sortable (s := { s with heap := h'.push (seqObj "list" (bs.map Value.ref).toArray 0), toks := tk }) (sh := sh) (by omega) (fun v hv => ?_) fun o e => ?_
    · obtain ⟨b, hb, rfl⟩ := List.mem_map.mp hv
      obtain ⟨p, hp, e⟩ := isKeys_mem ik b hb
      have hk := hsh p hp
      have kt := ktup_at I1 (sh := sh) hk.1 hk.2 (SqT.of e)
      have e3 : keyAt H (backV (Value.ref b)) = p.1 := keyAt_eq e
      rw [e3]
      exact kt.keeps fun b o e _ => Heap.get?_push_of_some _ e
    · have e' : some o = some (seqObj "list" (bs.map Value.ref).toArray 0) := e.symm.trans hoL
      cases e'
      intro c
      exact absurd (Value.type.inj c) (by decide)
  · obtain ⟨e', he'⟩ := PyProof.Rows.sortedHeap_at (vs := bs.map Value.ref) (out := out.toArray) hoL
    have h3 : ∀ u ∈ out, ∃ a, u = Value.ref a := fun u hu => by
      obtain ⟨b, _, e⟩ := List.mem_map.mp (hb.perm.mem_iff.mp hu)
      exact ⟨b, e.symm⟩
    have hp : (out.map backV).Perm (bs.map V.ref) := by
      have := hb.perm.map backV
      rw [List.map_map] at this
      exact this
    refine wpAny_pure ⟨_, rfl, .ref h'.objs.size, upd H h'.objs.size (.lst (out.map backV)), I1.laid (t' := tk) (fun b u e => ?_) (Nat.le_refl _) ⟨?_, out, e', vals_back h3, he'⟩, rfl, q bs (keyAt H) _ _ ik kf hp ?_ (I1.hok.fresh (Nat.le_refl _))⟩
    · have hb : b < h'.objs.size := Heap.lt_size e
      show (sortedHeap (h'.push (seqObj "list" (bs.map Value.ref).toArray 0)) h'.objs.size (bs.map Value.ref) out.toArray).get? b = some u
      rw [PyProof.Rows.sortedHeap_old (Nat.ne_of_lt hb) (by rw [size_push']; exact Nat.lt_succ_of_lt hb)]
      exact Heap.get?_push_of_some _ e
    · rw [hp.length_eq, List.length_map, hlb]
      omega
    · rw [List.pairwise_map]
      exact hs
end
end L2
set_option maxRecDepth 100000
set_option maxHeartbeats 4000000
/-! RX2: == and != of lists, tuples, dicts of any nesting. -/
namespace PySem.W
open Lean Elab Tactic Meta PySem PySem.Calls PyProof.Rows PyProof.V PySem.Spec
section
variable {prog : Program} {w : World} {K : Type} [DecidableEq K] {knd : HeapKind prog w K} {A : Around} {E : Value → Shared → Prop} {s : Shared}
inductive HitsH (prog : Program) (w : World) (A : Around) (s : Shared) (xb : List (K × Addr × Value)) : List (K × Addr × Value) → Bool → Prop
  | nil : HitsH prog w A s xb [] true
  | miss {k : K} {p : Addr × Value} {r : List (K × Addr × Value)} : atKey xb k = none → HitsH prog w A s xb ((k, p) :: r) false
  | hit {k : K} {p q : Addr × Value} {r : List (K × Addr × Value)} {e b : Bool} : atKey xb k = some q → SeqAt.EqP prog w A s p.2 q.2 e → HitsH prog w A s xb r b → HitsH prog w A s xb ((k, p) :: r) (e && b)
theorem HitsH.inv {xb : List (K × Addr × Value)} {k : K} {p : Addr × Value} {r : List (K × Addr × Value)} {b : Bool} (h : HitsH prog w A s xb ((k, p) :: r) b) :
    (atKey xb k = none ∧ b = false) ∨ ∃ q e b', atKey xb k = some q ∧ SeqAt.EqP prog w A s p.2 q.2 e ∧ HitsH prog w A s xb r b' ∧ b = (e && b') := by
  cases h with
  | miss hn => exact .inl ⟨hn, rfl⟩
  | hit hy he hr => exact .inr ⟨_, _, _, hy, he, hr, rfl⟩
theorem samePairsH {nm : String} {a b : Addr} {xa xb : List (K × Addr × Value)} {r : Bool} {Q : Bool → Shared → Prop} (hu : knd.room A) (ha : (a == sysModules) = false) (hb : (b == sysModules) = false)
    (da : s.heap.DictOfH knd a xa) (db : s.heap.DictOfH knd b xb) (hits : xa.length = xb.length → HitsH prog w A s xb xa r) (h : Q (xa.length == xb.length && r) s) :
    wpAny (model prog w) A (Builtin.Dict.samePairs nm a b) Q E s := by
  obtain ⟨oa, es, ep, hoa, _, hda, hea, hia, hna⟩ := da
  obtain ⟨ob, es', ep', hob, _, hdb, heb, hib, hnb⟩ := db
  have hla : xa.length = es.size := (size_of_entries hea).symm
  have hlb : xb.length = es'.size := (size_of_entries heb).symm
  rw [hla, hlb] at h
  unfold Builtin.Dict.samePairs Builtin.Dict.showsAll
  rw [if_neg (show ¬ (a == sysModules) = true by rw [ha]; exact Bool.false_ne_true), if_neg (show ¬ (b == sysModules) = true by rw [hb]; exact Bool.false_ne_true)]
  refine wpAny_bind (wpAny_pure (wpAny_bind (wpAny_pure ?_)))
  refine wpAny_bind (wpAny_dictEntries hoa hda ?_)
  dsimp only
  refine wpAny_bind (wpAny_dictEntries hob hdb ?_)
  by_cases hsz : es.size = es'.size
  case neg =>
    rw [if_pos (by simpa using hsz)]
    have hbf : (es.size == es'.size) = false := by simpa using hsz
    rw [hbf, Bool.false_and] at h
    exact wpAny_bind (wpAny_rule (wpAny_pure h))
  case pos =>
    have h' : Q r s := by simpa [hsz] using h
    have hits' := hits (by rw [hla, hlb]; exact hsz)
    rw [if_neg (by rw [hsz]; simp)]
    refine wpAny_bind (wpAny_dictEpoch hoa hda ?_)
    refine wpAny_bind ?_
    rw [Std.Legacy.Range.forIn_eq_forIn_range']
    simp only [Std.Legacy.Range.size, Nat.sub_zero, Nat.add_sub_cancel, Nat.div_one]
    refine wpAny_forIn_list _
      (fun rest q s' => s' = s ∧ q = (none, ()) ∧ ∃ i, rest = List.range' i (es.size - i) ∧ i ≤ es.size ∧ HitsH prog w A s xb (xa.drop i) r)
      _ ?_ ?_ _ _ ⟨rfl, rfl, 0, by simp, Nat.zero_le _, hits'⟩
    · rintro x rest q s' ⟨rfl, rfl, i, hr, hi, hpre⟩
      have hlt : i < es.size := by
        rcases Nat.lt_or_ge i es.size with h | h
        · exact h
        · rw [Nat.sub_eq_zero_of_le h] at hr; simp at hr
      obtain ⟨rfl, hrest⟩ : x = i ∧ rest = List.range' (i + 1) (es.size - (i + 1)) := by
        have e : es.size - i = (es.size - (i + 1)) + 1 := by omega
        rw [e, List.range'_succ] at hr
        injection hr with h1 h2
        exact ⟨h1, h2⟩
      refine wpAny_bind (wpAny_dictEntries hoa hda ?_)
      have hlt' : x < xa.length := by rw [hla]; exact hlt
      obtain ⟨k, c, v, hkv⟩ : ∃ k c v, xa[x] = (k, c, v) := ⟨_, _, _, rfl⟩
      have hdrop : xa.drop x = (k, c, v) :: xa.drop (x + 1) := by rw [← hkv]; exact List.drop_eq_getElem_cons hlt'
      have hex : es[x]? = some ⟨knd.hash k, .ref c, v⟩ := by rw [entry_at hea x, List.getElem?_eq_getElem hlt', hkv]; rfl
      have hik : knd.is s'.heap k c := by
        have := hia _ (List.getElem_mem hlt')
        rw [hkv] at this
        exact this
      rw [hex]
      rw [hdrop] at hpre
      show wpAny _ _ (holding [Value.ref c, v] _ >>= _) _ _ _
      refine wpAny_bind (wpAny_holding (wpAny_bind (wpAny_dictFind_heap hu hik hob hdb heb hib hnb (fun hno => ?_) fun j p hj => ?_)))
      · have hn : atKey xb k = none := atKey_none_of_get hno
        rcases hpre.inv with ⟨_, er⟩ | ⟨y, _, _, hy, _⟩
        · rw [er] at h'
          refine wpAny_pure ?_
          show wpAny _ _ (if (!false) = true then _ else _) _ _ _
          rw [if_pos (by decide)]
          exact wpAny_pure (wpAny_pure h')
        · rw [hn] at hy; exact nomatch hy
      · have hv' : atKey xb k = some p := atKey_of_get hnb hj
        refine wpAny_bind (wpAny_dictEntries hob hdb ?_)
        have hej : es'[j]? = some ⟨knd.hash k, .ref p.1, p.2⟩ := by rw [entry_at heb j, hj]; rfl
        rw [hej]
        rcases hpre.inv with ⟨hn, _⟩ | ⟨y, e, b', hy, he, hrr, er⟩
        · rw [hv'] at hn; exact nomatch hn
        · have ey : p = y := Option.some.inj (hv'.symm.trans hy)
          rw [← ey] at he
          refine wpAny_holding (he _ _ ?_)
          cases e with
          | false =>
            rw [er, Bool.false_and] at h'
            show wpAny _ _ (if (!false) = true then _ else _) _ _ _
            rw [if_pos (by decide)]
            exact wpAny_pure (wpAny_pure h')
          | true =>
            rw [Bool.true_and] at er
            rw [← er] at hrr
            show wpAny _ _ (if (!true) = true then _ else _) _ _ _
            rw [if_neg (by decide)]
            refine wpAny_bind (wpAny_dictEpoch hoa hda ?_)
            rw [if_neg (by simp)]
            exact wpAny_pure ⟨rfl, rfl, x + 1, hrest, hlt, hrr⟩
    · rintro q s' ⟨rfl, rfl, i, hr, hi, hpre⟩
      have hin : i = es.size := by
        rcases Nat.lt_or_ge i es.size with h | h
        · have e : es.size - i = (es.size - (i + 1)) + 1 := by omega
          rw [e, List.range'_succ] at hr; exact nomatch hr
        · exact Nat.le_antisymm hi h
      refine wpAny_pure ?_
      rw [hin, ← hla, List.drop_length] at hpre
      cases hpre
      exact h'
end
section
variable {prog : Program} {w : World} {A : Around} {s : Shared}
/-- == and != of dicts, from what samePairs gives -/
theorem rc_dictEq {a b : Addr} {k : Bool} (ta : s.TypeIs (.ref a) "dict") (tb : s.TypeIs (.ref b) "dict") (hu : A.units < cLine)
    (sp : ∀ (nm : String) (Q : Bool → Shared → Prop) (E : Value → Shared → Prop), Q k s → wpAny (model prog w) A.in1 (Builtin.Dict.samePairs nm a b) Q E s) (E Q : Value → Shared → Prop) (h : Q (.bool k) s) : wpAny (model prog w) A (richCompare .Eq (.ref a) (.ref b)) Q E s := by
  refine wpAny_richCompare_same_room (op := .Eq) ta tb PySem.F.slot_dict_eq (wpAny_call_entry PySem.F.slot_dict_eq ta PySem.F.entry_dict_eq ?_ (PySem.F.args_dict_eq_2 _ _)) hu
  show wpAny _ _ (Builtin.Dict.dictSlotArgs "__eq__" ⟨[.ref a, .ref b], []⟩ >>= _) _ _ s
  refine wpAny_bind ?_
  unfold Builtin.Dict.dictSlotArgs
  refine wpAny_bind (wpAny_notOrdered_dict ta ?_)
  show wpAny _ _ (pure (Value.ref a, Value.ref b)) _ _ s
  refine wpAny_pure ?_
  refine wpAny_bind (wpAny_isInstance (T := "dict") tb PySem.F.sub_dict_dict ?_)
  simp only [Bool.not_true, Bool.false_eq_true, if_false]
  refine wpAny_bind (wpAny_pure (wpAny_bind (wpAny_pure ?_)))
  refine wpAny_bind (sp _ _ _ ?_)
  refine wpAny_pure ⟨_, rfl, ?_, ?_⟩
  · exact fun x => nomatch x
  · simpa using h
theorem rc_dictNe {a b : Addr} {k : Bool} (ta : s.TypeIs (.ref a) "dict") (tb : s.TypeIs (.ref b) "dict") (hu : A.units < cLine)
    (sp : ∀ (nm : String) (Q : Bool → Shared → Prop) (E : Value → Shared → Prop), Q k s → wpAny (model prog w) A.in1 (Builtin.Dict.samePairs nm a b) Q E s) (E Q : Value → Shared → Prop) (h : Q (.bool (!k)) s) : wpAny (model prog w) A (richCompare .NotEq (.ref a) (.ref b)) Q E s := by
  refine wpAny_richCompare_same_room (op := .NotEq) ta tb PySem.F.slot_dict_ne (wpAny_call_entry PySem.F.slot_dict_ne ta PySem.F.entry_dict_ne ?_ (PySem.F.args_dict_ne_2 _ _)) hu
  show wpAny _ _ (Builtin.Dict.dictSlotArgs "__ne__" ⟨[.ref a, .ref b], []⟩ >>= _) _ _ s
  refine wpAny_bind ?_
  unfold Builtin.Dict.dictSlotArgs
  refine wpAny_bind (wpAny_notOrdered_dict ta ?_)
  show wpAny _ _ (pure (Value.ref a, Value.ref b)) _ _ s
  refine wpAny_pure ?_
  refine wpAny_bind (wpAny_isInstance (T := "dict") tb PySem.F.sub_dict_dict ?_)
  simp only [Bool.not_true, Bool.false_eq_true, if_false]
  refine wpAny_bind (wpAny_pure (wpAny_bind (wpAny_pure ?_)))
  refine wpAny_bind (sp _ _ _ ?_)
  refine wpAny_pure ⟨_, rfl, ?_, ?_⟩
  · exact fun x => nomatch x
  · cases k <;> exact h
end
end PySem.W
namespace PySem.SeqAt
open AutoSeq1 (wpAny_loadPart')
open MeetsSeq MeetsSeq2 MeetsSeq3 SeqRoads2
section
variable {prog : Program} {w : World}
theorem ri_ne_loopIn (l b : Addr) (items items2 : Array Value) (n n2 : Nat) (dd dd2 : Option Addr) (sl sl2 : Array (Option Value)) (hsz : items.size = items2.size) (e : Nat → Bool) (k : Nat) :
    ∀ i : Nat, items.size - i = k → MeetsIn prog w (Builtin.«list.__eq__.loop» ⟨[.ref l, .ref b, rawInt i, rawInt 3], []⟩)
      (fun A R s => s.heap.get? l = some { cls := .type "list", dict := dd, data := .seq items n, slots := sl } ∧ s.heap.get? b = some { cls := .type "list", dict := dd2, data := .seq items2 n2, slots := sl2 } ∧
        (∀ j (h1 : j < items.size) (h2 : j < items2.size), EqP prog w A.in1 s items[j] items2[j] (e j)) ∧
        R (.ok (.ret (.bool (!((List.range items.size).drop i).all e)))) s) := by
  induction k with
  | zero =>
    intro i hk A R s h
    obtain ⟨hp, g, d, tk, os⟩ := s; obtain ⟨hl, hb, he, h⟩ := h
    wp_walk using wpAny_loadPart' hl, wpAny_loadPart' hb
    have hi1 : items[((i : Nat) : Int).toNat]? = none := by simp; omega
    have hi2 : items2[((i : Nat) : Int).toNat]? = none := by simp; omega
    have hd : (List.range items.size).drop i = [] := by simp; omega
    rw [hd] at h
    rw [hi1, hi2]
    wp_walk using wpAny_loadPart' hl, wpAny_loadPart' hb
    show R (.ok (.ret (.bool (items.size != items2.size)))) _
    rw [hsz]
    simpa using h
  | succ k ih =>
    intro i hk A R s h
    obtain ⟨hp, g, d, tk, os⟩ := s; obtain ⟨hl, hb, he, h⟩ := h
    wp_walk using wpAny_loadPart' hl, wpAny_loadPart' hb
    have hlt : i < items.size := by omega
    have hlt2 : i < items2.size := by omega
    have hi1 : items[((i : Nat) : Int).toNat]? = some items[i] := by simp [hlt]
    have hi2 : items2[((i : Nat) : Int).toNat]? = some items2[i] := by simp [hlt2]
    have hd : (List.range items.size).drop i = i :: (List.range items.size).drop (i + 1) := by simp [List.drop_eq_getElem_cons, hlt]
    have hc : ((i : Int) + 1) = ((i + 1 : Nat) : Int) := by push_cast; rfl
    rw [hd, List.all_cons] at h
    rw [hi1, hi2]
    refine wpAny_bind (he i hlt hlt2 _ _ ?_)
    cases hb' : e i with
    | true =>
      rw [hb'] at h
      wp_walk
      rw [hc]
      exact ⟨plainId_quiet plain_eq_loop _, codeAny_builtin entry_eq_loop (by
        rw [Around.under_plainId plain_eq_loop _]
        exact ih (i + 1) (by omega) A R _ ⟨hl, hb, he, by simpa using h⟩)⟩
    | false =>
      rw [hb'] at h
      wp_walk using wpAny_loadPart' hl, wpAny_loadPart' hb
      rw [hi1, hi2]
      wp_walk
      simpa using h
theorem ri_list_neIn (l b : Addr) (items items2 : Array Value) (n n2 : Nat) (dd dd2 : Option Addr) (sl sl2 : Array (Option Value)) (hsz : items.size = items2.size) (e : Nat → Bool) :
    MeetsIn prog w (Builtin.«list.__ne__» ⟨[.ref l, .ref b], []⟩)
      (fun A R s => s.heap.get? l = some { cls := .type "list", dict := dd, data := .seq items n, slots := sl } ∧ s.heap.get? b = some { cls := .type "list", dict := dd2, data := .seq items2 n2, slots := sl2 } ∧
        (∀ j (h1 : j < items.size) (h2 : j < items2.size), EqP prog w A.in1 s items[j] items2[j] (e j)) ∧
        R (.ok (.ret (.bool (!(List.range items.size).all e)))) s) := by
  intro A R s h
  obtain ⟨hp, g, d, tk, os⟩ := s; obtain ⟨hl, hb, he, h⟩ := h
  have f3 := AutoSeq1.sub_list_list
  have hne : ¬ (items.size != items2.size) = true := by simp [hsz]
  wp_walk using wpAny_loadPart' hl, wpAny_loadPart' hb
  exact ⟨plainId_quiet plain_eq_loop _, codeAny_builtin entry_eq_loop (by
    rw [Around.under_plainId plain_eq_loop _]
    exact ri_ne_loopIn l b items items2 n n2 dd dd2 sl sl2 hsz e _ 0 rfl A R _ ⟨hl, hb, he, by simpa using h⟩)⟩
theorem rcNeP_lists {A : Around} {s : Shared} {l b : Addr} {items items2 : Array Value} {e : Nat → Bool} (hl : s.heap.IsList l items) (hb : s.heap.IsList b items2) (hsz : items.size = items2.size) (hu : A.units < cLine)
    (he : ∀ j (h1 : j < items.size) (h2 : j < items2.size), EqP prog w A.in1 s items[j] items2[j] (e j)) (E Q : Value → Shared → Prop) (h : Q (.bool (!(List.range items.size).all e)) s) : wpAny (model prog w) A (richCompare .NotEq (.ref l) (.ref b)) Q E s := by
  obtain ⟨⟨cls, dd, data, sl⟩, ho, hc, n, hd⟩ := id hl
  obtain ⟨⟨cls2, dd2, data2, sl2⟩, ho2, hc2, n2, hd2⟩ := id hb
  simp only at hc hd hc2 hd2
  subst hc hd hc2 hd2
  have ta : s.TypeIs (.ref l) "list" := ⟨_, ho, rfl⟩
  have tb : s.TypeIs (.ref b) "list" := ⟨_, ho2, rfl⟩
  exact wpAny_richCompare_same_room (op := .NotEq) ta tb F.slot_list_ne (call_meetsIn F.slot_list_ne ta F.entry_list_ne (F.args_list_ne_2 _ _) (ri_list_neIn l b items items2 n n2 dd dd2 sl sl2 hsz e)
    ⟨ho, ho2, he, show Value.bool (!(List.range items.size).all e) ≠ Value.notImplemented ∧ Q (.bool (!(List.range items.size).all e)) s from ⟨(fun x => nomatch x), h⟩⟩) hu
theorem ri_tuple_eqIn (l b : Addr) (items items2 : Array Value) (n n2 : Nat) (dd dd2 : Option Addr) (sl sl2 : Array (Option Value)) (e : Nat → Bool) :
    MeetsIn prog w (Builtin.«tuple.__eq__» ⟨[.ref l, .ref b], []⟩)
      (fun A R s => s.heap.get? l = some { cls := .type "tuple", dict := dd, data := .seq items n, slots := sl } ∧ s.heap.get? b = some { cls := .type "tuple", dict := dd2, data := .seq items2 n2, slots := sl2 } ∧
        (∀ j (h1 : j < items.size) (h2 : j < items2.size), EqP prog w A.in1 s items[j] items2[j] (e j)) ∧
        R (.ok (.ret (.bool ((List.range (min items.size items2.size)).all e && items.size == items2.size)))) s) := by
    intro A R s h
    obtain ⟨hp, g, d, tk, os⟩ := s; obtain ⟨hl, hb, he, h⟩ := h
    have f2 := AutoSeq1.sub_tuple_tuple
    have hZ : (items.toList.zip items2.toList).length = min items.size items2.size := by simp
    wp_walk using wpAny_loadPart' hl, wpAny_loadPart' hb, wpAny_forIn_list _ (fun rest b s' => b.1 = none ∧ s' = ⟨hp, g, d, tk, os⟩ ∧ ∃ i, rest = (items.toList.zip items2.toList).drop i ∧
      R (.ok (.ret (.bool (((List.range (min items.size items2.size)).drop i).all e && items.size == items2.size)))) ⟨hp, g, d, tk, os⟩) _
    case turn =>
      rintro ⟨y, x⟩ rest b s' ⟨hb', rfl, i, hz, hR⟩
      have hlt : i < (items.toList.zip items2.toList).length := by
        rcases Nat.lt_or_ge i (items.toList.zip items2.toList).length with h' | h'
        · exact h'
        · rw [List.drop_of_length_le h'] at hz; cases hz
      have hm : i < min items.size items2.size := hZ ▸ hlt
      have h1 : i < items.size := Nat.lt_of_lt_of_le hm (Nat.min_le_left _ _)
      have h2 : i < items2.size := Nat.lt_of_lt_of_le hm (Nat.min_le_right _ _)
      rw [List.drop_eq_getElem_cons hlt] at hz
      injection hz with hyx hrest
      have hy : y = items[i] := by have := congrArg Prod.fst hyx; simpa using this
      have hx : x = items2[i] := by have := congrArg Prod.snd hyx; simpa using this
      subst hy hx
      have hd : (List.range (min items.size items2.size)).drop i = i :: (List.range (min items.size items2.size)).drop (i + 1) := by simp [List.drop_eq_getElem_cons, hm]
      rw [hd, List.all_cons] at hR
      refine wpAny_bind (he i h1 h2 _ _ ?_)
      cases hy : e i with
      | true =>
        rw [hy] at hR
        wp_walk
        exact ⟨rfl, rfl, i + 1, hrest, by simpa using hR⟩
      | false =>
        rw [hy] at hR
        wp_walk
        simpa using hR
    case fin =>
      rintro ⟨b1, b2⟩ s' ⟨hb', rfl, i, hz, hR⟩
      simp only at hb'
      subst hb'
      have hge : min items.size items2.size ≤ i := by
        rcases Nat.lt_or_ge i (items.toList.zip items2.toList).length with h' | h'
        · rw [List.drop_eq_getElem_cons h'] at hz; cases hz
        · exact hZ ▸ h'
      rw [List.drop_of_length_le (by simpa using hge)] at hR
      wp_walk
      simpa [Builtin.Tuple.tupleCompareSizes] using hR
    case h =>
      exact ⟨rfl, rfl, 0, rfl, by simpa using h⟩
theorem rcP_tuples {A : Around} {s : Shared} {l b : Addr} {items items2 : Array Value} {e : Nat → Bool} (hl : s.heap.IsTuple l items) (hb : s.heap.IsTuple b items2) (hu : A.units < cLine)
    (he : ∀ j (h1 : j < items.size) (h2 : j < items2.size), EqP prog w A.in1 s items[j] items2[j] (e j)) (E Q : Value → Shared → Prop) (h : Q (.bool ((List.range (min items.size items2.size)).all e && items.size == items2.size)) s) : wpAny (model prog w) A (richCompare .Eq (.ref l) (.ref b)) Q E s := by
  obtain ⟨⟨cls, dd, data, sl⟩, ho, hc, n, hd⟩ := id hl
  obtain ⟨⟨cls2, dd2, data2, sl2⟩, ho2, hc2, n2, hd2⟩ := id hb
  simp only at hc hd hc2 hd2
  subst hc hd hc2 hd2
  have ta : s.TypeIs (.ref l) "tuple" := ⟨_, ho, rfl⟩
  have tb : s.TypeIs (.ref b) "tuple" := ⟨_, ho2, rfl⟩
  exact wpAny_richCompare_same_room (op := .Eq) ta tb F.slot_tuple_eq (call_meetsIn F.slot_tuple_eq ta F.entry_tuple_eq (F.args_tuple_eq_2 _ _) (ri_tuple_eqIn l b items items2 n n2 dd dd2 sl sl2 e)
    ⟨ho, ho2, he, show Value.bool ((List.range (min items.size items2.size)).all e && items.size == items2.size) ≠ Value.notImplemented ∧ Q (.bool ((List.range (min items.size items2.size)).all e && items.size == items2.size)) s from ⟨(fun x => nomatch x), h⟩⟩) hu
theorem ri_tuple_neIn (l b : Addr) (items items2 : Array Value) (n n2 : Nat) (dd dd2 : Option Addr) (sl sl2 : Array (Option Value)) (e : Nat → Bool) :
    MeetsIn prog w (Builtin.«tuple.__ne__» ⟨[.ref l, .ref b], []⟩)
      (fun A R s => s.heap.get? l = some { cls := .type "tuple", dict := dd, data := .seq items n, slots := sl } ∧ s.heap.get? b = some { cls := .type "tuple", dict := dd2, data := .seq items2 n2, slots := sl2 } ∧
        (∀ j (h1 : j < items.size) (h2 : j < items2.size), EqP prog w A.in1 s items[j] items2[j] (e j)) ∧
        R (.ok (.ret (.bool (!((List.range (min items.size items2.size)).all e && items.size == items2.size))))) s) := by
    intro A R s h
    obtain ⟨hp, g, d, tk, os⟩ := s; obtain ⟨hl, hb, he, h⟩ := h
    have f2 := AutoSeq1.sub_tuple_tuple
    have hZ : (items.toList.zip items2.toList).length = min items.size items2.size := by simp
    wp_walk using wpAny_loadPart' hl, wpAny_loadPart' hb, wpAny_forIn_list _ (fun rest b s' => b.1 = none ∧ s' = ⟨hp, g, d, tk, os⟩ ∧ ∃ i, rest = (items.toList.zip items2.toList).drop i ∧
      R (.ok (.ret (.bool (!(((List.range (min items.size items2.size)).drop i).all e && items.size == items2.size))))) ⟨hp, g, d, tk, os⟩) _
    case turn =>
      rintro ⟨y, x⟩ rest b s' ⟨hb', rfl, i, hz, hR⟩
      have hlt : i < (items.toList.zip items2.toList).length := by
        rcases Nat.lt_or_ge i (items.toList.zip items2.toList).length with h' | h'
        · exact h'
        · rw [List.drop_of_length_le h'] at hz; cases hz
      have hm : i < min items.size items2.size := hZ ▸ hlt
      have h1 : i < items.size := Nat.lt_of_lt_of_le hm (Nat.min_le_left _ _)
      have h2 : i < items2.size := Nat.lt_of_lt_of_le hm (Nat.min_le_right _ _)
      rw [List.drop_eq_getElem_cons hlt] at hz
      injection hz with hyx hrest
      have hy : y = items[i] := by have := congrArg Prod.fst hyx; simpa using this
      have hx : x = items2[i] := by have := congrArg Prod.snd hyx; simpa using this
      subst hy hx
      have hd : (List.range (min items.size items2.size)).drop i = i :: (List.range (min items.size items2.size)).drop (i + 1) := by simp [List.drop_eq_getElem_cons, hm]
      rw [hd, List.all_cons] at hR
      refine wpAny_bind (he i h1 h2 _ _ ?_)
      cases hy : e i with
      | true =>
        rw [hy] at hR
        wp_walk
        exact ⟨rfl, rfl, i + 1, hrest, by simpa using hR⟩
      | false =>
        rw [hy] at hR
        wp_walk
        simpa using hR
    case fin =>
      rintro ⟨b1, b2⟩ s' ⟨hb', rfl, i, hz, hR⟩
      simp only at hb'
      subst hb'
      have hge : min items.size items2.size ≤ i := by
        rcases Nat.lt_or_ge i (items.toList.zip items2.toList).length with h' | h'
        · rw [List.drop_eq_getElem_cons h'] at hz; cases hz
        · exact hZ ▸ h'
      rw [List.drop_of_length_le (by simpa using hge)] at hR
      wp_walk
      simpa [Builtin.Tuple.tupleCompareSizes, bne] using hR
    case h =>
      exact ⟨rfl, rfl, 0, rfl, by simpa using h⟩
theorem rcNeP_tuples {A : Around} {s : Shared} {l b : Addr} {items items2 : Array Value} {e : Nat → Bool} (hl : s.heap.IsTuple l items) (hb : s.heap.IsTuple b items2) (hu : A.units < cLine)
    (he : ∀ j (h1 : j < items.size) (h2 : j < items2.size), EqP prog w A.in1 s items[j] items2[j] (e j)) (E Q : Value → Shared → Prop) (h : Q (.bool (!((List.range (min items.size items2.size)).all e && items.size == items2.size))) s) : wpAny (model prog w) A (richCompare .NotEq (.ref l) (.ref b)) Q E s := by
  obtain ⟨⟨cls, dd, data, sl⟩, ho, hc, n, hd⟩ := id hl
  obtain ⟨⟨cls2, dd2, data2, sl2⟩, ho2, hc2, n2, hd2⟩ := id hb
  simp only at hc hd hc2 hd2
  subst hc hd hc2 hd2
  have ta : s.TypeIs (.ref l) "tuple" := ⟨_, ho, rfl⟩
  have tb : s.TypeIs (.ref b) "tuple" := ⟨_, ho2, rfl⟩
  exact wpAny_richCompare_same_room (op := .NotEq) ta tb F.slot_tuple_ne (call_meetsIn F.slot_tuple_ne ta F.entry_tuple_ne (F.args_tuple_ne_2 _ _) (ri_tuple_neIn l b items items2 n n2 dd dd2 sl sl2 e)
    ⟨ho, ho2, he, show Value.bool (!((List.range (min items.size items2.size)).all e && items.size == items2.size)) ≠ Value.notImplemented ∧ Q (.bool (!((List.range (min items.size items2.size)).all e && items.size == items2.size))) s from ⟨(fun x => nomatch x), h⟩⟩) hu
end
end PySem.SeqAt
namespace L2
open PySem PySem.Spec PyProof.Rows
/-- three lists in step -/
inductive Tri (E : V → V → Bool → Prop) : List V → List V → List Bool → Prop
  | nil : Tri E [] [] []
  | endL {y : V} {ys : List V} : Tri E [] (y :: ys) []
  | endR {x : V} {xs : List V} : Tri E (x :: xs) [] []
  | cons {x y : V} {b : Bool} {xs ys : List V} {bs : List Bool} : E x y b → Tri E xs ys bs → Tri E (x :: xs) (y :: ys) (b :: bs)
/-- a dict's entries looked up in another's -/
inductive Hits {κ : Type} [DecidableEq κ] (E : V → V → Bool → Prop) (ls : List (κ × V)) : List (κ × V) → Bool → Prop
  | nil : Hits E ls [] true
  | miss {k : κ} {v : V} {r : List (κ × V)} : valV ls k = none → Hits E ls ((k, v) :: r) false
  | hit {k : κ} {v y : V} {r : List (κ × V)} {e b : Bool} : valV ls k = some y → E v y e → Hits E ls r b → Hits E ls ((k, v) :: r) (e && b)
/-- what == tells of two objects, by what it tells of their parts -/
def EqC (K : PySem.W.Frag) (H : Hp) (E : V → V → Bool → Prop) (x y : V) (b : Bool) : Prop :=
  (∃ a c xs ys, x = .ref a ∧ y = .ref c ∧ SqL K H a xs ∧ SqL K H c ys ∧ ((xs.length ≠ ys.length ∧ b = false) ∨ (xs.length = ys.length ∧ ∃ bs, Tri E xs ys bs ∧ b = bs.all id))) ∨
  ((∃ a c xs ys bs, x = .ref a ∧ y = .ref c ∧ SqT K H a xs ∧ SqT K H c ys ∧ Tri E xs ys bs ∧ b = (bs.all id && xs.length == ys.length)) ∨
  ((∃ a c ks ls, x = .ref a ∧ y = .ref c ∧ Rd H a (.dK ks) ∧ Rd H c (.dK ls) ∧ ((ks.length ≠ ls.length ∧ b = false) ∨ (ks.length = ls.length ∧ Hits E ls ks b))) ∨
  (∃ a c ks ls, x = .ref a ∧ y = .ref c ∧ Rd H a (.dT ks) ∧ Rd H c (.dT ls) ∧ ((ks.length ≠ ls.length ∧ b = false) ∨ (ks.length = ls.length ∧ Hits E ls ks b)))))
def EqD (K : PySem.W.Frag) (H : Hp) (x y : V) (b : Bool) : Prop := ∃ d e, Dp K H x d ∧ Dp K H y e ∧ SeqAt.shaped d = true ∧ SeqAt.shaped e = true ∧ b = PyData.eqv d e
/-- .. of nesting below n -/
def EqX (K : PySem.W.Frag) (H : Hp) : Nat → V → V → Bool → Prop
  | 0 => EqD K H
  | n + 1 => fun x y b => EqD K H x y b ∨ EqC K H (EqX K H n) x y b
section
variable {P : Program} {w : World} {A : Around} {s : Shared} {E : V → V → Bool → Prop}
theorem tri_run (ih : ∀ x y v u b, E x y b → RelV x v → RelV y u → SeqAt.EqP P w A s v u b) {xs ys : List V} {bs : List Bool} (h : Tri E xs ys bs) :
    ∀ {us ws : List Value}, Vals xs us → Vals ys ws → bs.length = min us.length ws.length ∧ ∀ j (h1 : j < us.length) (h2 : j < ws.length), SeqAt.EqP P w A s us[j] ws[j] (bs.getD j true) := by
  induction h with
  | nil => intro us ws r1 r2; cases r1; cases r2; exact ⟨rfl, fun j h1 => absurd h1 (Nat.not_lt_zero _)⟩
  | endL => intro us ws r1 r2; cases r1; exact ⟨by simp, fun j h1 => absurd h1 (Nat.not_lt_zero _)⟩
  | endR => intro us ws r1 r2; cases r2; exact ⟨by simp, fun j _ h2 => absurd h2 (Nat.not_lt_zero _)⟩
  | cons e _ k =>
    intro us ws r1 r2
    cases r1 with
    | cons a1 b1 =>
      cases r2 with
      | cons a2 b2 =>
        obtain ⟨l, g⟩ := k b1 b2
        refine ⟨by simp only [List.length_cons]; omega, fun j h1 h2 => ?_⟩
        cases j with
        | zero => exact ih _ _ _ _ _ e a1 a2
        | succ j => exact g j (Nat.lt_of_succ_lt_succ h1) (Nat.lt_of_succ_lt_succ h2)
theorem all_rangeR : ∀ (bs : List Bool) {n : Nat}, bs.length = n → ((List.range n).all fun j => bs.getD j true) = bs.all id
  | [], n, h => by cases h; rfl
  | b :: bs, n, h => by
    cases n with
    | zero => simp at h
    | succ n =>
      rw [List.range_succ_eq_map, List.all_cons, List.all_map, List.all_cons]
      have e := all_rangeR bs (n := n) (by simpa using h)
      rw [← e]
      rfl
theorem hitsK_run {kind : KeyKind P w Key} (ih : ∀ x y v u b, E x y b → RelV x v → RelV y u → SeqAt.EqP P w A s v u b) {ls : List (Key × V)} {vb : List (Key × Value)} (rb : KV ls vb) {ks : List (Key × V)} {b : Bool} (h : Hits E ls ks b) :
    ∀ {va : List (Key × Value)}, KV ks va → PySem.W.KeqHitsP P w A s vb va b := by
  induction h with
  | nil => intro va r; cases r; exact .nil
  | @miss k v r hn =>
    intro va q
    cases q with
    | @cons _ p _ ps h1 h2 =>
      obtain ⟨k', v'⟩ := p
      obtain ⟨e1, _⟩ := h1
      cases (show k = k' from e1)
      have rr : RelO none (valueAt vb k) := by rw [← hn]; exact rb.val k
      refine .miss ?_
      cases e : valueAt vb k with
      | none => rfl
      | some z => rw [e] at rr; exact rr.elim
  | @hit k v y r e b hv he _ ihh =>
    intro va q
    cases q with
    | @cons _ p _ ps h1 h2 =>
      obtain ⟨k', v'⟩ := p
      obtain ⟨e1, e2⟩ := h1
      cases (show k = k' from e1)
      have rr : RelO (some y) (valueAt vb k) := by rw [← hv]; exact rb.val k
      obtain ⟨z, hz, rz⟩ := rr.some_of
      exact .hit hz (ih _ _ _ _ _ he e2 rz) (ihh h2)
theorem hitsT_run {H : Hp} (ih : ∀ x y v u b, E x y b → RelV x v → RelV y u → SeqAt.EqP P w A s v u b) {ls : List (List Key × V)} {xb : List (List Key × Addr × Value)} (rb : KT H ls xb) {ks : List (List Key × V)} {b : Bool} (h : Hits E ls ks b) :
    ∀ {xa : List (List Key × Addr × Value)}, KT H ks xa → PySem.W.HitsH P w A s xb xa b := by
  induction h with
  | nil => intro va r; cases r; exact .nil
  | @miss k v r hn =>
    intro va q
    cases q with
    | @cons _ p _ ps h1 h2 =>
      obtain ⟨k', c, v'⟩ := p
      obtain ⟨e1, _, _⟩ := h1
      cases (show k = k' from e1)
      have rr : RelO none ((atKey xb k).map (·.2)) := by rw [← hn]; exact rb.val k
      refine .miss ?_
      cases e : atKey xb k with
      | none => rfl
      | some z => rw [e] at rr; exact rr.elim
  | @hit k v y r e b hv he _ ihh =>
    intro va q
    cases q with
    | @cons _ p _ ps h1 h2 =>
      obtain ⟨k', c, v'⟩ := p
      obtain ⟨e1, _, e2⟩ := h1
      cases (show k = k' from e1)
      have rr : RelO (some y) ((atKey xb k).map (·.2)) := by rw [← hv]; exact rb.val k
      obtain ⟨z, hz, rz⟩ := rr.some_of
      obtain ⟨q, hq, hq2⟩ := Option.map_eq_some_iff.mp hz
      have he' : E v y e := he
      refine .hit (p := (c, v')) hq (ih _ _ _ _ _ he' e2 ?_) (ihh h2)
      rw [hq2]
      exact rz
end
section
variable {X : Cx} {pins : List (Addr × Obj)} {σ : St} {H : Hp} {s : Shared}
theorem dT_same (I : Inv X pins σ H s) {A : Around} {E : V → V → Bool → Prop} {a c : Addr} {ks ls : List (List Key × V)} {b : Bool} (hu : A.units + 1 < cLine) (ih : ∀ x y v u b, E x y b → RelV x v → RelV y u → SeqAt.EqP X.prog X.w A.in1 s v u b)
    (ha : Rd H a (.dT ks)) (hc : Rd H c (.dT ls)) (h : (ks.length ≠ ls.length ∧ b = false) ∨ (ks.length = ls.length ∧ Hits E ls ks b)) (nm : String) (Q : Bool → Shared → Prop) (F : Value → Shared → Prop) (q : Q b s) :
    wpAny (model X.prog X.w) A.in1 (Builtin.Dict.samePairs nm a c) Q F s := by
  obtain ⟨_, ya, xa, ra, da⟩ := dt_rd I.hok ha
  obtain ⟨_, yb, xb, rb, db⟩ := dt_rd I.hok hc
  have la : ks.length = xa.length := Paired.length ra
  have lb : ls.length = xb.length := Paired.length rb
  rcases h with ⟨hl, rfl⟩ | ⟨hl, hh⟩
  · refine PySem.W.samePairsH (r := false) (tupleKind_room_in1 hu) ya yb da db (fun e => absurd e (by rw [← la, ← lb]; exact hl)) ?_
    rw [Bool.and_false]
    exact q
  · refine PySem.W.samePairsH (r := b) (tupleKind_room_in1 hu) ya yb da db (fun _ => hitsT_run ih rb hh ra) ?_
    rw [show (xa.length == xb.length) = true by rw [← la, ← lb, hl]; simp, Bool.true_and]
    exact q
theorem dK_same (I : Inv X pins σ H s) {A : Around} {E : V → V → Bool → Prop} {a c : Addr} {ks ls : List (Key × V)} {b : Bool} (ih : ∀ x y v u b, E x y b → RelV x v → RelV y u → SeqAt.EqP X.prog X.w A.in1 s v u b)
    (ha : Rd H a (.dK ks)) (hc : Rd H c (.dK ls)) (h : (ks.length ≠ ls.length ∧ b = false) ∨ (ks.length = ls.length ∧ Hits E ls ks b)) (nm : String) (Q : Bool → Shared → Prop) (F : Value → Shared → Prop) (q : Q b s) :
    wpAny (model X.prog X.w) A.in1 (Builtin.Dict.samePairs nm a c) Q F s := by
  obtain ⟨_, ya, va, ra, da⟩ := dk_rd I.hok ha
  obtain ⟨_, yb, vb, rb, db⟩ := dk_rd I.hok hc
  have la : ks.length = va.length := ra.length
  have lb : ls.length = vb.length := rb.length
  rcases h with ⟨hl, rfl⟩ | ⟨hl, hh⟩
  · refine PySem.W.samePairsP (knd := mixKind X.prog X.w) (r := false) ya yb da db (fun e => absurd e (by rw [← la, ← lb]; exact hl)) ?_
    rw [Bool.and_false]
    exact q
  · refine PySem.W.samePairsP (knd := mixKind X.prog X.w) (r := b) ya yb da db (fun _ => hitsK_run (kind := mixKind X.prog X.w) ih rb hh ra) ?_
    rw [show (va.length == vb.length) = true by rw [← la, ← lb, hl]; simp, Bool.true_and]
    exact q
/-- == (neg: !=) of two objects, from their parts -/
theorem eqC_run (neg : Bool) (I : Inv X pins σ H s) {A : Around} {E : V → V → Bool → Prop} (hu : A.units + 1 < cLine) (ih : ∀ x y v u b, E x y b → RelV x v → RelV y u → SeqAt.EqP X.prog X.w A.in1 s v u b) {x y : V} {v u : Value} {b : Bool} (h : EqC X.K H E x y b) (rx : RelV x v) (ry : RelV y u)
    (F Q : Value → Shared → Prop) (q : Q (.bool (if neg = true then !b else b)) s) : wpAny (model X.prog X.w) A (richCompare (if neg = true then .NotEq else .Eq) v u) Q F s := by
  have hu0 : A.units < cLine := Nat.lt_of_succ_lt hu
  rcases h with ⟨a, c, xs, ys, rfl, rfl, ha, hc, h⟩ | ⟨a, c, xs, ys, bs, rfl, rfl, ha, hc, h, eb⟩ | ⟨a, c, ks, ls, rfl, rfl, ha, hc, h⟩ | ⟨a, c, ks, ls, rfl, rfl, ha, hc, h⟩ <;> (cases (show v = Value.ref a from rx); cases (show u = Value.ref c from ry))
  · obtain ⟨us, r1, p1, _⟩ := I.list ha
    obtain ⟨ws, r2, p2, _⟩ := I.list hc
    rcases h with ⟨hl, rfl⟩ | ⟨hl, bs, ht, rfl⟩
    · have hsz : (us.toArray.size != ws.toArray.size) = true := by
        rw [List.size_toArray, List.size_toArray, ← r1.length, ← r2.length]
        exact bne_iff_ne.mpr hl
      cases neg with
      | false => exact SeqAt.RcAt.lists_lengths p1.isList p2.isList hsz hu0 _ _ _ _ q
      | true => exact SeqAt.RcNeAt.lists_lengths p1.isList p2.isList hsz hu0 _ _ _ _ q
    · have hsz : us.toArray.size = ws.toArray.size := by
        rw [List.size_toArray, List.size_toArray, ← r1.length, ← r2.length]
        exact hl
      obtain ⟨lb, g⟩ := tri_run ih ht r1 r2
      have hb : ((List.range us.toArray.size).all fun j => bs.getD j true) = bs.all id := all_rangeR bs (by
        rw [List.size_toArray, lb]
        simp at hsz
        omega)
      cases neg with
      | false =>
        refine SeqAt.rcP_lists (e := fun j => bs.getD j true) p1.isList p2.isList hsz hu0 (fun j h1 h2 => ?_) F Q ?_
        · simpa using g j (by simpa using h1) (by simpa using h2)
        · rw [hb]; exact q
      | true =>
        refine SeqAt.rcNeP_lists (e := fun j => bs.getD j true) p1.isList p2.isList hsz hu0 (fun j h1 h2 => ?_) F Q ?_
        · simpa using g j (by simpa using h1) (by simpa using h2)
        · rw [hb]; exact q
  · obtain ⟨us, r1, p1, _⟩ := I.tuple ha
    obtain ⟨ws, r2, p2, _⟩ := I.tuple hc
    obtain ⟨lb, g⟩ := tri_run ih h r1 r2
    have hb : ((List.range (min us.toArray.size ws.toArray.size)).all fun j => bs.getD j true) = bs.all id := all_rangeR bs (by rw [List.size_toArray, List.size_toArray, lb])
    have hl : (us.toArray.size == ws.toArray.size) = (xs.length == ys.length) := by rw [List.size_toArray, List.size_toArray, ← r1.length, ← r2.length]
    subst eb
    cases neg with
    | false =>
      refine SeqAt.rcP_tuples (e := fun j => bs.getD j true) (show s.heap.IsTuple a us.toArray from p1) (show s.heap.IsTuple c ws.toArray from p2) hu0 (fun j h1 h2 => ?_) F Q ?_
      · simpa using g j (by simpa using h1) (by simpa using h2)
      · rw [hb, hl]; exact q
    | true =>
      refine SeqAt.rcNeP_tuples (e := fun j => bs.getD j true) (show s.heap.IsTuple a us.toArray from p1) (show s.heap.IsTuple c ws.toArray from p2) hu0 (fun j h1 h2 => ?_) F Q ?_
      · simpa using g j (by simpa using h1) (by simpa using h2)
      · rw [hb, hl]; exact q
  · obtain ⟨_, _, _, _, da⟩ := dk_rd I.hok ha
    obtain ⟨_, _, _, _, db⟩ := dk_rd I.hok hc
    cases neg with
    | false => exact PySem.W.rc_dictEq da.typeIs db.typeIs hu0 (fun nm Q F q => dK_same I ih ha hc h nm Q F q) F Q q
    | true => exact PySem.W.rc_dictNe da.typeIs db.typeIs hu0 (fun nm Q F q => dK_same I ih ha hc h nm Q F q) F Q q
  · obtain ⟨_, _, _, _, da⟩ := dt_rd I.hok ha
    obtain ⟨_, _, _, _, db⟩ := dt_rd I.hok hc
    cases neg with
    | false => exact PySem.W.rc_dictEq da.typeIs db.typeIs hu0 (fun nm Q F q => dT_same I hu ih ha hc h nm Q F q) F Q q
    | true => exact PySem.W.rc_dictNe da.typeIs db.typeIs hu0 (fun nm Q F q => dT_same I hu ih ha hc h nm Q F q) F Q q
theorem eqD_run (I : Inv X pins σ H s) {A : Around} (hu : A.units + 64 < cLine) {x y : V} {v u : Value} {b : Bool} (h : EqD X.K H x y b) (rx : RelV x v) (ry : RelV y u) : SeqAt.EqP X.prog X.w A s v u b := by
  obtain ⟨d, e, h1, h2, s1, s2, rfl⟩ := h
  obtain ⟨as, r1⟩ := Dp.reads I d x v h1 rx
  obtain ⟨bs, r2⟩ := Dp.reads I e y u h2 ry
  exact (SeqAt.eqAt_reads d e A s v u as bs r1 r2 (SeqAt.canLay_of_shaped s1) (SeqAt.canLay_of_shaped s2) (SeqAt.room_of_shaped s1 hu)).eqP
mutual
theorem Dp.fn (I : Inv X pins σ H s) : ∀ (d e : PyData) (x : V), Dp X.K H x d → Dp X.K H x e → d = e
  | .none, _, _, h, g => by cases h; cases g; rfl
  | .bool b, _, _, h, g => by cases h; cases g; rfl
  | .int b, _, _, h, g => by cases h; cases g; rfl
  | .str b, _, _, h, g => by cases h; cases g; rfl
  | .list ds, _, _, h, g => by
    cases h with
    | lst a b =>
      cases g with
      | lst a' b' =>
        cases I.list_inj a a'
        rw [Dp.fnAll I ds _ _ b b']
      | tup a' b' =>
        obtain ⟨_, _, ⟨o, n, e, c, _, _⟩, _⟩ := I.list a
        obtain ⟨_, _, ⟨o', e', c', _⟩, _⟩ := I.tuple a'
        rw [e] at e'
        cases e'
        rw [c] at c'
        exact absurd (Value.type.inj c') (by decide)
  | .tuple ds, _, _, h, g => by
    cases h with
    | tup a b =>
      cases g with
      | tup a' b' =>
        cases I.tuple_inj a a'
        rw [Dp.fnAll I ds _ _ b b']
      | lst a' b' =>
        obtain ⟨_, _, ⟨o, n, e, c, _, _⟩, _⟩ := I.list a'
        obtain ⟨_, _, ⟨o', e', c', _⟩, _⟩ := I.tuple a
        rw [e] at e'
        cases e'
        rw [c] at c'
        exact absurd (Value.type.inj c') (by decide)
  | .dict _, _, _, h, _ => by cases h
theorem Dp.fnAll (I : Inv X pins σ H s) : ∀ (ds es : List PyData) (xs : List V), DpAll X.K H xs ds → DpAll X.K H xs es → ds = es
  | [], _, _, h, g => by cases h; cases g; rfl
  | d :: ds, _, _, h, g => by
    cases h with
    | cons a b =>
      cases g with
      | cons a' b' => rw [Dp.fn I d _ _ a a', Dp.fnAll I ds _ _ b b']
end
theorem tri_same {E : V → V → Bool → Prop} (ih : ∀ x b, E x x b → b = true) : ∀ {xs : List V} {bs : List Bool}, Tri E xs xs bs → bs.all id = true
  | [], _, h => by cases h; rfl
  | x :: xs, _, h => by
    cases h with
    | cons a b =>
      rw [List.all_cons, tri_same ih b, ih _ _ a]
      rfl
theorem hits_same {κ : Type} [DecidableEq κ] {E : V → V → Bool → Prop} (ih : ∀ x b, E x x b → b = true) {ls : List (κ × V)} : ∀ {r : List (κ × V)} {b : Bool}, (∀ p ∈ r, valV ls p.1 = some p.2) → Hits E ls r b → b = true
  | [], _, _, h => by cases h; rfl
  | p :: r, _, m, h => by
    have mp := m p List.mem_cons_self
    cases h with
    | miss e => rw [e] at mp; cases mp
    | hit e g t =>
      rw [e] at mp
      cases mp
      rw [ih _ _ g, hits_same ih (fun q hq => m q (List.mem_cons_of_mem _ hq)) t]
      rfl
theorem valV_mem {κ : Type} [DecidableEq κ] : ∀ {ls : List (κ × V)}, (ls.map (·.1)).Nodup → ∀ p ∈ ls, valV ls p.1 = some p.2
  | [], _, p, h => by cases h
  | q :: ls, nd, p, h => by
    rw [List.map_cons, List.nodup_cons] at nd
    rcases List.mem_cons.mp h with rfl | h
    · exact valV_pos rfl
    · rw [valV_neg fun e => nd.1 (by rw [e]; exact List.mem_map_of_mem h)]
      exact valV_mem nd.2 p h
theorem rd_fn {H : Hp} {a : Addr} {u v : HO} (h : Rd H a u) (g : Rd H a v) (hu : ∀ o w, u ≠ .frz o w) (hv : ∀ o w, v ≠ .frz o w) : u = v := by
  rcases h with h | ⟨o, h⟩ <;> rcases g with g | ⟨o', g⟩ <;> rw [h] at g
  · exact Option.some.inj g
  · exact absurd (Option.some.inj g) (hu _ _)
  · exact absurd (Option.some.inj g).symm (hv _ _)
  · cases g; rfl
theorem dK_nodup (I : Inv X pins σ H s) {a : Addr} {ks : List (Key × V)} (h : Rd H a (.dK ks)) : (ks.map (·.1)).Nodup := by
  obtain ⟨_, _, vs, r, dd⟩ := dk_rd I.hok h
  rw [r.keys]
  obtain ⟨_, _, _, _, _, _, _, _, nd⟩ := dd
  exact nd
theorem dT_nodup (I : Inv X pins σ H s) {a : Addr} {ks : List (List Key × V)} (h : Rd H a (.dT ks)) : (ks.map (·.1)).Nodup := by
  obtain ⟨_, _, vs, r, dd⟩ := dt_rd I.hok h
  have e : ∀ {l : List (List Key × V)} {m : List (List Key × Addr × Value)}, KT H l m → l.map (·.1) = m.map (·.1) := by
    intro l m q
    induction q with
    | nil => rfl
    | cons h t ih => rw [List.map_cons, List.map_cons, h.1, ih]
  rw [e r]
  obtain ⟨_, _, _, _, _, _, _, _, nd⟩ := dd
  exact nd
theorem eqC_same (I : Inv X pins σ H s) {E : V → V → Bool → Prop} (ih : ∀ x b, E x x b → b = true) {x : V} {b : Bool} (h : EqC X.K H E x x b) : b = true := by
  rcases h with ⟨a, c, xs, ys, e1, e2, ha, hc, h⟩ | ⟨a, c, xs, ys, bs, e1, e2, ha, hc, h, eb⟩ | ⟨a, c, ks, ls, e1, e2, ha, hc, h⟩ | ⟨a, c, ks, ls, e1, e2, ha, hc, h⟩ <;> (subst e1; cases e2)
  · cases I.list_inj ha hc
    rcases h with ⟨n, _⟩ | ⟨_, bs, t, rfl⟩
    · exact absurd rfl n
    · exact tri_same ih t
  · cases I.tuple_inj ha hc
    rw [eb, tri_same ih h]
    simp
  · have e := rd_fn ha hc (fun _ _ z => nomatch z) (fun _ _ z => nomatch z)
    cases e
    rcases h with ⟨n, _⟩ | ⟨_, t⟩
    · exact absurd rfl n
    · exact hits_same ih (valV_mem (dK_nodup I ha)) t
  · have e := rd_fn ha hc (fun _ _ z => nomatch z) (fun _ _ z => nomatch z)
    cases e
    rcases h with ⟨n, _⟩ | ⟨_, t⟩
    · exact absurd rfl n
    · exact hits_same ih (valV_mem (dT_nodup I ha)) t
theorem eqD_same (I : Inv X pins σ H s) {x : V} {b : Bool} (h : EqD X.K H x x b) : b = true := by
  obtain ⟨d, e, h1, h2, s1, s2, rfl⟩ := h
  cases Dp.fn I d e x h1 h2
  unfold SeqAt.shaped at s1
  rw [Bool.and_eq_true] at s1
  exact SeqAt.eqv_refl d s1.1
theorem eqX_same (I : Inv X pins σ H s) : ∀ (n : Nat) (x : V) (b : Bool), EqX X.K H n x x b → b = true
  | 0, x, b, h => eqD_same I h
  | n + 1, x, b, h => by
    rcases h with h | h
    · exact eqD_same I h
    · exact eqC_same I (eqX_same I n) h
theorem eqX_run (I : Inv X pins σ H s) : ∀ (n : Nat) (A : Around), A.units + n + 66 < cLine → ∀ (x y : V) (v u : Value) (b : Bool), EqX X.K H n x y b → RelV x v → RelV y u → SeqAt.EqP X.prog X.w A s v u b
  | 0, A, hu, x, y, v, u, b, h, rx, ry => eqD_run I (by omega) h rx ry
  | n + 1, A, hu, x, y, v, u, b, h, rx, ry => by
    rcases h with h | h
    · exact eqD_run I (by omega) h rx ry
    · have sm : x = y → b = true := fun e => by subst e; exact eqC_same I (eqX_same I n) h
      have step := eqC_run false I (A := A) (by omega) (fun x y v u b h rx ry => eqX_run I n A.in1 (by show A.units + 1 + n + 66 < cLine; omega) x y v u b h rx ry) h rx ry
      obtain ⟨a, c, rfl, rfl⟩ : ∃ a c, x = .ref a ∧ y = .ref c := by
        rcases h with ⟨a, c, _, _, e, e', _⟩ | ⟨a, c, _, _, _, e, e', _⟩ | ⟨a, c, _, _, e, e', _⟩ | ⟨a, c, _, _, e, e', _⟩ <;> exact ⟨_, _, e, e'⟩
      cases (show v = Value.ref a from rx)
      cases (show u = Value.ref c from ry)
      by_cases e : a = c
      · subst e
        rw [sm rfl]
        exact (SeqAt.EqAt.same _).eqP
      · exact SeqAt.eqP_refs e step
end
section
variable {X : Cx}
/-- a == b, a != b, of objects of any nesting -/
def rEqX (K : PySem.W.Frag) (neg : Bool) : R2 := fun x y H Q => ∃ n b, n ≤ 60 ∧ EqC K H (EqX K H n) x y b ∧ Q (.bl (if neg = true then !b else b)) H
theorem op_eqX (hu : X.A.units + 150 < cLine) : OpR X (compareOp .Eq) (rEqX X.K false) := by
  intro pins s σ H x y v u Q I rx ry h
  obtain ⟨n, b, hn, h, q⟩ := h
  exact eqC_run false I (A := X.A) (by omega) (eqX_run I n X.A.in1 (by show X.A.units + 1 + n + 66 < cLine; omega)) h rx ry _ _ ⟨.bl b, H, I, rfl, q⟩
theorem op_neX (hu : X.A.units + 150 < cLine) : OpR X (compareOp .NotEq) (rEqX X.K true) := by
  intro pins s σ H x y v u Q I rx ry h
  obtain ⟨n, b, hn, h, q⟩ := h
  exact eqC_run true I (A := X.A) (by omega) (eqX_run I n X.A.in1 (by show X.A.units + 1 + n + 66 < cLine; omega)) h rx ry _ _ ⟨.bl (!b), H, I, rfl, q⟩
end
end L2
set_option maxRecDepth 100000
set_option maxHeartbeats 4000000
/-! RX3: dicts read and stored by rules that stand beside those of lists; texts and tuples times a number; is with True and False. -/
namespace L2
open PySem PySem.Spec PyProof.Rows
section
variable {X : Cx}
/-- d[y], there -/
def rIxDct : R2 := fun x y H Q => ∃ a v, x = .ref a ∧ DGet H a y (some v) ∧ Q v H
theorem ix_dct (hu : X.A.units + 1 < cLine) : IxR X rIxDct := by
  intro value slice pins s σ H x y v u Q I rx ry h hs
  obtain ⟨a, z, rfl, g, q⟩ := h
  cases (show v = Value.ref a from rx)
  have hT : s.TypeIs (.ref a) "dict" := dict_typeIs I g
  unfold subscriptTail
  refine wpAny_bind ?_
  rw [getitemInPython_of_ne hT.not_modules]
  refine wpAny_bind (wpAny_specialOf hT PySem.F.slot_dict_getitem.lookup ?_)
  have fin : wpAny (model X.prog X.w) X.A (subscripted slice false (.ref a) u) (fun r s₃ => wpAny (model X.prog X.w) X.A (letTemporaryGo value (.ref a) r >>= fun _ => pure r) (EP X pins σ Q) X.xe s₃) X.xe s := by
    rw [hs]
    exact wpAny_operating (d_getItem hu I g ry fun w' s3 I3 rw' => wpAny_bind (wpAny_letTemporaryGo (wpAny_pure ⟨z, H, I3, rw', q⟩)))
  first
    | exact wpAny_pure (wpAny_bind fin)
    | exact wpAny_bind (wpAny_pure (wpAny_bind fin))
    | exact wpAny_bind fin
/-- d[y] = v -/
def rSetDct : V → V → V → Hp → (Hp → Prop) → Prop := fun o i v H Q => ∃ a H', o = .ref a ∧ DPut H a i v H' ∧ Q H'
theorem set_dct (hu : X.A.units + 1 < cLine) : PSet X rSetDct := by
  intro pins s σ H o i v ov iv u Q I ro ri rv h
  obtain ⟨a, H', rfl, g, q⟩ := h
  cases (show ov = Value.ref a from ro)
  exact d_setItem hu I g ri rv fun s' I' => ⟨H', I', q⟩
theorem PSet.or {r r' : V → V → V → Hp → (Hp → Prop) → Prop} (h : PSet X r) (h' : PSet X r') : PSet X (fun o i v H Q => r o i v H Q ∨ r' o i v H Q) := by
  intro pins s σ H o i v ov iv u Q I ro ri rv q
  rcases q with q | q
  · exact h pins s σ H o i v ov iv u Q I ro ri rv q
  · exact h' pins s σ H o i v ov iv u Q I ro ri rv q
/-- y in d, y not in d -/
theorem op_inDct (hu : X.A.units + 1 < cLine) : OpR X (compareOp .In) (fun y x H Q => ∃ a o, x = .ref a ∧ DGet H a y o ∧ Q (.bl o.isSome) H) := by
  intro pins s σ H y x v u Q I ry rx h
  obtain ⟨a, o, rfl, g, q⟩ := h
  cases (show u = Value.ref a from rx)
  exact d_in hu I g ry fun s3 I3 => ⟨.bl o.isSome, H, I3, rfl, q⟩
theorem op_notInDct (hu : X.A.units + 1 < cLine) : OpR X (compareOp .NotIn) (fun y x H Q => ∃ a o, x = .ref a ∧ DGet H a y o ∧ Q (.bl (!o.isSome)) H) := by
  intro pins s σ H y x v u Q I ry rx h
  obtain ⟨a, o, rfl, g, q⟩ := h
  cases (show u = Value.ref a from rx)
  exact d_notIn hu I g ry fun s3 I3 => ⟨.bl (!o.isSome), H, I3, rfl, q⟩
/-- d.get(y), d.get(y, z) -/
theorem mt_dget1 (hu : X.A.units + 1 < cLine) : MtR X "dict.get" (fun x xs H Q => ∃ a y o, x = .ref a ∧ xs = [y] ∧ DGet H a y o ∧ Q (o.getD .non) H) := by
  intro pins s σ H x xs v us Q I rx rs h
  obtain ⟨a, y, o, rfl, rfl, g, q⟩ := h
  cases (show v = Value.ref a from rx)
  obtain ⟨u, rfl, ru⟩ := vals1 rs
  exact d_get1 hu I g ru fun w' s' I' r' => ⟨_, H, I', r', q⟩
theorem mt_dget2 (hu : X.A.units + 1 < cLine) : MtR X "dict.get" (fun x xs H Q => ∃ a y z o, x = .ref a ∧ xs = [y, z] ∧ DGet H a y o ∧ Q (o.getD z) H) := by
  intro pins s σ H x xs v us Q I rx rs h
  obtain ⟨a, y, z, o, rfl, rfl, g, q⟩ := h
  cases (show v = Value.ref a from rx)
  obtain ⟨u, u2, rfl, ru, ru2⟩ := vals2 rs
  exact d_get2 hu I g ru ru2 fun w' s' I' r' => ⟨_, H, I', r', q⟩
/-- x is True, x is False: x anything -/
theorem op_isBA : OpR X (compareOp .Is) (fun x y H Q => ∃ b, y = .bl b ∧ Q (.bl (decide (x = .bl b))) H) := by
  intro pins s σ H x y v u Q I rx ry h
  obtain ⟨b, rfl, q⟩ := h
  cases (show u = Value.bool b from ry)
  by_cases e : x = .bl b
  · subst e
    cases (show v = Value.bool b from rx)
    exact wpAny_is_self rfl ⟨.bl true, H, I, rfl, by simpa using q⟩
  · have ne : v ≠ Value.bool b := by
      intro z
      subst z
      cases x <;> first
        | (cases (show Value.bool b = _ from rx); exact e rfl)
        | (obtain ⟨t, h⟩ := rx; cases h)
        | cases rx
    have pl : plainIs v (Value.bool b) = true := by
      cases x <;> first
        | (cases rx; rfl)
        | (obtain ⟨t, rfl⟩ := rx; rfl)
        | (cases (show v = _ from rx); rfl)
    exact wpAny_is_other pl ne ⟨.bl false, H, I, rfl, by simpa [e] using q⟩
/-- text * n -/
theorem op_repS : OpR X (binaryOp .Mult) (fun x y H Q => ∃ z n, x = .str z ∧ y = .int n ∧ MulOk z n ∧ Q (.str (Txt.mul z n)) H) := by
  intro pins s σ H x y v u Q I rx ry h
  obtain ⟨z, n, rfl, rfl, ok, q⟩ := h
  obtain ⟨t, rfl⟩ := rx
  obtain ⟨t', rfl⟩ := ry
  exact SB.mul ok fun t' k => ⟨.str (Txt.mul z n), H, I.tok _, ⟨t', rfl⟩, q⟩
end
end L2
set_option maxRecDepth 100000
set_option maxHeartbeats 2000000
/-! RX4: zip of two sources, each a list or a tuple, as the target of a loop names both. -/
namespace RI
open PySem PySem.Spec PyProof.Rows L2
local macro_rules | `(tactic| walk_at "adr") => `(tactic| first | (show @Ne Nat _ _; omega) | (show @LT.lt Nat _ _ _; omega) | (show @LE.le Nat _ _ _; omega) | omega)
/-- true: a list; false: a tuple -/
def SqA (k : Bool) (K : PySem.W.Frag) (H : Hp) (a : Addr) (xs : List V) : Prop := match k with
  | true => SqL K H a xs
  | false => SqT K H a xs
def FdA (k : Bool) (h : Heap) (it l : Addr) (i : Nat) : Prop := match k with
  | true => h.IsListIter it l i
  | false => h.IsTupleIter it l i
def HdA (k : Bool) (h : Heap) (l : Addr) (xs : Array Value) : Prop := match k with
  | true => h.IsList l xs
  | false => h.IsTuple l xs
def itO (k : Bool) (l : Addr) : Obj := { cls := .type (match k with | true => "list_iterator" | false => "tuple_iterator"), data := .fields #[.ref l, .int 0 0] }
theorem FdA.at_ {k : Bool} {h h' : Heap} {it l : Addr} {i : Nat} (f : FdA k h it l i) (e : ∀ o, h.get? it = some o → h'.get? it = some o) : FdA k h' it l i := by
  cases k
  · exact Heap.IsTupleIter.at f e
  · exact Heap.IsListIter.at f e
theorem FdA.obj {k : Bool} {h : Heap} {it l : Addr} {i : Nat} (f : FdA k h it l i) : ∃ o, h.get? it = some o ∧ ∀ v, o.data ≠ .cell v := by
  cases k <;>
  · obtain ⟨o, e, _, d⟩ := f
    exact ⟨o, e, fun v q => by rw [d] at q; cases q⟩
theorem FdA.start {k : Bool} {h : Heap} {it l : Addr} (e : h.get? it = some (itO k l)) : FdA k h it l 0 := by
  cases k <;> exact ⟨_, e, rfl, rfl⟩
theorem draw {prog : Program} {w : World} {A : Around} (k : Bool) (hh : A.handled = none) (it l : Addr) (ne : l ≠ it) (xs : Array Value) : Draws prog w A it [it, l] xs.size (fun i v => xs[i]? = some v) (fun i h => FdA k h it l i ∧ HdA k h l xs) := by
  cases k
  · exact Draws.tuple hh it l ne xs
  · exact Draws.list hh it l ne xs
theorem begin_ (k : Bool) (l : Addr) (xs : Array Value) : Begins (.ref l) (itO k l) fun h => HdA k h l xs := by
  cases k
  · exact begins_tuple l xs
  · exact begins_list l xs
section
variable {X : Cx} {pins : List (Addr × Obj)} {σ : L2.St} {H : Hp} {s : Shared} {k : Bool} {a : Addr} {xs ys : List V}
theorem seq_at (I : Inv X pins σ H s) (q : SqA k X.K H a xs) : ∃ us, Vals xs us ∧ HdA k s.heap a us.toArray ∧ a < s.heap.objs.size := by
  cases k
  · obtain ⟨us, r, p, _⟩ := I.tuple q
    obtain ⟨o, e, _⟩ := id p
    exact ⟨us, r, p, Heap.lt_size e⟩
  · obtain ⟨us, r, p, _⟩ := I.list q
    exact ⟨us, r, p.isList, p.lt⟩
theorem seq_inj (I : Inv X pins σ H s) (q : SqA k X.K H a xs) (q' : SqA k X.K H a ys) : xs = ys := by
  cases k
  · exact I.tuple_inj q q'
  · exact I.list_inj q q'
end
/-- two sources walked side by side, each pair a new tuple -/
def ItP (K : PySem.W.Frag) (k k' : Bool) (a b : Addr) : It where
  go := fun i H => ∃ (xs ys : List V) (x y : V), SqA k K H a xs ∧ SqA k' K H b ys ∧ xs[i]? = some x ∧ ys[i]? = some y
  yld := fun i H v H' => ∃ T x y, v = .ref T ∧ H T = none ∧ H' = upd H T (.tup [x, y]) ∧ (∀ xs, SqA k K H a xs → xs[i]? = some x) ∧ ∀ ys, SqA k' K H b ys → ys[i]? = some y
  stop := fun i H => ∃ xs ys : List V, SqA k K H a xs ∧ SqA k' K H b ys ∧ i ≤ xs.length ∧ i ≤ ys.length ∧ (i = xs.length ∨ i = ys.length)
def PairSt (k k' : Bool) (a b n : Nat) (i : Nat) (h : Heap) : Prop :=
  IsZip h (n + 4) (n + 2) (n + 3) .none ∧ IsTupOf2 h (n + 2) (.ref n) (.ref (n + 1)) ∧ (∃ x y, IsTupOf2 h (n + 3) x y) ∧ FdA k h n a i ∧ FdA k' h (n + 1) b i
def cells (n : Nat) : List Addr := [n + 4, n + 2, n + 3, n, n + 1]
theorem cells_mem {n c : Nat} (h : c ∈ cells n) : c = n + 4 ∨ c = n + 2 ∨ c = n + 3 ∨ c = n ∨ c = n + 1 := by simpa [cells] using h
theorem nm {c x y : Nat} (h : c ≠ x) (g : c ≠ y) : c ∉ [x, y] := by
  intro q
  rcases List.mem_cons.mp q with q | q
  · exact h q
  · exact g (List.mem_singleton.mp q)
theorem sep {a b n : Nat} (ha : a < n) (hb : b < n) : ZipSep2 (n + 4) (n + 2) (n + 3) n (n + 1) [n, a] [n + 1, b] :=
  ⟨by walk_at "adr", by walk_at "adr", by walk_at "adr", by walk_at "adr", List.mem_cons_self, nm (by walk_at "adr") (by walk_at "adr"), nm (by walk_at "adr") (by walk_at "adr"), by walk_at "adr", List.mem_cons_self, nm (by walk_at "adr") (by walk_at "adr"), nm (by walk_at "adr") (by walk_at "adr"), nm (by walk_at "adr") (by walk_at "adr"), nm (by walk_at "adr") (by walk_at "adr")⟩
theorem turnP {P : Program} {w : World} {K : PySem.W.Frag} {elts : List Expr} {kk : Nat} {tpos : Pos} {k k' : Bool} {a b n : Nat} (ha : a < n) (hb : b < n) :
    Turn P w K (.Tuple elts kk tpos) (ItP K k k' a b) (cells n) (n + 4) (PairSt k k' a b n) where
  mem := List.mem_cons_self
  obj := by
    rintro i h ⟨h1, h2, ⟨x, y, h3⟩, h4, h5⟩ c hc
    rcases cells_mem hc with rfl | rfl | rfl | rfl | rfl
    · exact ⟨_, h1, fun v q => nomatch q⟩
    · exact ⟨_, h2, fun v q => nomatch q⟩
    · exact ⟨_, h3, fun v q => nomatch q⟩
    · exact h4.obj
    · exact h5.obj
  keep := by
    rintro i h h' ⟨h1, h2, ⟨x, y, h3⟩, h4, h5⟩ q
    exact ⟨q _ (by simp [cells]) _ h1, q _ (by simp [cells]) _ h2, ⟨x, y, q _ (by simp [cells]) _ h3⟩, h4.at_ (q _ (by simp [cells])), h5.at_ (q _ (by simp [cells]))⟩
  item := by
    rintro X rfl rfl rfl hc i pins s σ H E I own ⟨h1, h2, ⟨x0, y0, h3⟩, h4, h5⟩ ⟨xs, ys, x, y, qx, qy, ex, ey⟩
    obtain ⟨us, rx, px, _⟩ := seq_at I qx
    obtain ⟨vs, ry, py, _⟩ := seq_at I qy
    obtain ⟨u, eu, ru⟩ := rx.get ex
    obtain ⟨v, ev, rv⟩ := ry.get ey
    have lu : i < us.toArray.size := by have := (List.getElem?_eq_some_iff.mp eu).1; simpa using this
    have lv : i < vs.toArray.size := by have := (List.getElem?_eq_some_iff.mp ev).1; simpa using this
    have hn : n + 4 < s.heap.objs.size := Heap.lt_size h1
    have hd : X.A.in1.handled = none := I.ok.hd hc
    refine wpAny_pyNext_zipD2_item (sep ha hb) (draw k hd n a (by walk_at "adr") us.toArray) (draw k' hd (n + 1) b (by walk_at "adr") vs.toArray) h1 h2 h3 ⟨h4, px⟩ ⟨h5, py⟩ lu lv ?_
    intro u' v' h' tk e1 e2 g1 g3 g4 g5 gT gs gk
    have e1 : u' = u := by rw [List.getElem?_toArray, eu] at e1; exact (Option.some.inj e1).symm
    have e2 : v' = v := by rw [List.getElem?_toArray, ev] at e2; exact (Option.some.inj e2).symm
    subst e1 e2
    refine ⟨_, rfl, wpAny_letOwnedTupleGo_zip (s := { s with heap := h', toks := tk }) g1 fun h2' f1 sb => ?_⟩
    have keepT : h2'.get? s.heap.objs.size = some { cls := .type "tuple", data := .seq #[u', v'] } := sb.extBut _ _ (by walk_at "adr") gT
    have fresh : ObjOk X.prog X.w (upd H s.heap.objs.size (.tup [x, y])) h2' s.heap.objs.size (.tup [x, y]) :=
      ⟨show 2 ≤ sizeLine by decide, [u', v'], .cons ru (.cons rv .nil), ⟨_, keepT, rfl, _, rfl⟩⟩
    have J : Inv X pins σ (upd H s.heap.objs.size (.tup [x, y])) { s with heap := h2', toks := tk } := by
      refine I.turnedNew (t' := tk) (ch := cells n) (fun c o out e => ?_) own (Nat.le_refl _) fresh
      have o1 : c ≠ n + 4 := fun q => out (by simp [cells, q])
      have o2 : c ≠ n + 3 := fun q => out (by simp [cells, q])
      have o3 : c ≠ n := fun q => out (by simp [cells, q])
      have o4 : c ≠ n + 1 := fun q => out (by simp [cells, q])
      exact sb.extBut _ _ o1 (gk c o o1 o2 o3 o4 e)
    refine ⟨.ref s.heap.objs.size, _, J, rfl, ⟨_, x, y, rfl, I.hok.fresh (Nat.le_refl _), rfl, fun l hl => by rw [seq_inj I hl qx]; exact ex, fun l hl => by rw [seq_inj I hl qy]; exact ey⟩, ⟨f1, sb.extBut _ _ (by walk_at "adr") (gk _ _ (by walk_at "adr") (by walk_at "adr") (by walk_at "adr") (by walk_at "adr") h2), ⟨u', v', sb.extBut _ _ (by walk_at "adr") g3⟩, g4.1.at_ fun o => sb.extBut _ o (by walk_at "adr"), g5.1.at_ fun o => sb.extBut _ o (by walk_at "adr")⟩, fun c hcm => ?_⟩
    have lt : @Ne Nat c s.heap.objs.size := by
      rcases cells_mem hcm with rfl | rfl | rfl | rfl | rfl <;> walk_at "adr"
    rw [upd_ne lt]
    exact (own c hcm).1
  done := by
    rintro X rfl rfl rfl hc i pins s σ H E I own ⟨h1, h2, ⟨x0, y0, h3⟩, h4, h5⟩ ⟨xs, ys, qx, qy, b1, b2, b3⟩
    obtain ⟨us, rx, px, _⟩ := seq_at I qx
    obtain ⟨vs, ry, py, _⟩ := seq_at I qy
    have l1 : xs.length = us.length := rx.length
    have l2 : ys.length = vs.length := ry.length
    have hd : X.A.in1.handled = none := I.ok.hd hc
    refine wpAny_pyNext_zipD2_end (sep ha hb) (draw k hd n a (by walk_at "adr") us.toArray) (draw k' hd (n + 1) b (by walk_at "adr") vs.toArray) h1 h2 h3 ⟨h4, px⟩ ⟨h5, py⟩ (by simp; omega) (by simp; omega) (by simp; omega) ?_
    intro h' tk gk
    refine ⟨rfl, I.turnedL (t' := tk) (ch := cells n) (fun c o out e => ?_) own⟩
    exact gk c o (fun q => out (by simp [cells, q])) (fun q => out (by simp [cells, q])) (fun q => out (by simp [cells, q])) (fun q => out (by simp [cells, q])) e
  self := by
    rintro A i s Q E ⟨h1, _⟩ h
    exact wpAny_pyIter_zip h1 h
def iPair (K : PySem.W.Frag) (ta : TA) : TI := fun σ H R => ta σ H fun vs G => ∃ a b k k' xs ys, vs = [.ref a, .ref b] ∧ SqA k K G a xs ∧ SqA k' K G b ys ∧ R (ItP K k k' a b) G
theorem pi_pair {X : Cx} {e e2 : Expr} {ta : TA} {p pos tpos : Pos} {elts : List Expr} {kk : Nat} (hg : Gl X "zip") (hm : X.mg "zip" = none) (ha : PA X [e, e2] ta)
    (hs : starEach [e, e2] X.env = (false, eval e X.env) :: starEach [e2] X.env) (hpl : (backTo pos (starEach [e2] X.env)).any (·.1) = false) :
    PI X (.Tuple elts kk tpos) (.Call (.Name "zip" p) [e, e2] [] pos) (iPair X.K ta) := by
  constructor
  intro pins s σ H R I h
  refine Call_ (ld_blt I hg hm PyProof.Rows.boot_zip (PyProof.Rows.callWith_type1 (thn (ha.run pos pins s σ H _ I h) ?_) hs hpl))
  rintro us t ⟨vs, G, J, rr, a, b, k, k', xs, ys, rfl, qx, qy, q⟩
  cases rr with
  | cons r1 rr =>
    cases rr with
    | cons r2 rr =>
      cases rr
      cases r1
      cases r2
      obtain ⟨us, _, px, la⟩ := seq_at J qx
      obtain ⟨vs, _, py, lb⟩ := seq_at J qy
      refine zip_begins2 (begin_ k a us.toArray) (begin_ k' b vs.toArray) px py fun h' f1 f2 f3 f4 f5 _ keep => ?_
      refine wpAny_pyIter_zip f1 ⟨_, cells t.heap.objs.size, PairSt k k' a b t.heap.objs.size, _, G, rfl, J.kept (t' := t.toks) keep, turnP la lb, ⟨f1, f2, ⟨_, _, f3⟩, .start f4, .start f5⟩, fun c hc => ?_, q⟩
      have le : (t.heap.objs.size : Nat) ≤ c := by
        rcases cells_mem hc with rfl | rfl | rfl | rfl | rfl <;> walk_at "adr"
      exact J.fpOk le (J.hok.fresh le)
end RI
set_option maxRecDepth 100000
set_option maxHeartbeats 4000000
/-! RX5: a tuple once; a dict of the module's own. -/
namespace L2
open PySem PySem.Spec PyProof.Rows
theorem tuple_mul1 (l : Addr) (items : Array Value) (n : Nat) (dd : Option Addr) (sl : Array (Option Value)) (u : Tok) :
    Meets (Builtin.«tuple.__mul__» ⟨[.ref l, .int 1 u], []⟩) (fun _ R s => s.heap.get? l = some { cls := .type "tuple", dict := dd, data := .seq items n, slots := sl } ∧ R (.ok (.ret (Value.ref l))) s) :=
  .of_wp fun prog w A R s h => by
    obtain ⟨hp, g, d, tk, os⟩ := s
    obtain ⟨hl, h⟩ := h
    have f1 := AutoSeq1.idx_int
    wp_walk using wpAny_loadPart' hl
    repeat (first
      | (refine wpAny_ite_false (by decide) ?_; wp_walk using wpAny_loadPart' hl)
      | (refine wpAny_ite_true (by simp) ?_; wp_walk using wpAny_loadPart' hl))
    exact ⟨_, rfl, h⟩
section
variable {X : Cx}
theorem op_repT1 : OpR X (binaryOp .Mult) (fun x y H Q => ∃ l xs, x = .ref l ∧ y = .int 1 ∧ SqT X.K H l xs ∧ Q (.ref l) H) := by
  intro pins s σ H x y v u Q I rx ry h
  obtain ⟨l, xs, rfl, rfl, hT, q⟩ := h
  cases rx
  obtain ⟨t, rfl⟩ := ry
  obtain ⟨its, r, ⟨⟨cls, dd, data, sl⟩, ho, hc, n, hd⟩, hs⟩ := I.tuple hT
  simp only at hc hd
  subst hc hd
  refine wpAny_binaryOp_repeat_ref (T := "tuple") (U := "int") (by decide) ⟨_, ho, rfl⟩ (fun s' => typeIs_int s' 1 t) noFill_tuple_mul F.fills_int_mul F.slot_int_rmul repeat_tuple F.slot_int_index.lookup
    (call_meets F.slot_int_rmul (typeIs_int s 1 t) F.entry_int_rmul (F.args_int_rmul_2 _ _) (int_rmul_tuple 1 t l its.toArray n dd sl)
      ⟨ho, rfl, ⟨_, ho, rfl⟩, call_meets F.slot_tuple_mul ⟨_, ho, rfl⟩ F.entry_tuple_mul (F.args_tuple_mul_2 _ _) (tuple_mul1 l its.toArray n dd sl t) ⟨ho, ?_⟩⟩)
  exact ⟨.ref l, H, I, rfl, q⟩
end
/-! ### a dict of the module's own, with text keys -/
theorem ns_out {K : PySem.W.Frag} {P : Params} {a : Addr} {ks : List Str} (h : He.dicW K a = some (He.keysIn P ks)) {z : Str} (hz : z ∉ ks) : PySem.W.nsIn K a z = some none := by
  unfold He.dicW at h
  cases q : K.lookup a with
  | none => rw [q] at h; cases h
  | some o =>
    obtain ⟨oc, od, dt, osl⟩ := o
    rw [q] at h
    cases oc with
    | type c =>
      cases od with
      | none =>
        cases dt with
        | dict es n =>
          have h1 : (match decide (c = "dict") && (osl.isEmpty && !(a == sysModules)) with
            | true => some (es.toList.map He.keyOf)
            | false => none) = some (He.keysIn P ks) := h
          cases z2 : decide (c = "dict") && (osl.isEmpty && !(a == sysModules)) with
          | false => rw [z2] at h1; cases h1
          | true =>
            rw [z2] at h1
            have h2 := Option.some.inj h1
            have go : ∀ (l : List DictEntry) (ks : List Str), l.map He.keyOf = He.keysIn P ks → z ∉ ks → l.find? (fun e => e.key.isStr z) = none ∧ (l.any fun e => e.refKey) = false := by
              intro l
              induction l with
              | nil => intro ks _ _; exact ⟨rfl, rfl⟩
              | cons e l ih =>
                intro ks h hz
                cases ks with
                | nil => cases h
                | cons k ks =>
                  have h3 : He.keyOf e :: l.map He.keyOf = some (k, PyData.keyHash P k) :: He.keysIn P ks := h
                  injection h3 with h4 h5
                  obtain ⟨i1, i2⟩ := ih ks h5 fun m => hz (List.mem_cons_of_mem _ m)
                  unfold He.keyOf at h4
                  split at h4
                  · rename_i x t q3
                    have h6 := (Prod.mk.inj (Option.some.inj h4)).1
                    have nz : ¬ x = z := fun e => hz (by rw [← e, h6]; exact List.mem_cons_self)
                    constructor
                    · rw [List.find?_cons, i1]
                      have : e.key.isStr z = false := by
                        rw [q3]
                        show (x == z) = false
                        exact beq_eq_false_iff_ne.mpr nz
                      rw [this]
                    · rw [List.any_cons, i2, Bool.or_false]
                      unfold DictEntry.refKey
                      rw [q3]
                  · cases h4
            obtain ⟨g1, g2⟩ := go es.toList ks h2 hz
            unfold PySem.W.nsIn
            rw [q]
            dsimp only
            rw [g1, g2]
            rfl
        | _ => cases h
      | some b => cases dt <;> cases h
    | _ => cases od <;> cases dt <;> cases h
end L2
set_option maxRecDepth 100000
set_option maxHeartbeats 2000000
/-! RA: a small language of its own (E, T, S), its values (D), its store, and what it computes (ev, exS). -/
namespace RI
open PySem L2
/-! ### values, objects, results -/
inductive D where
  | non | bl (b : Bool) | int (i : Int) | str (s : Str) | tup (l : List D) | ref (n : Nat)
inductive O where
  | lst (l : List D) | ro (l : List D) | dk (l : List (Key × D)) | dt (l : List (List Key × D)) | ins (c : Str) (fs : List (Str × D))
abbrev Store := List O
/-- an exception: its class, its fields -/
structure Exn where
  cls : Str
  fs : List (Str × D)
/-- the exception classes that a program may raise: their names, which is below which -/
class Xs where
  names : List Str
  sub : Str → Str → Bool
  /-- the module's constants -/
  consts : List (Str × D) := []
  /-- the module's dicts with text keys, that are only read -/
  cds : List (Str × List (Str × D)) := []
inductive Res (α : Type) where
  | ok (a : α) (s : Store)
  | ex (x : Exn) (s : Store)
  | bad
abbrev M (α : Type) := Store → Res α
abbrev Env := List (Option D)
def ret {α : Type} (a : α) : M α := fun s => .ok a s
def bnd {α β : Type} (m : M α) (f : α → M β) : M β := fun s => match m s with
  | .ok a s' => f a s'
  | .ex x s' => .ex x s'
  | .bad => .bad
def badM {α : Type} : M α := fun _ => .bad
def ofO {α : Type} : Option α → M α
  | some a => ret a
  | none => badM
/-- a new object -/
def newO (o : O) : M D := fun s => .ok (.ref s.length) (s ++ [o])
/-! ### the language -/
inductive Bi where
  | len | abs | gcd | int | list | tuple | sorted | all | any | max | min | str
  deriving DecidableEq
inductive Mt where
  | append | pop | clear | get | join
  deriving DecidableEq
inductive Ty where
  | int | bool | str | tuple | list | dict
  deriving DecidableEq
mutual
inductive E where
  | c (d : D) | var (i : Nat) | glob (x : Str)
  | tup (es : Es) | lst (es : Es) | dic (es : Es) | dic0 (t : Bool)
  | bin (op : Operator) (a b : E) | neg (a : E)
  | cmp (op : CmpOp) (a b : E) | chn (op op' : CmpOp) (a b c : E)
  | and (a b : E) | or (a b : E) | not (a : E) | ite (c a b : E)
  | ix (a b : E) | sl (a : E) (lo hi : Es)
  | call (f : Str) (es : Es) | callk (f : Str) (es : Es) (ks : List Str) (kes : Es)
  | bi (f : Bi) (es : Es)
  | meth (a : E) (m : Mt) (es : Es)
  | isi (a : E) (t : Ty) | isis (a : E) (ts : List Ty)
  | lc (elt : E) (tg : T) (it : I) (cond : Es) (own : List Nat)
  | exis (t : Str) | exfld (f : Str)
  | kin (n : Bool) (e : E) (x : Str) | kix (x : Str) (e : E)
inductive Es where
  | nil | cons (e : E) (es : Es)
inductive T where
  | name (i : Nat) | tup (ts : Ts)
inductive Ts where
  | nil | cons (t : T) (ts : Ts)
inductive I where
  | seq (e : E) | rng1 (e : E) | rng2 (a b : E) | zip (a b : E)
end
mutual
inductive S where
  | asg (t : T) (e : E) | seti (o i e : E) | aug (i : Nat) (op : Operator) (e : E)
  | expr (e : E) | ret (e : E) | retN | ife (c : E) (a b : Ss)
  | for (t : T) (it : I) (b : Ss) | whl (c : E) (b : Ss)
  | brk | cnt | pass | never | raise (c : Str) (es : Es)
  | try (b : Ss) (x : Str) (i : Option Nat) (suite : Ss)
inductive Ss where
  | nil | cons (s : S) (ss : Ss)
end
def Es.of : List E → Es
  | [] => .nil
  | e :: r => .cons e (Es.of r)
def Ts.of : List T → Ts
  | [] => .nil
  | e :: r => .cons e (Ts.of r)
def Ss.of : List S → Ss
  | [] => .nil
  | e :: r => .cons e (Ss.of r)
/-! ### operations -/
/-- the largest sequence -/
abbrev most : Nat := 16000000
/-- small enough for a product or a quotient -/
def fits (i : Int) : Prop := i.natAbs < 2 ^ 8000
instance (i : Int) : Decidable (fits i) := by unfold fits; exact inferInstance
def lstOf (s : Store) : D → Option (List D)
  | .ref n => (match s[n]? with
    | some (.lst l) => some l
    | some (.ro l) => some l
    | _ => none)
  | _ => none
def seqOf (s : Store) : D → Option (List D)
  | .tup l => some l
  | d => lstOf s d
/-! dicts: keys are ints and texts, or tuples of such -/
def keyD : D → Option Key
  | .int i => some (.inl i)
  | .str x => some (.inr x)
  | _ => none
def ofK : Key → D
  | .inl i => .int i
  | .inr x => .str x
def optAll {α : Type} : List (Option α) → Option (List α)
  | [] => some []
  | o :: r => (match o, optAll r with
    | some x, some xs => some (x :: xs)
    | _, _ => none)
def keysD (l : List D) : Option (List Key) := optAll (l.map keyD)
def valD {κ : Type} [DecidableEq κ] (l : List (κ × D)) (k : κ) : Option D := (l.find? fun p => decide (p.1 = k)).map (·.2)
def putD {κ : Type} [DecidableEq κ] (l : List (κ × D)) (k : κ) (v : D) : List (κ × D) :=
  if (l.any fun p => decide (p.1 = k)) = true then l.map (fun p => if p.1 = k then (p.1, v) else p) else l ++ [(k, v)]
def mergeD (l more : List (Key × D)) : List (Key × D) := more.foldl (fun acc p => putD acc p.1 p.2) l
def sameF : D → D → Bool
  | .non, .non => true
  | .bl a, .bl b => a == b
  | .int a, .int b => a == b
  | .str a, .str b => a == b
  | _, _ => false
def sameFs : List D → List D → Bool
  | [], [] => true
  | a :: as, b :: bs => sameF a b && sameFs as bs
  | _, _ => false
/-- a tuple that may be a constant of the module -/
def conT [Xs] (l : List D) : Bool := l.isEmpty || Xs.consts.any fun p => match p.2 with
  | .tup m => sameFs m l
  | _ => false
/-- what a dict holds at a key; none: no dict, no key -/
def dgetD [Xs] (s : Store) (d k : D) : Option (Option D) := match d with
  | .ref n => (match s[n]? with
    | some (.dk l) => (keyD k).map (valD l)
    | some (.dt l) => (match k with
      | .tup ks => if conT ks = true then none else (keysD ks).map (valD l)
      | _ => none)
    | _ => none)
  | _ => none
def dputD [Xs] (s : Store) (d k v : D) : Option Store := match d with
  | .ref n => (match s[n]? with
    | some (.dk l) => (keyD k).bind fun k => if l.length < most then some (s.set n (.dk (putD l k v))) else none
    | some (.dt l) => (match k with
      | .tup ks => if conT ks = true then none else (keysD ks).bind fun k => if l.length < most then some (s.set n (.dt (putD l k v))) else none
      | _ => none)
    | _ => none)
  | _ => none
def b2z (b : Bool) : Int := if b then 1 else 0
def binI (op : Operator) (i j : Int) : Option Int := match op with
  | .Add => some (i + j)
  | .Sub => some (i - j)
  | .Mult => if fits i ∧ fits j then some (i * j) else none
  | .FloorDiv => if j ≠ 0 ∧ fits j then some (i.fdiv j) else none
  | .Mod => if j ≠ 0 then some (i.fmod j) else none
  | .Pow => if 0 ≤ j ∧ j ≤ 4000 ∧ i.natAbs < 2 ^ 64 then some (i ^ j.toNat) else none
  | _ => none
def binD (op : Operator) (a b : D) : M D := match a, b with
  | .int i, .int j => ofO ((binI op i j).map D.int)
  | .str x, .str y => (match op with
    | .Add => if x.length + y.length ≤ most then ret (.str (x ++ y)) else badM
    | _ => badM)
  | .ref i, .ref j => fun s => (match op, s[i]?, s[j]? with
    | .Add, some (.lst l), some (.lst m) => if l.length + m.length ≤ most then .ok (.ref s.length) (s ++ [.lst (l ++ m)]) else .bad
    | _, _, _ => .bad)
  | .tup l, .tup m => (match op with
    | .Add => if l.length + m.length ≤ most then ret (.tup (l ++ m)) else badM
    | _ => badM)
  | .tup l, .int k => (match op with
    | .Mult => if l.isEmpty = false ∧ 1 ≤ k ∧ k ≤ 1000 ∧ l.length ≤ 1000 then ret (.tup (List.replicate k.toNat l).flatten) else badM
    | _ => badM)
  | .str z, .int n => (match op with
    | .Mult => if 1 ≤ n ∧ n ≤ 100000 ∧ z.length ≤ 100000 ∧ z.length * n.toNat ≤ 1000000 then ret (.str (Txt.mul z n)) else badM
    | _ => badM)
  | .ref i, .int k => fun s => (match op, s[i]? with
    | .Mult, some (.lst l) => if -(2 ^ 63) ≤ k ∧ k < 2 ^ 63 ∧ l.length * k.toNat ≤ most then .ok (.ref s.length) (s ++ [.lst (List.replicate k.toNat l).flatten]) else .bad
    | _, _ => .bad)
  | _, _ => badM
/-- the value's truth -/
def tru (s : Store) : D → Option Bool
  | .non => some false
  | .bl b => some b
  | .int i => some (i != 0)
  | .str x => if x.length ≤ most then some ((x.length : Int) != 0) else none
  | d => (seqOf s d).map fun l => !l.isEmpty
/-- data as a whole, read off the store, to this depth -/
def dat (s : Store) : Nat → D → Option PyData
  | _, .non => some .none
  | _, .bl b => some (.bool b)
  | _, .int i => some (.int i)
  | _, .str x => some (.str x)
  | 0, _ => none
  | n + 1, .tup l => (optAll (l.map (dat s n))).map .tuple
  | n + 1, .ref k => (lstOf s (.ref k)).bind fun l => (optAll (l.map (dat s n))).map .list
def eqD (s : Store) (a b : D) : Option Bool := match dat s 64 a, dat s 64 b with
  | some x, some y => if SeqAt.shaped x = true ∧ SeqAt.shaped y = true then some (PyData.eqv x y) else none
  | _, _ => none
def hitsD {κ : Type} [DecidableEq κ] (f : D → D → Option Bool) (m : List (κ × D)) : List (κ × D) → Option Bool
  | [] => some true
  | p :: r => (match valD m p.1 with
    | none => some false
    | some y => (match f p.2 y, hitsD f m r with
      | some e, some b => some (e && b)
      | _, _ => none))
def zipD (f : D → D → Option Bool) : List D → List D → Option (List Bool)
  | [], _ => some []
  | _ :: _, [] => some []
  | x :: xs, y :: ys => (match f x y, zipD f xs ys with
    | some b, some bs => some (b :: bs)
    | _, _ => none)
/-- equality of any nesting -/
def eqX (s : Store) : Nat → D → D → Option Bool
  | 0, a, b => eqD s a b
  | n + 1, a, b => (match eqD s a b with
    | some k => some k
    | none => (match a, b with
      | .tup l, .tup m => (zipD (eqX s n) l m).map fun bs => bs.all id && l.length == m.length
      | .ref i, .ref j => (match s[i]?, s[j]? with
        | some (.lst l), some (.lst m) => if l.length = m.length then (zipD (eqX s n) l m).map fun bs => bs.all id else some false
        | some (.dk l), some (.dk m) => if l.length = m.length then hitsD (eqX s n) m l else some false
        | some (.dt l), some (.dt m) => if l.length = m.length then hitsD (eqX s n) m l else some false
        | _, _ => none)
      | _, _ => none))
def isNon : D → Bool
  | .non => true
  | _ => false
/-- flat things, for in -/
def flatD : D → Bool
  | .non => true | .bl _ => true | .int _ => true | .str _ => true
  | _ => false
def toV : D → V
  | .non => .non | .bl b => .bl b | .int i => .int i | .str x => .str x
  | _ => .non
def inD (x : D) (l : List D) : Bool := inV (toV x) (l.map toV)
/-- a in b, b a list or a tuple -/
def inS (a b : D) (s : Store) : Option Bool := match a, b with
    | .str i, .str j => some (!(Builtin.Str.occurrences j i 0 j.length 1).isEmpty)
    | _, _ => (match (seqOf s b).bind fun l => if flatD a = true ∧ l.all flatD = true then some (inD a l) else none with
      | some k => some k
      | none => (match dat s 64 a, dat s 64 b with
        | some d, some (.list ds) => if SeqAt.shaped d = true ∧ SeqAt.shaped (.list ds) = true then some (ds.any fun z => PyData.eqv z d) else none
        | _, _ => none))
def inA [Xs] (a b : D) (s : Store) : Option Bool := match dgetD s b a with
  | some o => some o.isSome
  | none => inS a b s
def isB (a b : D) : Option Bool := match b with
  | .bl _ => some (sameF a b)
  | _ => none
def cmpD [Xs] (op : CmpOp) (a b : D) (s : Store) : Option Bool := match op with
  | .Eq => eqX s 40 a b
  | .NotEq => (eqX s 40 a b).map not
  | .Lt => (match a, b with
    | .int i, .int j => some (decide (i < j))
    | _, _ => none)
  | .LtE => (match a, b with
    | .int i, .int j => some (decide (i ≤ j))
    | _, _ => none)
  | .Gt => (match a, b with
    | .int i, .int j => some (decide (j < i))
    | _, _ => none)
  | .GtE => (match a, b with
    | .int i, .int j => some (decide (j ≤ i))
    | _, _ => none)
  | .Is => if isNon b then some (isNon a) else isB a b
  | .IsNot => if isNon b then some (!isNon a) else none
  | .In => inA a b s
  | .NotIn => (inA a b s).map not
def ixS (a b : D) (s : Store) : Option D := match b with
  | .int i => (match a with
    | .str x => if x.length ≤ most then (atI x.cps.toList i).map fun c => .str ⟨#[c]⟩ else none
    | _ => (seqOf s a).bind fun l => atI l i)
  | _ => none
def ixD [Xs] (a b : D) (s : Store) : Option D := match dgetD s a b with
  | some o => o
  | none => ixS a b s
def cutD {α : Type} (xs : List α) (lo hi : Option Int) : List α := (xs.drop (HT.sIx xs.length 0 lo)).take (HT.sIx xs.length xs.length hi - HT.sIx xs.length 0 lo)
def tyD (s : Store) (t : Ty) : D → Option Bool
  | .non => some false
  | .bl _ => some (decide (t = .bool) || decide (t = .int))
  | .int _ => some (decide (t = .int))
  | .str _ => some (decide (t = .str))
  | .tup _ => some (decide (t = .tuple))
  | .ref n => (match s[n]? with
    | some (.lst _) => some (decide (t = .list))
    | some (.dk _) => some (decide (t = .dict))
    | some (.dt _) => some (decide (t = .dict))
    | _ => none)
def insL {α : Type} (lt : α → α → Bool) (x : α) : List α → List α
  | [] => [x]
  | y :: r => if lt x y = true then x :: y :: r else y :: insL lt x r
/-- sorted -/
def isrt {α : Type} (lt : α → α → Bool) : List α → List α
  | [] => []
  | x :: r => insL lt x (isrt lt r)
def ltK (a b : List Key) : Bool := PyProof.Rows.lexLt PyProof.Rows.itemOrd (a.map keyI) (b.map keyI)
/-- which places hold texts: the longest tells -/
def shapeL (l : List (List Key)) : Nat → Bool := fun i => match (l.foldl (fun m t => if m.length < t.length then t else m) [])[i]? with
  | some k => keyT k
  | none => true
def sortT (l : List (List Key)) : Option (List (List Key)) := if (l.all fun k => !k.isEmpty && shapeOk (shapeL l) 0 k) = true then some (isrt ltK l) else none
def tupKs : D → Option (List Key)
  | .tup t => keysD t
  | _ => none
def ofKs (k : List Key) : D := .tup (k.map ofK)
def intD : D → Option Int
  | .int i => some i
  | _ => none
def strD : D → Option Str
  | .str i => some i
  | _ => none
def blD : D → Option Bool
  | .bl i => some i
  | _ => none
def sortD (l : List D) : Option (List D) := match optAll (l.map tupKs) with
  | some ks => (sortT ks).map fun r => r.map ofKs
  | none => (match optAll (l.map intD) with
    | some ns => some ((isrt (fun i j => decide (i < j)) ns).map .int)
    | none => none)
def lenDct (s : Store) : D → Res D
  | .ref n => (match s[n]? with
    | some (.dk l) => .ok (.int l.length) s
    | some (.dt l) => .ok (.int l.length) s
    | _ => .bad)
  | _ => .bad
def biD (f : Bi) (as : List D) : M D := fun s => match f, as with
  | .sorted, [.ref n] => (match s[n]? with
    | some (.dt l) => (match sortT (l.map (·.1)) with
      | some r => .ok (.ref s.length) (s ++ [.lst (r.map ofKs)])
      | none => .bad)
    | _ => (match (lstOf s (.ref n)).bind sortD with
      | some r => .ok (.ref s.length) (s ++ [.lst r])
      | none => .bad))
  | .all, [d] => (match (lstOf s d).bind fun l => optAll (l.map blD) with
    | some bs => .ok (.bl (bs.all id)) s
    | none => .bad)
  | .any, [d] => (match (lstOf s d).bind fun l => optAll (l.map blD) with
    | some bs => .ok (.bl (bs.any id)) s
    | none => .bad)
  | .max, [.int i, .int j] => .ok (.int (if j > i then j else i)) s
  | .min, [.int i, .int j] => .ok (.int (if j < i then j else i)) s
  | .str, [.int i] => if i.natAbs.log2 < 1920 then .ok (.str (toString i)) s else .bad
  | .int, [.str x] => (match PySem.intText? x with
    | some n => if x.length ≤ 640 then .ok (.int n) s else .bad
    | none => .bad)
  | .len, [.str x] => if x.length ≤ most then .ok (.int x.length) s else .bad
  | .len, [d] => (match seqOf s d with
    | some l => .ok (.int l.length) s
    | none => lenDct s d)
  | .abs, [.int i] => .ok (.int (if i < 0 then -i else i)) s
  | .gcd, [.int i, .int j] => .ok (.int ((Nat.gcd i.natAbs j.natAbs : Nat) : Int)) s
  | .int, [.int i] => .ok (.int i) s
  | .int, [.bl b] => .ok (.int (if b then 1 else 0)) s
  | .list, [d] => (match seqOf s d with
    | some l => .ok (.ref s.length) (s ++ [.lst l])
    | none => .bad)
  | .tuple, [.tup l] => .ok (.tup l) s
  | .tuple, [d] => (match lstOf s d with
    | some l => .ok (.tup l) s
    | none => .bad)
  | _, _ => .bad
def isLst (s : Store) : D → Bool
  | .ref n => (match s[n]? with
    | some (.lst _) => true
    | _ => false)
  | _ => false
def isDct (s : Store) : D → Bool
  | .ref n => (match s[n]? with
    | some (.dk _) => true
    | some (.dt _) => true
    | _ => false)
  | _ => false
def isStr : D → Bool
  | .str _ => true
  | _ => false
/-- is it what has such a method -/
def rcvOk (m : Mt) (s : Store) (d : D) : Bool := match m with
  | .join => isStr d
  | .get => isDct s d
  | _ => isLst s d
def mtD [Xs] (m : Mt) (a : D) (as : List D) : M D := fun s => match m, a, as with
  | .append, .ref n, [d] => (match s[n]? with
    | some (.lst l) => if l.length ≤ most then .ok .non (s.set n (.lst (l ++ [d]))) else .bad
    | _ => .bad)
  | .pop, .ref n, [] => (match s[n]? with
    | some (.lst l) => (match l[l.length - 1]? with
      | some d => .ok d (s.set n (.lst l.dropLast))
      | none => .bad)
    | _ => .bad)
  | .clear, .ref n, [] => (match s[n]? with
    | some (.lst _) => .ok .non (s.set n (.lst []))
    | _ => .bad)
  | .get, d, [k] => (match dgetD s d k with
    | some o => .ok (o.getD .non) s
    | none => .bad)
  | .get, d, [k, z] => (match dgetD s d k with
    | some o => .ok (o.getD z) s
    | none => .bad)
  | .join, .str a, [d] => (match (seqOf s d).bind fun l => optAll (l.map strD) with
    | some ys => if (ys.map (·.length)).sum + ys.length * a.length ≤ most then .ok (.str (Txt.join a ys)) s else .bad
    | none => .bad)
  | _, _, _ => .bad
/-! ### what it computes -/
structure Tb where
  call : Str → List D → M D
  callk : Str → List Str → List D → List D → M D
  gl : Str → Option D
  sub : Str → Str → Bool := fun _ _ => false
  /-- an exception that is being handled, where one stands in an except suite -/
  exn : Option Exn := none
/-- what a loop walks: its items, the lists that must stay as they are meanwhile -/
structure Walk where
  items : List D
  held : List (Nat × List D)
def Walk.ok (w : Walk) (s : Store) : Prop := ∀ p ∈ w.held, lstOf s (.ref p.1) = some p.2
noncomputable instance (w : Walk) (s : Store) : Decidable (w.ok s) := Classical.propDecidable _
def walkOf (s : Store) : D → Option Walk
  | .tup l => some ⟨l, []⟩
  | .str x => some ⟨x.cps.toList.map fun c => D.str ⟨#[c]⟩, []⟩
  | .ref n => (lstOf s (.ref n)).map fun l => ⟨l, [(n, l)]⟩
  | _ => none
def rngD (i j : Int) : Option Walk := if -(2 ^ 62) ≤ i ∧ i < 2 ^ 62 ∧ -(2 ^ 62) ≤ j ∧ j < 2 ^ 62 then some ⟨(List.range (j - i).toNat).map fun k => D.int (i + (k : Nat)), []⟩ else none
mutual
def asgT : T → D → Env → Store → Option Env
  | .name i, d, ρ, _ => some (ρ.set i (some d))
  | .tup ts, d, ρ, s => (seqOf s d).bind fun l => asgTs ts l ρ s
def asgTs : Ts → List D → Env → Store → Option Env
  | .nil, [], ρ, _ => some ρ
  | .cons t ts, d :: ds, ρ, s => (asgT t d ρ s).bind fun ρ' => asgTs ts ds ρ' s
  | .nil, _ :: _, _, _ => none
  | .cons _ _, [], _, _ => none
end
def wipeD (ρ : Env) : List Nat → Env
  | [] => ρ
  | v :: vs => (wipeD ρ vs).set v none
/-- a comprehension's turns; the list grows at n -/
noncomputable def lcL (w : Walk) (tg : T) (cond : Env → M Bool) (elt : Env → M D) (own : List Nat) (ρ : Env) (n : Nat) : List D → M Unit
  | [] => fun s => if w.ok s then .ok () s else .bad
  | d :: r => fun s => if w.ok s then (match asgT tg d (wipeD ρ own) s with
    | none => .bad
    | some ρ' => (match cond ρ' s with
      | .ok true s1 => (match elt ρ' s1 with
        | .ok x s2 => (match s2[n]? with
          | some (.lst acc) => if acc.length ≤ most then lcL w tg cond elt own ρ n r (s2.set n (.lst (acc ++ [x]))) else .bad
          | _ => .bad)
        | _ => .bad)
      | .ok false s1 => lcL w tg cond elt own ρ n r s1
      | _ => .bad)) else .bad
/-- a value, as a test -/
def truK (d : D) : M Bool := fun s => ofO (tru s d) s
def truM (m : M D) : M Bool := bnd m truK
def partK : List D → M (Option Int)
  | [] => ret none
  | [.int i] => ret (some i)
  | _ => badM
def tupK (ds : List D) : M D := if ds.length ≤ most then ret (.tup ds) else badM
def lstK (ds : List D) : M D := if ds.length ≤ most then newO (.lst ds) else badM
def negK : D → M D
  | .int i => ret (.int (-i))
  | _ => badM
def cmpB [Xs] (op : CmpOp) (x y : D) : M Bool := fun s => ofO (cmpD op x y s) s
def blK (b : Bool) : M D := ret (.bl b)
def cmpK [Xs] (op : CmpOp) (x y : D) : M D := bnd (cmpB op x y) blK
def ixK [Xs] (x y : D) : M D := fun s => ofO (ixD x y s) s
def andK (m : M D) (x : D) : M D := bnd (truK x) fun k => if k = true then m else ret x
def orK (m : M D) (x : D) : M D := bnd (truK x) fun k => if k = true then ret x else m
def notK (b : Bool) : M D := ret (.bl (!b))
def slK (x : D) (l h : Option Int) : M D := fun s => match x with
  | .str z => if z.length ≤ most then .ok (.str (cutS z l h)) s else .bad
  | .tup xs => .ok (.tup (cutD xs l h)) s
  | d => (match lstOf s d with
    | some xs => .ok (.ref s.length) (s ++ [.lst (cutD xs l h)])
    | none => .bad)
/-- a display's entries: keys are ints and texts -/
def kvsD : List D → Option (List (Key × D))
  | [] => some []
  | k :: v :: r => (match keyD k, kvsD r with
    | some k, some r => some ((k, v) :: r)
    | _, _ => none)
  | _ => none
/-- a display is filled -/
def dicK (d : D) (ds : List D) : M D := fun s => match d with
  | .ref n => (match s[n]? with
    | some (.dk []) => (match kvsD ds with
      | some l => .ok d (s.set n (.dk (mergeD [] l)))
      | none => .bad)
    | _ => .bad)
  | _ => .bad
def isiK (t : Ty) (x : D) : M D := fun s => ofO ((tyD s t x).map D.bl) s
def isisK (ts : List Ty) (x : D) : M D := fun s => ofO ((optAll (ts.map fun t => tyD s t x)).map fun bs => D.bl (bs.any id)) s
def rcvK (m : Mt) (x : D) : M Unit := fun s => if rcvOk m s x = true then .ok () s else .bad
def seqK (x : D) : M Walk := fun s => ofO (walkOf s x) s
def rng1K : D → M Walk
  | .int j => ofO (rngD 0 j)
  | _ => badM
/-- a list or a tuple: its items, what must stand -/
def srcOf (s : Store) : D → Option (List D × List (Nat × List D))
  | .tup l => some (l, [])
  | .ref n => (lstOf s (.ref n)).map fun l => (l, [(n, l)])
  | _ => none
def zipK (x y : D) : M Walk := fun s => match srcOf s x, srcOf s y with
  | some p, some q => .ok ⟨List.zipWith (fun a b => D.tup [a, b]) p.1 q.1, p.2 ++ q.2⟩ s
  | _, _ => .bad
def rng2K : D → D → M Walk
  | .int i, .int j => ofO (rngD i j)
  | _, _ => badM
noncomputable def lcK (tg : T) (cond : Env → M Bool) (elt : Env → M D) (own : List Nat) (ρ : Env) (w : Walk) : M D := fun s => match lcL w tg cond elt own ρ s.length w.items (s ++ [.lst []]) with
  | .ok _ s' => .ok (.ref s.length) s'
  | _ => .bad
/-- a text, looked for in a dict of the module -/
def kinK [Xs] (n : Bool) (x : Str) (d : D) : M D := fun s => match Xs.cds.lookup x, d with
  | some l, .str z => .ok (.bl (n != (l.lookup z).isSome)) s
  | _, _ => .bad
def kixK [Xs] (x : Str) (d : D) : M D := fun s => match Xs.cds.lookup x, d with
  | some l, .str z => ofO (l.lookup z) s
  | _, _ => .bad
variable [Xs]
mutual
noncomputable def ev (B : Tb) : E → Env → M D
  | .c d, _ => ret d
  | .var i, ρ => ofO (ρ[i]?.getD none)
  | .glob x, _ => ofO (B.gl x)
  | .tup es, ρ => bnd (evs B es ρ) tupK
  | .lst es, ρ => bnd (evs B es ρ) lstK
  | .dic0 t, _ => newO (if t = true then .dt [] else .dk [])
  | .dic es, ρ => bnd (newO (.dk [])) fun d => bnd (evs B es ρ) fun ds => dicK d ds
  | .bin op a b, ρ => bnd (ev B a ρ) fun x => bnd (ev B b ρ) fun y => binD op x y
  | .neg a, ρ => bnd (ev B a ρ) negK
  | .cmp op a b, ρ => bnd (ev B a ρ) fun x => bnd (ev B b ρ) fun y => cmpK op x y
  | .chn op op' a b c, ρ => bnd (ev B a ρ) fun x => bnd (ev B b ρ) fun y => bnd (cmpB op x y) fun k => if k = true then bnd (ev B c ρ) fun z => cmpK op' y z else ret (.bl false)
  | .and a b, ρ => bnd (ev B a ρ) fun x => andK (ev B b ρ) x
  | .or a b, ρ => bnd (ev B a ρ) fun x => orK (ev B b ρ) x
  | .not a, ρ => bnd (truM (ev B a ρ)) notK
  | .ite c a b, ρ => bnd (truM (ev B c ρ)) fun k => if k = true then ev B a ρ else ev B b ρ
  | .ix a b, ρ => bnd (ev B a ρ) fun x => bnd (ev B b ρ) fun y => ixK x y
  | .sl a lo hi, ρ => bnd (ev B a ρ) fun x => bnd (bnd (evs B lo ρ) partK) fun l => bnd (bnd (evs B hi ρ) partK) fun h => slK x l h
  | .call f es, ρ => bnd (evs B es ρ) fun ds => B.call f ds
  | .callk f es ks kes, ρ => bnd (evs B es ρ) fun ds => bnd (evs B kes ρ) fun ws => B.callk f ks ds ws
  | .bi f es, ρ => bnd (evs B es ρ) fun ds => biD f ds
  | .meth a m es, ρ => bnd (ev B a ρ) fun x => bnd (rcvK m x) fun _ => bnd (evs B es ρ) fun ds => mtD m x ds
  | .isi a t, ρ => bnd (ev B a ρ) fun x => isiK t x
  | .isis a ts, ρ => bnd (ev B a ρ) fun x => isisK ts x
  | .lc elt tg it cond own, ρ => bnd (evI B it ρ) fun w => lcK tg (fun ρ' => evC B cond ρ') (fun ρ' => ev B elt ρ') own ρ w
  | .exis t, _ => ofO (B.exn.bind fun x => if x.fs.isEmpty = true then some (.bl (B.sub x.cls t)) else none)
  | .exfld f, _ => ofO (B.exn.bind fun x => x.fs.lookup f)
  | .kin n e x, ρ => bnd (ev B e ρ) (kinK n x)
  | .kix x e, ρ => bnd (ev B e ρ) (kixK x)
noncomputable def evs (B : Tb) : Es → Env → M (List D)
  | .nil, _ => ret []
  | .cons e es, ρ => bnd (ev B e ρ) fun d => bnd (evs B es ρ) fun ds => ret (d :: ds)
/-- a comprehension's tests: none or one -/
noncomputable def evC (B : Tb) : Es → Env → M Bool
  | .nil, _ => ret true
  | .cons e _, ρ => truM (ev B e ρ)
noncomputable def evI (B : Tb) : I → Env → M Walk
  | .seq e, ρ => bnd (ev B e ρ) seqK
  | .rng1 e, ρ => bnd (ev B e ρ) rng1K
  | .rng2 a b, ρ => bnd (ev B a ρ) fun x => bnd (ev B b ρ) fun y => rng2K x y
  | .zip a b, ρ => bnd (ev B a ρ) fun x => bnd (ev B b ρ) fun y => zipK x y
end
/-! ### statements -/
inductive Fl where
  | nx (ρ : Env) (s : Store) | rt (d : D) (s : Store) | bk (ρ : Env) (s : Store) | ct (ρ : Env) (s : Store)
  | ex (x : Exn) (ρ : Env) (s : Store) | bad
def fin {α : Type} (ρ : Env) (r : Res α) (k : α → Store → Fl) : Fl := match r with
  | .ok a s => k a s
  | .ex x s => .ex x ρ s
  | .bad => .bad
noncomputable def forL (w : Walk) (tg : T) (body : Env → Store → Fl) : List D → Env → Store → Fl
  | [], ρ, s => if w.ok s then .nx ρ s else .bad
  | d :: r, ρ, s => if w.ok s then (match asgT tg d ρ s with
    | none => .bad
    | some ρ' => (match body ρ' s with
      | .nx ρ1 s1 => forL w tg body r ρ1 s1
      | .ct ρ1 s1 => forL w tg body r ρ1 s1
      | .bk ρ1 s1 => .nx ρ1 s1
      | .rt d s1 => .rt d s1
      | .ex x ρ1 s1 => .ex x ρ1 s1
      | .bad => .bad)) else .bad
/-- x[y] = d -/
def setiK [Xs] (d x y : D) (ρ : Env) (s : Store) : Fl := match dputD s x y d with
  | some s' => .nx ρ s'
  | none => (match x, y with
    | .ref n, .int k => (match s[n]? with
      | some (.lst l) => (match ixN l.length k with
        | some j => .nx ρ (s.set n (.lst (l.set j d)))
        | none => .bad)
      | _ => .bad)
    | _, _ => .bad)
/-- a while: at most so many turns -/
def whlL (c : Env → M Bool) (body : Env → Store → Fl) : Nat → Env → Store → Fl
  | 0, _, _ => .bad
  | n + 1, ρ, s => fin ρ (c ρ s) fun b s1 => if b then (match body ρ s1 with
      | .nx ρ1 s2 => whlL c body n ρ1 s2
      | .ct ρ1 s2 => whlL c body n ρ1 s2
      | .bk ρ1 s2 => .nx ρ1 s2
      | .rt d s2 => .rt d s2
      | .ex x ρ1 s2 => .ex x ρ1 s2
      | .bad => .bad) else .nx ρ s1
/-- the slot of an except clause's name, forgotten -/
def hideE : Option Nat → Env → Env
  | some i, ρ => ρ.set i none
  | none, ρ => ρ
def unslot (i : Option Nat) : Fl → Fl
  | .nx ρ s => .nx (hideE i ρ) s
  | .bk ρ s => .bk (hideE i ρ) s
  | .ct ρ s => .ct (hideE i ρ) s
  | .ex x ρ s => .bad
  | r => r
/-- turns of a while that are enough -/
def turns : Nat := 10 ^ 12
mutual
noncomputable def exS (B : Tb) : S → Env → Store → Fl
  | .asg t e, ρ, s => fin ρ (ev B e ρ s) fun d s1 => (match asgT t d ρ s1 with
    | some ρ' => .nx ρ' s1
    | none => .bad)
  | .seti o i e, ρ, s => fin ρ (ev B e ρ s) fun d s1 => fin ρ (ev B o ρ s1) fun x s2 => fin ρ (ev B i ρ s2) fun y s3 => setiK d x y ρ s3
  | .aug i op e, ρ, s => (match ρ[i]? with
    | some (some x) => fin ρ (ev B e ρ s) fun y s1 => (match x, y with
      | .int a, .int b => (match op with
        | .Add => .nx (ρ.set i (some (.int (a + b)))) s1
        | .Sub => .nx (ρ.set i (some (.int (a - b)))) s1
        | _ => .bad)
      | _, _ => .bad)
    | _ => .bad)
  | .expr e, ρ, s => fin ρ (ev B e ρ s) fun _ s1 => .nx ρ s1
  | .ret e, ρ, s => fin ρ (ev B e ρ s) fun d s1 => .rt d s1
  | .retN, _, s => .rt .non s
  | .ife c a b, ρ, s => fin ρ (truM (ev B c ρ) s) fun k s1 => if k then exSs B a ρ s1 else exSs B b ρ s1
  | .for t it b, ρ, s => fin ρ (evI B it ρ s) fun w s1 => forL w t (fun ρ' s' => exSs B b ρ' s') w.items ρ s1
  | .whl c b, ρ, s => whlL (fun ρ' => truM (ev B c ρ')) (fun ρ' s' => exSs B b ρ' s') turns ρ s
  | .brk, ρ, s => .bk ρ s
  | .cnt, ρ, s => .ct ρ s
  | .pass, ρ, s => .nx ρ s
  | .never, _, _ => .bad
  | .raise c es, ρ, s => (match es with
    | .nil => .ex ⟨c, []⟩ ρ s
    | _ => .bad)
  | .try b x i suite, ρ, s => (match exSs B b ρ s with
    | .ex e ρ1 s1 => if B.sub e.cls x = true then unslot i (exSs { B with exn := some e } suite (hideE i ρ1) s1) else .ex e ρ1 s1
    | r => r)
noncomputable def exSs (B : Tb) : Ss → Env → Store → Fl
  | .nil, ρ, s => .nx ρ s
  | .cons a r, ρ, s => (match exS B a ρ s with
    | .nx ρ1 s1 => exSs B r ρ1 s1
    | q => q)
end
/-- a def: its parameters, its names by slot, its body -/
structure Fd where
  nps : Nat
  nns : Nat
  body : Ss
def startD (n : Nat) (ds : List D) : Env := ds.map some ++ List.replicate (n - ds.length) none
noncomputable def runFd (B : Tb) (f : Fd) (ds : List D) : M D := fun s => if ds.length = f.nps then (match exSs B f.body (startD f.nns ds) s with
  | .nx _ s1 => .ok .non s1
  | .rt d s1 => .ok d s1
  | .ex x _ s1 => .ex x s1
  | _ => .bad) else .bad
end RI
set_option maxRecDepth 100000
set_option maxHeartbeats 4000000
/-! RB: how the language's values and store stand in the heap; what is wanted behind a computation. -/
namespace RI
open PySem L2
section
variable [Xs]
variable (K : PySem.W.Frag)
/-- a tuple that is tracked, or may be a constant of the module -/
def TrK (H : Hp) (a : Addr) (xs : List V) (ds : List D) : Prop := H a = some (.tup xs) ∨ conT ds = true
mutual
inductive RV (A : List Addr) (H : Hp) : V → D → Prop
  | non : RV A H .non .non
  | bl (b : Bool) : RV A H (.bl b) (.bl b)
  | int (i : Int) : RV A H (.int i) (.int i)
  | str (x : Str) : RV A H (.str x) (.str x)
  | tup {a : Addr} {xs : List V} {ds : List D} : SqT K H a xs → TrK H a xs ds → RVs A H xs ds → RV A H (.ref a) (.tup ds)
  | ref {n : Nat} {a : Addr} : A[n]? = some a → RV A H (.ref a) (.ref n)
inductive RVs (A : List Addr) (H : Hp) : List V → List D → Prop
  | nil : RVs A H [] []
  | cons {v : V} {vs : List V} {d : D} {ds : List D} : RV A H v d → RVs A H vs ds → RVs A H (v :: vs) (d :: ds)
end
/-- tuples and locked things stay -/
structure Kp (H H' : Hp) : Prop where
  tup : ∀ b xs, H b = some (.tup xs) → H' b = some (.tup xs)
  frz : ∀ b o u, H b = some (.frz o u) → H' b = some (.frz o u)
def Kp.refl (H : Hp) : Kp H H := ⟨fun _ _ h => h, fun _ _ _ h => h⟩
theorem Kp.trans {H H1 H2 : Hp} (a : Kp H H1) (b : Kp H1 H2) : Kp H H2 := ⟨fun x y h => b.tup _ _ (a.tup _ _ h), fun x y z h => b.frz _ _ _ (a.frz _ _ _ h)⟩
theorem Kp.new {H : Hp} {p : Addr} {o : HO} (h : H p = none) : Kp H (upd H p o) :=
  ⟨fun b xs q => by rw [upd_ne (ne_of_none q h)]; exact q, fun b o u q => by rw [upd_ne (ne_of_none q h)]; exact q⟩
theorem Kp.lst {H : Hp} {p : Addr} {xs ys : List V} (h : H p = some (.lst xs)) : Kp H (upd H p (.lst ys)) :=
  ⟨fun b xs q => by rw [upd_ne (ne_of q h (by intro z; cases z))]; exact q, fun b o u q => by rw [upd_ne (ne_of q h (by intro z; cases z))]; exact q⟩
/-- more addresses, the heap kept -/
structure Nx (A A' : List Addr) (H H' : Hp) : Prop where
  ext : ∃ t, A' = A ++ t
  kp : Kp H H'
theorem Nx.refl (A : List Addr) (H : Hp) : Nx A A H H := ⟨⟨[], by simp⟩, Kp.refl H⟩
theorem Nx.trans {A A1 A2 : List Addr} {H H1 H2 : Hp} (a : Nx A A1 H H1) (b : Nx A1 A2 H1 H2) : Nx A A2 H H2 := by
  obtain ⟨t, e⟩ := a.ext
  obtain ⟨u, e2⟩ := b.ext
  exact ⟨⟨t ++ u, by rw [e2, e, List.append_assoc]⟩, a.kp.trans b.kp⟩
theorem Nx.heap {A : List Addr} {H H' : Hp} (h : Kp H H') : Nx A A H H' := ⟨⟨[], by simp⟩, h⟩
theorem Nx.at_ {A A' : List Addr} {H H' : Hp} (x : Nx A A' H H') {n : Nat} {a : Addr} (h : A[n]? = some a) : A'[n]? = some a := by
  obtain ⟨t, e⟩ := x.ext
  rw [e, List.getElem?_append_left (List.getElem?_eq_some_iff.mp h).1]
  exact h
theorem Kp.sqt {H H' : Hp} (k : Kp H H') {a : Addr} {xs : List V} (h : SqT K H a xs) : SqT K H' a xs := by
  rcases h with (h | ⟨o, h⟩) | h
  · exact .inl (.inl (k.tup _ _ h))
  · exact .inl (.inr ⟨o, k.frz _ _ _ h⟩)
  · exact .inr h
theorem TrK.keep {H H' : Hp} (k : Kp H H') {a : Addr} {xs : List V} {ds : List D} (h : TrK H a xs ds) : TrK H' a xs ds := by
  rcases h with h | h
  · exact .inl (k.tup _ _ h)
  · exact .inr h
variable {K}
mutual
theorem RV.mono {A A' : List Addr} {H H' : Hp} (x : Nx A A' H H') : ∀ {d : D} {v : V}, RV K A H v d → RV K A' H' v d
  | .non, _, h => by cases h; exact .non
  | .bl b, _, h => by cases h; exact .bl b
  | .int b, _, h => by cases h; exact .int b
  | .str b, _, h => by cases h; exact .str b
  | .tup ds, _, h => by
    cases h with
    | tup s t r => exact .tup (x.kp.sqt K s) (t.keep x.kp) (RVs.mono x r)
  | .ref n, _, h => by
    cases h with
    | ref e => exact .ref (x.at_ e)
theorem RVs.mono {A A' : List Addr} {H H' : Hp} (x : Nx A A' H H') : ∀ {ds : List D} {vs : List V}, RVs K A H vs ds → RVs K A' H' vs ds
  | [], _, h => by cases h; exact .nil
  | d :: ds, _, h => by
    cases h with
    | cons r rs => exact .cons (RV.mono x r) (RVs.mono x rs)
end
variable {A A' : List Addr} {H H' : Hp}
theorem RVs.length : ∀ {ds : List D} {vs : List V}, RVs K A H vs ds → vs.length = ds.length
  | [], _, h => by cases h; rfl
  | d :: ds, _, h => by
    cases h with
    | cons r rs => simp [RVs.length rs]
theorem RVs.get : ∀ {ds : List D} {vs : List V} {i : Nat} {d : D}, RVs K A H vs ds → ds[i]? = some d → ∃ v, vs[i]? = some v ∧ RV K A H v d
  | [], _, _, _, h, e => by simp at e
  | d :: ds, _, 0, _, h, e => by
    cases h with
    | cons r rs =>
      simp at e
      subst e
      exact ⟨_, rfl, r⟩
  | d :: ds, _, i + 1, _, h, e => by
    cases h with
    | cons r rs =>
      obtain ⟨v, e1, r1⟩ := RVs.get (i := i) rs (by simpa using e)
      exact ⟨v, by simpa using e1, r1⟩
theorem RVs.append : ∀ {ds es : List D} {vs ws : List V}, RVs K A H vs ds → RVs K A H ws es → RVs K A H (vs ++ ws) (ds ++ es)
  | [], _, _, _, h, q => by cases h; exact q
  | d :: ds, _, _, _, h, q => by
    cases h with
    | cons r rs => exact .cons r (RVs.append rs q)
theorem RVs.take : ∀ {ds : List D} {vs : List V} (n : Nat), RVs K A H vs ds → RVs K A H (vs.take n) (ds.take n)
  | _, _, 0, h => by simpa using RVs.nil
  | [], _, n + 1, h => by cases h; exact .nil
  | d :: ds, _, n + 1, h => by
    cases h with
    | cons r rs => exact .cons r (RVs.take n rs)
theorem RVs.drop : ∀ {ds : List D} {vs : List V} (n : Nat), RVs K A H vs ds → RVs K A H (vs.drop n) (ds.drop n)
  | _, _, 0, h => h
  | [], _, n + 1, h => by cases h; exact .nil
  | d :: ds, _, n + 1, h => by
    cases h with
    | cons r rs => exact RVs.drop n rs
theorem RVs.set : ∀ {ds : List D} {vs : List V} (n : Nat) {v : V} {d : D}, RVs K A H vs ds → RV K A H v d → RVs K A H (vs.set n v) (ds.set n d)
  | [], _, _, _, _, h, q => by cases h; exact .nil
  | d :: ds, _, 0, _, _, h, q => by
    cases h with
    | cons r rs => exact .cons q rs
  | d :: ds, _, n + 1, _, _, h, q => by
    cases h with
    | cons r rs => exact .cons r (RVs.set n rs q)
theorem RVs.nil_iff {ds : List D} {vs : List V} (h : RVs K A H vs ds) : vs.isEmpty = ds.isEmpty := by
  cases h <;> rfl
/-- a dict's entries -/
inductive RKs {κ : Type} (K : PySem.W.Frag) (A : List Addr) (H : Hp) : List (κ × V) → List (κ × D) → Prop
  | nil : RKs K A H [] []
  | cons {k : κ} {v : V} {d : D} {ks : List (κ × V)} {l : List (κ × D)} : RV K A H v d → RKs K A H ks l → RKs K A H ((k, v) :: ks) ((k, d) :: l)
theorem RKs.mono {κ : Type} {A A' : List Addr} {H H' : Hp} (x : Nx A A' H H') : ∀ {ks : List (κ × V)} {l : List (κ × D)}, RKs K A H ks l → RKs K A' H' ks l
  | _, _, .nil => .nil
  | _, _, .cons r t => .cons (r.mono x) (RKs.mono x t)
theorem RKs.length {κ : Type} : ∀ {ks : List (κ × V)} {l : List (κ × D)}, RKs K A H ks l → ks.length = l.length
  | _, _, .nil => rfl
  | _, _, .cons r t => by simp [RKs.length t]
theorem RKs.keys {κ : Type} : ∀ {ks : List (κ × V)} {l : List (κ × D)}, RKs K A H ks l → ks.map (·.1) = l.map (·.1)
  | _, _, .nil => rfl
  | _, _, .cons r t => by simp [RKs.keys t]
/-- what stands at a key -/
inductive ROpt (K : PySem.W.Frag) (A : List Addr) (H : Hp) : Option V → Option D → Prop
  | none : ROpt K A H none none
  | some {v : V} {d : D} : RV K A H v d → ROpt K A H (some v) (some d)
theorem RKs.val {κ : Type} [DecidableEq κ] (k : κ) : ∀ {ks : List (κ × V)} {l : List (κ × D)}, RKs K A H ks l → ROpt K A H (valV ks k) (valD l k)
  | _, _, .nil => .none
  | _, _, .cons (k := j) (v := v) (d := d) (ks := ks) (l := l) r t => by
    by_cases e : j = k
    · have e1 : valV ((j, v) :: ks) k = some v := valV_pos e
      have e2 : valD ((j, d) :: l) k = some d := by simp [valD, List.find?_cons, e]
      rw [e1, e2]
      exact .some r
    · have e1 : valV ((j, v) :: ks) k = valV ks k := valV_neg e
      have e2 : valD ((j, d) :: l) k = valD l k := by simp [valD, List.find?_cons, e]
      rw [e1, e2]
      exact RKs.val k t
theorem RKs.any {κ : Type} [DecidableEq κ] (k : κ) : ∀ {ks : List (κ × V)} {l : List (κ × D)}, RKs K A H ks l → (ks.any fun p => decide (p.1 = k)) = l.any fun p => decide (p.1 = k)
  | _, _, .nil => rfl
  | _, _, .cons r t => by rw [List.any_cons, List.any_cons, RKs.any k t]
theorem RKs.append {κ : Type} : ∀ {ks ks' : List (κ × V)} {l l' : List (κ × D)}, RKs K A H ks l → RKs K A H ks' l' → RKs K A H (ks ++ ks') (l ++ l')
  | _, _, _, _, .nil, q => q
  | _, _, _, _, .cons r t, q => .cons r (RKs.append t q)
theorem RKs.repl {κ : Type} [DecidableEq κ] (k : κ) {v : V} {d : D} (q : RV K A H v d) : ∀ {ks : List (κ × V)} {l : List (κ × D)}, RKs K A H ks l → RKs K A H (ks.map fun p => if p.1 = k then (p.1, v) else p) (l.map fun p => if p.1 = k then (p.1, d) else p)
  | _, _, .nil => .nil
  | _, _, .cons (k := j) r t => by
    rw [List.map_cons, List.map_cons]
    by_cases e : j = k
    · rw [if_pos e, if_pos e]
      exact .cons q (RKs.repl k q t)
    · rw [if_neg e, if_neg e]
      exact .cons r (RKs.repl k q t)
theorem RKs.put {κ : Type} [DecidableEq κ] {ks : List (κ × V)} {l : List (κ × D)} (r : RKs K A H ks l) (k : κ) {v : V} {d : D} (q : RV K A H v d) : RKs K A H (putK ks k v) (putD l k d) := by
  unfold putK putD
  rw [r.any k]
  split
  · exact r.repl k q
  · exact r.append (.cons q .nil)
theorem RKs.merge : ∀ {more : List (Key × V)} {m : List (Key × D)} {ks : List (Key × V)} {l : List (Key × D)}, RKs K A H more m → RKs K A H ks l → RKs K A H (mergeK ks more) (mergeD l m)
  | _, _, _, _, .nil, q => q
  | _, _, ks, l, .cons (k := k) (v := v) (d := d) (ks := more) (l := m) r t, q => RKs.merge (more := more) (m := m) (ks := putK ks k v) (l := putD l k d) t (q.put k r)
/-- a list that is read alone: locked, or of the module's own -/
def RdL (K : PySem.W.Frag) (H : Hp) (a : Addr) (xs : List V) : Prop :=
  (∃ o, H a = some (.frz o (.lst xs))) ∨
    ∃ (o : Obj) (its : Array Value) (n : Nat), K.lookup a = some o ∧ o.cls = .type "list" ∧ o.dict = none ∧ o.data = .seq its n ∧ its.size ≤ sizeLine ∧ Vals xs its.toList
theorem RdL.sql {a : Addr} {xs : List V} (h : RdL K H a xs) : SqL K H a xs := by
  rcases h with ⟨o, h⟩ | h
  · exact .inl (.inr ⟨o, h⟩)
  · exact .inr h
/-- an object of the store, as it stands at a -/
def RO (K : PySem.W.Frag) (A : List Addr) (H : Hp) (a : Addr) : O → Prop
  | .lst l => ∃ xs, H a = some (.lst xs) ∧ RVs K A H xs l
  | .ro l => ∃ xs, RdL K H a xs ∧ RVs K A H xs l
  | .dk l => ∃ ks, H a = some (.dK ks) ∧ RKs K A H ks l
  | .dt l => ∃ ks, H a = some (.dT ks) ∧ RKs K A H ks l
  | .ins _ _ => False
/-- may be changed -/
def mutO : O → Bool
  | .ro _ => false
  | _ => true
structure RS (K : PySem.W.Frag) (A : List Addr) (H : Hp) (s : Store) : Prop where
  len : A.length = s.length
  inj : ∀ (n m : Nat) (a : Addr) (o p : O), A[n]? = some a → A[m]? = some a → s[n]? = some o → s[m]? = some p → mutO o = true → mutO p = true → n = m
  at_ : ∀ (n : Nat) (a : Addr) (o : O), A[n]? = some a → s[n]? = some o → RO K A H a o
theorem RS.addr {s : Store} (r : RS K A H s) {n : Nat} {o : O} (h : s[n]? = some o) : ∃ a, A[n]? = some a ∧ RO K A H a o := by
  have hl : n < A.length := by rw [r.len]; exact (List.getElem?_eq_some_iff.mp h).1
  exact ⟨A[n], by simp [hl], r.at_ n _ o (by simp [hl]) h⟩
theorem RO.there {a : Addr} {o : O} (h : RO K A H a o) (m : mutO o = true) : H a ≠ none := by
  cases o with
  | lst l => obtain ⟨xs, e, _⟩ := h; rw [e]; simp
  | ro l => cases m
  | dk l => obtain ⟨ks, e, _⟩ := h; rw [e]; simp
  | dt l => obtain ⟨ks, e, _⟩ := h; rw [e]; simp
  | ins _ _ => exact h.elim
theorem RdL.keep {a : Addr} {xs : List V} (k : Kp H H') (h : RdL K H a xs) : RdL K H' a xs := by
  rcases h with ⟨o, h⟩ | h
  · exact .inl ⟨o, k.frz _ _ _ h⟩
  · exact .inr h
/-- all that is tracked stays -/
theorem same_kp (h : Same H H') : Kp H H' := ⟨fun b xs q => h _ _ q, fun b o u q => h _ _ q⟩
theorem same_new {p : Addr} {o : HO} (h : H p = none) : Same H (upd H p o) := fun b u q => by rw [upd_ne (ne_of_none q h)]; exact q
theorem RO.mono {a : Addr} {o : O} (h : RO K A H a o) (e : ∃ t, A' = A ++ t) (k : Same H H') : RO K A' H' a o := by
  have nx : Nx A A' H H' := ⟨e, same_kp k⟩
  cases o with
  | lst l => obtain ⟨xs, q, r⟩ := h; exact ⟨xs, k _ _ q, r.mono nx⟩
  | ro l => obtain ⟨xs, q, r⟩ := h; exact ⟨xs, q.keep (same_kp k), r.mono nx⟩
  | dk l => obtain ⟨ks, q, r⟩ := h; exact ⟨ks, k _ _ q, r.mono nx⟩
  | dt l => obtain ⟨ks, q, r⟩ := h; exact ⟨ks, k _ _ q, r.mono nx⟩
  | ins _ _ => exact h.elim
theorem RS.same {s : Store} (r : RS K A H s) (k : Same H H') : RS K A H' s := ⟨r.len, r.inj, fun n a o h1 h2 => (r.at_ n a o h1 h2).mono ⟨[], by simp⟩ k⟩
/-- a new object -/
theorem RS.new {s : Store} {p : Addr} {o : HO} {x : O} (r : RS K A H s) (hp : H p = none) (m : mutO x = true) (new : RO K (A ++ [p]) (upd H p o) p x) : RS K (A ++ [p]) (upd H p o) (s ++ [x]) := by
  have old : ∀ {n : Nat} {a : Addr} {y : O}, (A ++ [p])[n]? = some a → (s ++ [x])[n]? = some y → (n < s.length ∧ A[n]? = some a ∧ s[n]? = some y) ∨ (n = s.length ∧ a = p ∧ y = x) := by
    intro n a y h1 h2
    by_cases hn : n < s.length
    · refine .inl ⟨hn, ?_, ?_⟩
      · rw [List.getElem?_append_left (by rw [r.len]; exact hn)] at h1; exact h1
      · rw [List.getElem?_append_left hn] at h2; exact h2
    · have hl := (List.getElem?_eq_some_iff.mp h2).1
      rw [List.length_append, List.length_singleton] at hl
      have e : n = s.length := by omega
      subst e
      refine .inr ⟨rfl, ?_, ?_⟩
      · rw [List.getElem?_append_right (by rw [r.len]; exact Nat.le_refl _), r.len, Nat.sub_self] at h1
        simpa using h1.symm
      · rw [List.getElem?_append_right (Nat.le_refl _), Nat.sub_self] at h2
        simpa using h2.symm
  refine ⟨by simp [r.len], fun n k a u v h1 h2 h3 h4 m1 m2 => ?_, fun n a y h1 h2 => ?_⟩
  · rcases old h1 h3 with ⟨_, a1, b1⟩ | ⟨e1, a1, b1⟩ <;> rcases old h2 h4 with ⟨_, a2, b2⟩ | ⟨e2, a2, b2⟩
    · exact r.inj n k a u v a1 a2 b1 b2 m1 m2
    · subst a2
      exact absurd hp ((r.at_ n _ u a1 b1).there m1)
    · subst a1
      exact absurd hp ((r.at_ k _ v a2 b2).there m2)
    · rw [e1, e2]
  · rcases old h1 h2 with ⟨_, a1, b1⟩ | ⟨e1, a1, b1⟩
    · exact (r.at_ n a y a1 b1).mono ⟨[p], rfl⟩ (same_new hp)
    · subst a1 b1
      exact new
/-- an object is changed -/
theorem RS.seto {s : Store} {n : Nat} {a : Addr} {x y : O} {u v : HO} (r : RS K A H s) (ha : A[n]? = some a) (hs : s[n]? = some x) (hx : H a = some u) (hm : mutO x = true) (hmy : mutO y = true) (kp : Kp H (upd H a v)) (hy : RO K A (upd H a v) a y) : RS K A (upd H a v) (s.set n y) := by
  have hn : n < s.length := (List.getElem?_eq_some_iff.mp hs).1
  have at' : ∀ {k : Nat} {z : O}, (s.set n y)[k]? = some z → (k = n ∧ z = y) ∨ (k ≠ n ∧ s[k]? = some z) := by
    intro k z h
    by_cases e : k = n
    · subst e
      rw [List.getElem?_set_self hn] at h
      exact .inl ⟨rfl, (Option.some.inj h).symm⟩
    · rw [List.getElem?_set_ne (fun z => e z.symm)] at h
      exact .inr ⟨e, h⟩
  refine ⟨by simp [r.len], fun i j b p q h1 h2 h3 h4 m1 m2 => ?_, fun i b z h1 h2 => ?_⟩
  · rcases at' h3 with ⟨e1, q1⟩ | ⟨e1, q1⟩ <;> rcases at' h4 with ⟨e2, q2⟩ | ⟨e2, q2⟩
    · rw [e1, e2]
    · subst e1
      exact r.inj i j b x q h1 h2 hs q2 hm m2
    · subst e2
      exact r.inj i j b p x h1 h2 q1 hs m1 hm
    · exact r.inj i j b p q h1 h2 q1 q2 m1 m2
  · rcases at' h2 with ⟨e1, q1⟩ | ⟨e1, q1⟩
    · subst e1 q1
      rw [ha] at h1
      cases h1
      exact hy
    · have o := r.at_ i b z h1 q1
      have ne : mutO z = true → b ≠ a := fun m t => e1 (r.inj i n a z x (t ▸ h1) ha q1 hs m hm)
      cases z with
      | lst w =>
        obtain ⟨zs, e, q⟩ := o
        exact ⟨zs, by rw [upd_ne (ne rfl)]; exact e, q.mono (Nx.heap kp)⟩
      | ro w =>
        obtain ⟨zs, e, q⟩ := o
        exact ⟨zs, e.keep kp, q.mono (Nx.heap kp)⟩
      | dk w =>
        obtain ⟨ks, e, q⟩ := o
        exact ⟨ks, by rw [upd_ne (ne rfl)]; exact e, q.mono (Nx.heap kp)⟩
      | dt w =>
        obtain ⟨ks, e, q⟩ := o
        exact ⟨ks, by rw [upd_ne (ne rfl)]; exact e, q.mono (Nx.heap kp)⟩
      | ins _ _ => exact o.elim
/-- a list is changed -/
theorem RS.setl {s : Store} {n : Nat} {a : Addr} {xs ys : List V} {l m : List D} (r : RS K A H s) (ha : A[n]? = some a) (hs : s[n]? = some (.lst l)) (hx : H a = some (.lst xs)) (hy : RVs K A H ys m) : RS K A (upd H a (.lst ys)) (s.set n (.lst m)) :=
  r.seto ha hs hx rfl rfl (Kp.lst hx) ⟨ys, upd_same, hy.mono (Nx.heap (Kp.lst hx))⟩
theorem Kp.dk {p : Addr} {ks ls : List (Key × V)} (h : H p = some (.dK ks)) : Kp H (upd H p (.dK ls)) :=
  ⟨fun b xs q => by rw [upd_ne (ne_of q h (by intro z; cases z))]; exact q, fun b o u q => by rw [upd_ne (ne_of q h (by intro z; cases z))]; exact q⟩
theorem Kp.dt {p : Addr} {ks ls : List (List Key × V)} (h : H p = some (.dT ks)) : Kp H (upd H p (.dT ls)) :=
  ⟨fun b xs q => by rw [upd_ne (ne_of q h (by intro z; cases z))]; exact q, fun b o u q => by rw [upd_ne (ne_of q h (by intro z; cases z))]; exact q⟩
theorem Nx.new {p : Addr} {o : HO} (h : H p = none) : Nx A (A ++ [p]) H (upd H p o) := ⟨⟨[p], rfl⟩, Kp.new h⟩
theorem at_last {s : Store} (r : RS K A H s) (p : Addr) : (A ++ [p])[s.length]? = some p := by rw [← r.len]; simp
/-! ### slots -/
structure RSl (K : PySem.W.Frag) (A : List Addr) (H : Hp) (σ : L2.St) (ρ : Env) : Prop where
  len : σ.length = ρ.length
  at_ : ∀ (i : Nat) (d : D), ρ[i]? = some (some d) → ∃ v, σ[i]? = some (some v) ∧ RV K A H v d
theorem RSl.mono {σ : L2.St} {ρ : Env} (r : RSl K A H σ ρ) (x : Nx A A' H H') : RSl K A' H' σ ρ := ⟨r.len, fun i d h => let ⟨v, e, q⟩ := r.at_ i d h; ⟨v, e, q.mono x⟩⟩
theorem RSl.set {σ : L2.St} {ρ : Env} (r : RSl K A H σ ρ) {v : V} {d : D} (i : Nat) (q : RV K A H v d) : RSl K A H (σ.set i (some v)) (ρ.set i (some d)) := by
  refine ⟨by simp [r.len], fun j e h => ?_⟩
  by_cases ij : i = j
  · subst ij
    by_cases hl : i < ρ.length
    · rw [List.getElem?_set_self hl] at h
      cases h
      exact ⟨v, by rw [List.getElem?_set_self (by rw [r.len]; exact hl)], q⟩
    · rw [List.getElem?_eq_none (by simp; omega)] at h
      cases h
  · rw [List.getElem?_set_ne ij] at h ⊢
    exact r.at_ j e h
theorem RSl.unset {σ : L2.St} {ρ : Env} (r : RSl K A H σ ρ) (i : Nat) : RSl K A H (σ.set i none) (ρ.set i none) := by
  refine ⟨by simp [r.len], fun j e h => ?_⟩
  by_cases ij : i = j
  · subst ij
    by_cases hl : i < ρ.length
    · rw [List.getElem?_set_self hl] at h
      cases h
    · rw [List.getElem?_eq_none (by simp; omega)] at h
      cases h
  · rw [List.getElem?_set_ne ij] at h ⊢
    exact r.at_ j e h
/-- a slot that the language does not know of -/
theorem RSl.hide {σ : L2.St} {ρ : Env} (r : RSl K A H σ ρ) (i : Nat) (o : Option V) : RSl K A H (σ.set i o) (ρ.set i none) := by
  refine ⟨by simp [r.len], fun j e h => ?_⟩
  by_cases ij : i = j
  · subst ij
    by_cases hl : i < ρ.length
    · rw [List.getElem?_set_self hl] at h
      cases h
    · rw [List.getElem?_eq_none (by simp; omega)] at h
      cases h
  · rw [List.getElem?_set_ne ij] at h ⊢
    exact r.at_ j e h
theorem RSl.wipe {σ : L2.St} {ρ : Env} (r : RSl K A H σ ρ) : ∀ vs : List Nat, RSl K A H (L2.wipe σ vs) (wipeD ρ vs)
  | [] => r
  | v :: vs => (RSl.wipe r vs).unset v
/-! ### what is wanted behind a computation -/
/-- an exception: its class's address, its dict -/
def RX (K : PySem.W.Frag) (A : List Addr) (H : Hp) (x : Exn) (c : Value) (dd : Option Addr) : Prop :=
  c = .ref (He.ga K x.cls) ∧ x.cls ∈ Xs.names ∧ (x.fs = [] → dd = none) ∧ (x.fs ≠ [] → ∃ a fs, dd = some a ∧ H a = some (.xd fs) ∧ ∀ f d, x.fs.lookup f = some d → ∃ v, fs.lookup f = some v ∧ RV K A H v d)
abbrev XW := Value → Option Addr → Hp → Prop
def Post {α β : Type} (K : PySem.W.Frag) (R : List Addr → Hp → β → α → Prop) (A : List Addr) (H : Hp) (X : XW) (Q : β → Hp → Prop) : Res α → Prop
  | .ok d s => ∀ v H' A', Nx A A' H H' → RS K A' H' s → R A' H' v d → Q v H'
  | .ex x s => ∀ H' A' c dd, Nx A A' H H' → RS K A' H' s → RX K A' H' x c dd → X c dd H'
  | .bad => False
theorem Post.re {α β : Type} {R : List Addr → Hp → β → α → Prop} {X : XW} {Q : β → Hp → Prop} {r : Res α} (h : Post K R A H X Q r) (x : Nx A A' H H') : Post K R A' H' X Q r := by
  cases r with
  | ok d s => exact fun v H2 A2 y rs q => h v H2 A2 (x.trans y) rs q
  | ex e s => exact fun H2 A2 c dd y rs q => h H2 A2 c dd (x.trans y) rs q
  | bad => exact h
theorem Post.imp {α β : Type} {R : List Addr → Hp → β → α → Prop} {X : XW} {Q Q' : β → Hp → Prop} {r : Res α} (h : Post K R A H X Q r) (x : ∀ v H', Q v H' → Q' v H') : Post K R A H X Q' r := by
  cases r with
  | ok d s => exact fun v H2 A2 y rs q => x _ _ (h v H2 A2 y rs q)
  | ex e s => exact h
  | bad => exact h
theorem Post.bnd {α β γ δ : Type} {R1 : List Addr → Hp → γ → α → Prop} {R2 : List Addr → Hp → δ → β → Prop} {X : XW} {Q : δ → Hp → Prop} {m : M α} {f : α → M β} {s : Store} (h : Post K R2 A H X Q (bnd m f s)) :
    Post K R1 A H X (fun x H1 => ∃ A1 s1 d, Nx A A1 H H1 ∧ RS K A1 H1 s1 ∧ R1 A1 H1 x d ∧ Post K R2 A1 H1 X Q (f d s1)) (m s) := by
  unfold RI.bnd at h
  cases e : m s with
  | ok d s1 =>
    rw [e] at h
    exact fun v H1 A1 x rs r => ⟨A1, s1, d, x, rs, r, h.re x⟩
  | ex y s1 =>
    rw [e] at h
    exact h
  | bad =>
    rw [e] at h
    exact h
end
end RI
set_option maxRecDepth 100000
set_option maxHeartbeats 4000000
/-! RC: the operations on values keep what the machine does. -/
namespace RI
open PySem L2 PyProof.Rows
variable [Xs]
section
variable {K : PySem.W.Frag} {A : List Addr} {H : Hp} {s : Store}
theorem most_line : most < sizeLine := by rw [sizeLine_eq]; decide
theorem le_line {n : Nat} (h : n ≤ most) : n ≤ sizeLine := Nat.le_trans h (Nat.le_of_lt most_line)
theorem lt_line {n : Nat} (h : n ≤ most) : n < sizeLine := Nat.lt_of_le_of_lt h most_line
theorem fits_log {i : Int} (h : fits i) : i.natAbs.log2 < 8000 := PySem.Flt.log2_lt_of (by decide) h
/-! ### sequences -/
theorem lst_sq {a : Addr} {d : D} {l : List D} (r : RS K A H s) (v : RV K A H (.ref a) d) (h : lstOf s d = some l) : ∃ xs, SqL K H a xs ∧ RVs K A H xs l := by
  cases v with
  | tup _ _ _ => cases h
  | @ref n a e =>
    unfold lstOf at h
    dsimp only at h
    cases q : s[n]? with
    | none => rw [q] at h; cases h
    | some o =>
      rw [q] at h
      have ro := r.at_ n a o e q
      cases o with
      | lst m =>
        cases h
        obtain ⟨xs, e1, e2⟩ := ro
        exact ⟨xs, SqL.of e1, e2⟩
      | ro m =>
        cases h
        obtain ⟨xs, e1, e2⟩ := ro
        exact ⟨xs, e1.sql, e2⟩
      | _ => cases h
theorem lst_ref {v : V} {d : D} {l : List D} (rv : RV K A H v d) (h : lstOf s d = some l) : ∃ a n, v = .ref a ∧ d = .ref n ∧ A[n]? = some a := by
  cases d with
  | ref n => cases rv with | ref e => exact ⟨_, n, rfl, rfl, e⟩
  | _ => cases h
theorem seq_sq {v : V} {d : D} {l : List D} (r : RS K A H s) (rv : RV K A H v d) (h : seqOf s d = some l) : ∃ a xs, v = .ref a ∧ RVs K A H xs l ∧ (SqL K H a xs ∨ SqT K H a xs) := by
  cases d with
  | tup ds =>
    cases h
    cases rv with
    | tup e _ q => exact ⟨_, _, rfl, q, .inr e⟩
  | ref n =>
    obtain ⟨a, n, rfl, e, _⟩ := lst_ref rv (show lstOf s (.ref n) = some l from h)
    obtain ⟨xs, e1, e2⟩ := lst_sq r rv (show lstOf s (.ref _) = some l from h)
    exact ⟨a, xs, rfl, e2, .inl e1⟩
  | _ => cases h
/-! ### data as a whole -/
theorem optAll_some {α : Type} : ∀ {l : List (Option α)} {r : List α}, optAll l = some r → l = r.map some
  | [], r, h => by cases h; rfl
  | o :: l, r, h => by
    unfold optAll at h
    cases o with
    | none => cases h
    | some x =>
      cases q : optAll l with
      | none => rw [q] at h; cases h
      | some xs =>
        rw [q] at h
        cases h
        rw [optAll_some q]
        rfl
theorem dps_of {f : D → Option PyData} : ∀ {ds : List D} {vs : List V} {ps : List PyData}, (∀ d ∈ ds, ∀ v p, RV K A H v d → f d = some p → Dp K H v p) → RVs K A H vs ds → optAll (ds.map f) = some ps → DpAll K H vs ps
  | [], _, ps, _, h, e => by cases h; cases e; exact .nil
  | d :: ds, _, ps, g, h, e => by
    cases h with
    | cons r rs =>
      simp only [List.map_cons] at e
      unfold optAll at e
      cases q : f d with
      | none => rw [q] at e; cases e
      | some x =>
        cases q2 : optAll (ds.map f) with
        | none => rw [q, q2] at e; cases e
        | some xs =>
          rw [q, q2] at e
          cases e
          exact .cons (g d (List.mem_cons_self ..) _ _ r q) (dps_of (fun d' hd => g d' (List.mem_cons_of_mem _ hd)) rs q2)
theorem dat_dp (r : RS K A H s) : ∀ (n : Nat) {d : D} {v : V} {p : PyData}, RV K A H v d → dat s n d = some p → Dp K H v p
  | n, .non, v, p, rv, h => by
    cases n <;> (cases h; cases rv; exact .non)
  | n, .bl b, v, p, rv, h => by
    cases n <;> (cases h; cases rv; exact .bl b)
  | n, .int b, v, p, rv, h => by
    cases n <;> (cases h; cases rv; exact .int b)
  | n, .str b, v, p, rv, h => by
    cases n <;> (cases h; cases rv; exact .str b)
  | 0, .tup l, v, p, rv, h => by cases h
  | 0, .ref k, v, p, rv, h => by cases h
  | n + 1, .tup l, v, p, rv, h => by
    unfold dat at h
    cases q : optAll (l.map (dat s n)) with
    | none => rw [q] at h; cases h
    | some ps =>
      rw [q] at h
      cases h
      cases rv with
      | tup e _ rs => exact .tup e (dps_of (fun d _ v p a b => dat_dp r n a b) rs q)
  | n + 1, .ref k, v, p, rv, h => by
    unfold dat at h
    cases q1 : lstOf s (.ref k) with
    | none => rw [q1] at h; cases h
    | some l =>
      rw [q1] at h
      simp only [Option.bind_some] at h
      cases q : optAll (l.map (dat s n)) with
      | none => rw [q] at h; cases h
      | some ps =>
        rw [q] at h
        cases h
        obtain ⟨a, m, rfl, em, ea⟩ := lst_ref rv q1
        obtain ⟨xs, e, rs⟩ := lst_sq r rv q1
        exact .lst e (dps_of (fun d _ v p a b => dat_dp r n a b) rs q)
/-! ### flat things -/
theorem flat_to {v : V} {d : D} (rv : RV K A H v d) (h : flatD d = true) : v = toV d ∧ flatV v = true := by
  cases rv with
  | non => exact ⟨rfl, rfl⟩
  | bl b => exact ⟨rfl, rfl⟩
  | int b => exact ⟨rfl, rfl⟩
  | str b => exact ⟨rfl, rfl⟩
  | tup _ _ _ => cases h
  | ref _ => cases h
theorem flat_all : ∀ {ds : List D} {vs : List V}, RVs K A H vs ds → ds.all flatD = true → vs = ds.map toV ∧ vs.all flatV = true
  | [], _, h, _ => by cases h; exact ⟨rfl, rfl⟩
  | d :: ds, _, h, q => by
    cases h with
    | cons r rs =>
      rw [List.all_cons, Bool.and_eq_true] at q
      obtain ⟨e1, f1⟩ := flat_to r q.1
      obtain ⟨e2, f2⟩ := flat_all rs q.2
      exact ⟨by rw [e1, e2]; rfl, by rw [List.all_cons, f1, f2]; rfl⟩
/-! ### operators -/
/-- a two-place operation: what it computes stands behind it -/
def rOp (K : PySem.W.Frag) (f : D → D → M D) : R2 := fun x y H Q => ∃ A s d1 d2, RS K A H s ∧ RV K A H x d1 ∧ RV K A H y d2 ∧ Post K (RV K) A H (fun _ _ _ => False) Q (f d1 d2 s)
variable {X : Cx}
theorem op_fdivX : OpR X (binaryOp .FloorDiv) (rI (fun _ j => j ≠ 0 ∧ j.natAbs.log2 < 9000) fun i j => .int (i.fdiv j)) := opI fun _ _ _ _ _ _ _ hc q => floordiv_int hc.1 q (.inl (PyProof.noPylong_of_log2 hc.2))
theorem post_ok {α β : Type} {R : List Addr → Hp → β → α → Prop} {W : XW} {Q : β → Hp → Prop} {d : α} {v : β} (h : Post K R A H W Q (.ok d s)) (rs : RS K A H s) (r : R A H v d) : Q v H := h v H A (Nx.refl A H) rs r
theorem mulOk_of {z : Str} {n : Int} (h : 1 ≤ n ∧ n ≤ 100000 ∧ z.length ≤ 100000 ∧ z.length * n.toNat ≤ 1000000) : MulOk z n := by
  obtain ⟨h1, h2, h3, h4⟩ := h
  refine ⟨?_, fun _ _ g => ?_, fun _ _ => ?_⟩
  · rw [decide_eq_false (by omega), decide_eq_false (by omega)]
    rfl
  · have e : (z.length : Int) ≤ (2 ^ 63 - 1) / n := by
      refine (Int.le_ediv_iff_mul_le (by omega)).mpr ?_
      have q : (z.length : Int) * n ≤ 100000 * 100000 := Int.mul_le_mul (by omega) h2 (by omega) (by omega)
      exact Int.le_trans q (by decide)
    exact absurd e (Int.not_le.mpr g)
  · unfold Builtin.Str.tooLong
    refine decide_eq_false ?_
    have := most_line
    have e : most = 16000000 := rfl
    omega
theorem RVs.nilL {ds : List D} (h : RVs K A H [] ds) : ds = [] := by cases h; rfl
theorem RVs.nilR {vs : List V} (h : RVs K A H vs []) : vs = [] := by cases h; rfl
theorem RVs.flat_rep {vs : List V} {ds : List D} (h : RVs K A H vs ds) : ∀ n : Nat, RVs K A H (List.replicate n vs).flatten (List.replicate n ds).flatten
  | 0 => .nil
  | n + 1 => by
    rw [List.replicate_succ, List.replicate_succ, List.flatten_cons, List.flatten_cons]
    exact h.append (RVs.flat_rep h n)
theorem bin_tt {op : Operator} {l m : List D} {pins : List (Addr × Obj)} {st : Shared} {σ : L2.St} {x y : V} {v u : Value} {Q : VK} (I : Inv X pins σ H st) (rx : RelV x v) (ry : RelV y u) (rs : RS X.K A H s) (r1 : RV X.K A H x (.tup l)) (r2 : RV X.K A H y (.tup m))
    (P : Post X.K (RV X.K) A H (fun _ _ _ => False) Q (binD op (.tup l) (.tup m) s)) : wpAny (model X.prog X.w) X.A (binaryOp op v u) (EP X pins σ Q) X.xe st := by
  by_cases o : op = .Add
  · subst o
    by_cases c : l.length + m.length ≤ most
    · have P2 : Post X.K (RV X.K) A H (fun _ _ _ => False) Q (.ok (.tup (l ++ m)) s) := by
        have z : binD .Add (.tup l) (.tup m) = ret (.tup (l ++ m)) := if_pos c
        rw [z] at P
        exact P
      cases r1 with
      | @tup a xs _ s1 t1 q1 =>
        cases r2 with
        | @tup b ys _ s2 t2 q2 =>
          refine op_catA pins st σ H _ _ v u Q I rx ry ⟨a, b, xs, ys, rfl, rfl, s1, s2, ?_, fun e => ?_, fun _ e => ?_, fun _ _ p hp => ?_⟩
          · rw [q1.length, q2.length]; exact le_line c
          · subst e
            have e := q1.nilL
            subst e
            exact post_ok P2 rs (.tup s2 t2 q2)
          · subst e
            have e := q2.nilL
            subst e
            rw [List.append_nil] at P2
            exact post_ok P2 rs (.tup s1 t1 q1)
          · have nx : Nx A A H (upd H p (.tup (xs ++ ys))) := Nx.heap (Kp.new hp)
            exact P2 (.ref p) _ A nx (rs.same (same_new hp)) (RV.tup (SqT.of upd_same) (.inl upd_same) ((q1.append q2).mono nx))
    · exfalso
      have z : binD .Add (.tup l) (.tup m) = badM := if_neg c
      rw [z] at P
      exact P
  · exfalso
    cases op <;> first
      | exact absurd rfl o
      | exact P
theorem bin_ti {op : Operator} {l : List D} {k : Int} {pins : List (Addr × Obj)} {st : Shared} {σ : L2.St} {x y : V} {v u : Value} {Q : VK} (I : Inv X pins σ H st) (rx : RelV x v) (ry : RelV y u) (rs : RS X.K A H s) (r1 : RV X.K A H x (.tup l)) (r2 : RV X.K A H y (.int k))
    (P : Post X.K (RV X.K) A H (fun _ _ _ => False) Q (binD op (.tup l) (.int k) s)) : wpAny (model X.prog X.w) X.A (binaryOp op v u) (EP X pins σ Q) X.xe st := by
  cases op <;> first
    | (by_cases c : l.isEmpty = false ∧ 1 ≤ k ∧ k ≤ 1000 ∧ l.length ≤ 1000
       · have P2 : Post X.K (RV X.K) A H (fun _ _ _ => False) Q (.ok (.tup (List.replicate k.toNat l).flatten) s) := by
           have z : binD .Mult (.tup l) (.int k) = ret (.tup (List.replicate k.toNat l).flatten) := if_pos c
           rw [z] at P
           exact P
         cases r2
         cases r1 with
         | @tup a xs _ s1 t1 q1 =>
           by_cases c1 : k = 1
           · subst c1
             rw [show (List.replicate (1 : Int).toNat l).flatten = l by simp [List.replicate]] at P2
             exact op_repT1 pins st σ H _ _ v u Q I rx ry ⟨a, xs, rfl, rfl, s1, post_ok P2 rs (.tup s1 t1 q1)⟩
           refine op_repT pins st σ H _ _ v u Q I rx ry ⟨a, k, xs, rfl, rfl, s1, fun e => ?_, by have := c.2.1; omega, c.2.2.1, by rw [q1.length]; exact c.2.2.2, fun p hp => ?_⟩
           · subst e
             rw [q1.nilL] at c
             exact absurd c.1 (by decide)
           · have nx : Nx A A H (upd H p (.tup (List.replicate k.toNat xs).flatten)) := Nx.heap (Kp.new hp)
             exact P2 (.ref p) _ A nx (rs.same (same_new hp)) (RV.tup (SqT.of upd_same) (.inl upd_same) ((q1.flat_rep _).mono nx))
       · exfalso
         have z : binD .Mult (.tup l) (.int k) = badM := if_neg c
         rw [z] at P
         exact P)
    | exact absurd P (fun z => z)
theorem bin_si {op : Operator} {z : Str} {n : Int} {pins : List (Addr × Obj)} {st : Shared} {σ : L2.St} {x y : V} {v u : Value} {Q : VK} (I : Inv X pins σ H st) (rx : RelV x v) (ry : RelV y u) (rs : RS X.K A H s) (r1 : RV X.K A H x (.str z)) (r2 : RV X.K A H y (.int n))
    (P : Post X.K (RV X.K) A H (fun _ _ _ => False) Q (binD op (.str z) (.int n) s)) : wpAny (model X.prog X.w) X.A (binaryOp op v u) (EP X pins σ Q) X.xe st := by
  cases r1
  cases r2
  cases op <;> first
    | (by_cases c : 1 ≤ n ∧ n ≤ 100000 ∧ z.length ≤ 100000 ∧ z.length * n.toNat ≤ 1000000
       · have P2 : Post X.K (RV X.K) A H (fun _ _ _ => False) Q (.ok (.str (Txt.mul z n)) s) := by
           have e : binD .Mult (.str z) (.int n) = ret (.str (Txt.mul z n)) := if_pos c
           rw [e] at P
           exact P
         exact op_repS pins st σ H _ _ v u Q I rx ry ⟨z, n, rfl, rfl, mulOk_of c, post_ok P2 rs (.str _)⟩
       · exfalso
         have e : binD .Mult (.str z) (.int n) = badM := if_neg c
         rw [e] at P
         exact P)
    | exact absurd P (fun z => z)
theorem bin_ri {op : Operator} {i : Nat} {k : Int} {pins : List (Addr × Obj)} {st : Shared} {σ : L2.St} {x y : V} {v u : Value} {Q : VK} (I : Inv X pins σ H st) (rx : RelV x v) (ry : RelV y u) (rs : RS X.K A H s) (r1 : RV X.K A H x (.ref i)) (r2 : RV X.K A H y (.int k))
    (P : Post X.K (RV X.K) A H (fun _ _ _ => False) Q (binD op (.ref i) (.int k) s)) : wpAny (model X.prog X.w) X.A (binaryOp op v u) (EP X pins σ Q) X.xe st := by
  cases r1 with
  | @ref _ a e1 =>
    cases r2
    cases op <;> first
      | (cases q1 : s[i]? with
         | none =>
           exfalso
           simp only [binD, q1] at P
           exact P
         | some o1 =>
           cases o1 with
           | lst l =>
             by_cases c : -(2 ^ 63) ≤ k ∧ k < 2 ^ 63 ∧ l.length * k.toNat ≤ most
             · simp only [binD, q1, if_pos c] at P
               obtain ⟨xs, h1, rx1⟩ := rs.at_ i a _ e1 q1
               refine op_rep pins st σ H _ _ v u Q I rx ry ⟨a, k, xs, rfl, rfl, h1, c.1, c.2.1, ?_, fun p hp => ?_⟩
               · rw [rx1.length]
                 exact le_line c.2.2
               · have nx : Nx A (A ++ [p]) H (upd H p (.lst (List.replicate k.toNat xs).flatten)) := Nx.new hp
                 exact P (.ref p) _ (A ++ [p]) nx (rs.new hp rfl ⟨_, upd_same, (rx1.flat_rep _).mono nx⟩) (.ref (at_last rs p))
             · exfalso
               simp only [binD, q1, if_neg c] at P
               exact P
           | _ => exfalso; simp only [binD, q1] at P; exact P)
      | (exfalso; exact P)
      | (exfalso; simp only [binD] at P; exact P)
theorem op_bin {op : Operator} : OpR X (binaryOp op) (rOp X.K (binD op)) := by
  rintro pins st σ H x y v u Q I rx ry ⟨A, s, d1, d2, rs, r1, r2, P⟩
  cases d1 with
  | int i =>
    cases d2 with
    | int j =>
      cases r1
      cases r2
      have P' : Post X.K (RV X.K) A H (fun _ _ _ => False) Q (ofO ((binI op i j).map D.int) s) := P
      cases op <;> first
        | exact op_add pins st σ H _ _ v u Q I rx ry ⟨i, j, rfl, rfl, post_ok P' rs (.int _)⟩
        | exact op_sub pins st σ H _ _ v u Q I rx ry ⟨i, j, rfl, rfl, post_ok P' rs (.int _)⟩
        | (by_cases c : fits i ∧ fits j
           · have P2 : Post X.K (RV X.K) A H (fun _ _ _ => False) Q (.ok (.int (i * j)) s) := by
               have z : binI .Mult i j = some (i * j) := if_pos c
               rw [z] at P'
               exact P'
             refine op_mulW pins st σ H _ _ v u Q I rx ry ⟨i, j, rfl, rfl, ?_, post_ok P2 rs (.int _)⟩
             have a := fits_log c.1
             have b := fits_log c.2
             unfold CMulW
             omega
           · exfalso
             have z : binI .Mult i j = none := if_neg c
             rw [z] at P'
             exact P')
        | (by_cases c : j ≠ 0 ∧ fits j
           · have P2 : Post X.K (RV X.K) A H (fun _ _ _ => False) Q (.ok (.int (i.fdiv j)) s) := by
               have z : binI .FloorDiv i j = some (i.fdiv j) := if_pos c
               rw [z] at P'
               exact P'
             exact op_fdivX pins st σ H _ _ v u Q I rx ry ⟨i, j, rfl, rfl, ⟨c.1, Nat.lt_trans (fits_log c.2) (by decide)⟩, post_ok P2 rs (.int _)⟩
           · exfalso
             have z : binI .FloorDiv i j = none := if_neg c
             rw [z] at P'
             exact P')
        | (by_cases c : j ≠ 0
           · have P2 : Post X.K (RV X.K) A H (fun _ _ _ => False) Q (.ok (.int (i.fmod j)) s) := by
               have z : binI .Mod i j = some (i.fmod j) := if_pos c
               rw [z] at P'
               exact P'
             exact op_modN pins st σ H _ _ v u Q I rx ry ⟨i, j, rfl, rfl, c, post_ok P2 rs (.int _)⟩
           · exfalso
             have z : binI .Mod i j = none := if_neg c
             rw [z] at P'
             exact P')
        | (by_cases c : 0 ≤ j ∧ j ≤ 4000 ∧ i.natAbs < 2 ^ 64
           · have P2 : Post X.K (RV X.K) A H (fun _ _ _ => False) Q (.ok (.int (i ^ j.toNat)) s) := by
               have z : binI .Pow i j = some (i ^ j.toNat) := if_pos c
               rw [z] at P'
               exact P'
             exact op_pow pins st σ H _ _ v u Q I rx ry ⟨i, j, rfl, rfl, ⟨c.1, by omega, c.2.2⟩, post_ok P2 rs (.int _)⟩
           · exfalso
             have z : binI .Pow i j = none := if_neg c
             rw [z] at P'
             exact P')
        | exact absurd P' (fun z => z)
    | _ => exact absurd P (fun z => z)
  | str i =>
    cases d2 with
    | str j =>
      cases r1
      cases r2
      cases op <;> first
        | (by_cases c : i.length + j.length ≤ most
           · have P2 : Post X.K (RV X.K) A H (fun _ _ _ => False) Q (.ok (.str (i ++ j)) s) := by
               have z : binD .Add (.str i) (.str j) = ret (.str (i ++ j)) := if_pos c
               rw [z] at P
               exact P
             exact op_add_str pins st σ H _ _ v u Q I rx ry ⟨i, j, rfl, rfl, le_line c, post_ok P2 rs (.str _)⟩
           · exfalso
             have z : binD .Add (.str i) (.str j) = badM := if_neg c
             rw [z] at P
             exact P)
        | exact absurd P (fun z => z)
    | int n => exact bin_si I rx ry rs r1 r2 P
    | _ => exact absurd P (fun z => z)
  | tup l =>
    cases d2 with
    | tup m => exact bin_tt I rx ry rs r1 r2 P
    | int k => exact bin_ti I rx ry rs r1 r2 P
    | _ => exact absurd P (fun z => z)
  | ref i =>
    cases d2 with
    | ref j =>
      cases r1 with
      | @ref _ a e1 =>
        cases r2 with
        | @ref _ b e2 =>
          cases op <;> first
            | (cases q1 : s[i]? with
               | none =>
                 exfalso
                 simp only [binD, q1] at P
                 exact P
               | some o1 =>
                 cases q2 : s[j]? with
                 | none =>
                   exfalso
                   simp only [binD, q1, q2] at P
                   cases o1 <;> exact P
                 | some o2 =>
                   cases o1 with
                   | lst l =>
                     cases o2 with
                     | lst m =>
                       by_cases c : l.length + m.length ≤ most
                       · simp only [binD, q1, q2, if_pos c] at P
                         obtain ⟨xs, h1, rx1⟩ := rs.at_ i a _ e1 q1
                         obtain ⟨ys, h2, ry1⟩ := rs.at_ j b _ e2 q2
                         refine op_cat pins st σ H _ _ v u Q I rx ry ⟨a, b, xs, ys, rfl, rfl, h1, h2, ?_, fun p hp => ?_⟩
                         · rw [rx1.length, ry1.length]
                           exact le_line c
                         · have nx : Nx A (A ++ [p]) H (upd H p (.lst (xs ++ ys))) := Nx.new hp
                           exact P (.ref p) _ (A ++ [p]) nx (rs.new hp rfl ⟨_, upd_same, (rx1.append ry1).mono nx⟩) (.ref (at_last rs p))
                       · exfalso
                         simp only [binD, q1, q2, if_neg c] at P
                         exact P
                     | _ => exfalso; simp only [binD, q1, q2] at P; exact P
                   | _ => exfalso; simp only [binD, q1, q2] at P; exact P)
            | (exfalso; exact P)
            | (exfalso; simp only [binD] at P; exact P)
    | int k => exact bin_ri I rx ry rs r1 r2 P
    | _ => exact absurd P (fun z => z)
  | _ => cases d2 <;> exact absurd P (fun z => z)
end
end RI
set_option maxRecDepth 100000
set_option maxHeartbeats 4000000
/-! RD0: sorted lists are one; dicts; equality. -/
namespace RI
open PySem L2 PyProof.Rows
/-! ### sorting -/
theorem perm_uniq {α : Type} {R : α → α → Prop} (anti : ∀ a b, R a b → R b a → a = b) : ∀ {l m : List α}, l.Perm m → l.Pairwise R → m.Pairwise R → l = m
  | [], m, p, _, _ => (List.perm_nil.mp p.symm).symm
  | a :: l, [], p, _, _ => absurd (List.perm_nil.mp p) (by simp)
  | a :: l, b :: m, p, h, g => by
    have ab : a = b := by
      have h1 : a ∈ b :: m := p.mem_iff.mp List.mem_cons_self
      have h2 : b ∈ a :: l := p.mem_iff.mpr List.mem_cons_self
      rcases List.mem_cons.mp h1 with e | h1
      · exact e
      · rcases List.mem_cons.mp h2 with e | h2
        · exact e.symm
        · exact anti a b ((List.pairwise_cons.mp h).1 b h2) ((List.pairwise_cons.mp g).1 a h1)
    subst ab
    rw [perm_uniq anti (List.Perm.cons_inv p) (List.pairwise_cons.mp h).2 (List.pairwise_cons.mp g).2]
section
variable {α : Type} {lt : α → α → Bool}
theorem insL_perm (x : α) : ∀ l : List α, (insL lt x l).Perm (x :: l)
  | [] => List.Perm.refl _
  | y :: r => by
    unfold insL
    split
    · exact List.Perm.refl _
    · exact ((insL_perm x r).cons y).trans (List.Perm.swap x y r)
theorem isrt_perm : ∀ l : List α, (isrt lt l).Perm l
  | [] => List.Perm.refl _
  | x :: r => (insL_perm x _).trans ((isrt_perm r).cons x)
theorem insL_sorted (O : SrtO.Swo lt) (x : α) : ∀ {l : List α}, SrtO.Srtd lt l → SrtO.Srtd lt (insL lt x l)
  | [], _ => List.pairwise_singleton _ _
  | y :: r, h => by
    unfold insL
    split
    · rename_i c
      refine List.pairwise_cons.mpr ⟨fun z hz => ?_, h⟩
      rcases List.mem_cons.mp hz with e | hz
      · rw [e]; exact O.asym _ _ c
      · exact O.asym _ _ (O.ltle c ((List.pairwise_cons.mp h).1 z hz))
    · rename_i c
      refine List.pairwise_cons.mpr ⟨fun z hz => ?_, insL_sorted O x (List.pairwise_cons.mp h).2⟩
      rcases List.mem_cons.mp ((insL_perm x r).mem_iff.mp hz) with e | hz
      · rw [e]
        exact Bool.eq_false_iff.mpr c
      · exact (List.pairwise_cons.mp h).1 z hz
theorem isrt_sorted (O : SrtO.Swo lt) : ∀ l : List α, SrtO.Srtd lt (isrt lt l)
  | [] => List.Pairwise.nil
  | x :: r => insL_sorted O x (isrt_sorted O r)
end
theorem ltK_swo : SrtO.Swo ltK := swo_key fun k : List Key => k.map keyI
theorem ltK_total {a b : List Key} (h : ltK a b = false) (g : ltK b a = false) : a = b := keysI_inj (lex_total (O := itemOrd) _ _ h g)
/-- sorted in one way alone -/
theorem isrt_keys {l m : List (List Key)} (p : l.Perm m) (h : l.Pairwise fun x y => ltK y x = false) : l = isrt ltK m :=
  perm_uniq (R := fun x y => ltK y x = false) (fun a b h g => ltK_total g h) (p.trans (isrt_perm m).symm) h (isrt_sorted ltK_swo m)
theorem isrt_ints {l m : List Int} (p : l.Perm m) (h : l.Pairwise (· ≤ ·)) : l = isrt (fun i j => decide (i < j)) m := by
  have O : SrtO.Swo fun i j : Int => decide (i < j) := ⟨fun x y h => by simp at h ⊢; omega, fun x y z h g => by simp at h g ⊢; omega⟩
  refine perm_uniq (R := (· ≤ ·)) (fun a b h g => Int.le_antisymm h g) (p.trans (isrt_perm m).symm) h ?_
  exact (isrt_sorted O m).imp fun h => by simpa using h
variable [Xs]
section
variable {K : PySem.W.Frag} {A : List Addr} {H : Hp} {s : Store}
/-! ### keys -/
theorem keyD_of {d : D} {k : Key} (h : keyD d = some k) : d = ofK k := by
  cases d <;> first
    | (cases h; rfl)
    | cases h
theorem key_rv {v : V} {d : D} {k : Key} (rv : RV K A H v d) (h : keyD d = some k) : v = kV k := by
  cases d <;> first
    | (cases h; cases rv; rfl)
    | cases h
theorem rv_key (k : Key) : RV K A H (kV k) (ofK k) := by
  cases k with
  | inl i => exact .int i
  | inr x => exact .str x
theorem keysD_of : ∀ {l : List D} {ks : List Key}, keysD l = some ks → l = ks.map ofK
  | [], ks, h => by cases h; rfl
  | d :: l, ks, h => by
    unfold keysD at h
    rw [List.map_cons] at h
    unfold optAll at h
    cases e1 : keyD d with
    | none => rw [e1] at h; cases h
    | some k =>
      cases e2 : optAll (l.map keyD) with
      | none => rw [e1, e2] at h; cases h
      | some r =>
        rw [e1, e2] at h
        cases h
        rw [keyD_of e1, keysD_of (l := l) (ks := r) e2]
        rfl
theorem rvs_keys : ∀ ks : List Key, RVs K A H (ks.map kV) (ks.map ofK)
  | [] => .nil
  | k :: ks => .cons (rv_key k) (rvs_keys ks)
theorem keys_rv : ∀ {ks : List Key} {vs : List V}, RVs K A H vs (ks.map ofK) → vs = ks.map kV
  | [], _, h => by cases h; rfl
  | k :: ks, _, h => by
    cases h with
    | cons r t =>
      rw [keys_rv t]
      cases k <;> (cases r; rfl)
/-! ### dicts read -/
theorem dget_of {x y : V} {d k : D} {o : Option D} (rs : RS K A H s) (r1 : RV K A H x d) (r2 : RV K A H y k) (h : dgetD s d k = some o) : ∃ a ov, x = .ref a ∧ DGet H a y ov ∧ ROpt K A H ov o := by
  cases d with
  | ref n =>
    cases r1 with
    | @ref _ a ha =>
      unfold dgetD at h
      dsimp only at h
      cases q : s[n]? with
      | none => rw [q] at h; cases h
      | some ob =>
        rw [q] at h
        have ro := rs.at_ n a ob ha q
        cases ob with
        | dk l =>
          dsimp only at h
          cases e : keyD k with
          | none => rw [e] at h; cases h
          | some κ =>
            rw [e] at h
            cases h
            obtain ⟨ks, hk, rk⟩ := ro
            rw [key_rv r2 e]
            exact ⟨a, _, rfl, DGet.k hk, rk.val κ⟩
        | dt l =>
          cases k with
          | tup t =>
            dsimp only at h
            by_cases c : conT t = true
            · rw [if_pos c] at h; cases h
            · rw [if_neg c] at h
              cases e : keysD t with
              | none => rw [e] at h; cases h
              | some κ =>
                rw [e] at h
                cases h
                obtain ⟨ks, hk, rk⟩ := ro
                cases r2 with
                | @tup b xs _ sq tr rr =>
                  have et := keysD_of e
                  subst et
                  have ex := keys_rv rr
                  subst ex
                  rcases tr with tr | tr
                  · exact ⟨a, _, rfl, DGet.t hk tr, rk.val κ⟩
                  · exact absurd tr c
          | _ => cases h
        | _ => cases h
  | _ => cases h
theorem dput_of {x y v : V} {d k z : D} {s' : Store} (rs : RS K A H s) (r1 : RV K A H x d) (r2 : RV K A H y k) (r3 : RV K A H v z) (h : dputD s d k z = some s') : ∃ a H', x = .ref a ∧ DPut H a y v H' ∧ Nx A A H H' ∧ RS K A H' s' := by
  cases d with
  | ref n =>
    cases r1 with
    | @ref _ a ha =>
      unfold dputD at h
      dsimp only at h
      cases q : s[n]? with
      | none => rw [q] at h; cases h
      | some ob =>
        rw [q] at h
        have ro := rs.at_ n a ob ha q
        cases ob with
        | dk l =>
          dsimp only at h
          cases e : keyD k with
          | none => rw [e] at h; cases h
          | some κ =>
            rw [e, Option.bind_some] at h
            by_cases c : l.length < most
            · rw [if_pos c] at h
              cases h
              obtain ⟨ks, hk, rk⟩ := ro
              rw [key_rv r2 e]
              have kp := Kp.dk (ls := putK ks κ v) hk
              exact ⟨a, _, rfl, DPut.k hk (by rw [rk.length]; exact lt_line (Nat.le_of_lt c)), Nx.heap kp, rs.seto ha q hk rfl rfl kp ⟨_, upd_same, (rk.put κ r3).mono (Nx.heap kp)⟩⟩
            · rw [if_neg c] at h; cases h
        | dt l =>
          cases k with
          | tup t =>
            dsimp only at h
            by_cases c : conT t = true
            · rw [if_pos c] at h; cases h
            · rw [if_neg c] at h
              cases e : keysD t with
              | none => rw [e] at h; cases h
              | some κ =>
                rw [e, Option.bind_some] at h
                by_cases c2 : l.length < most
                · rw [if_pos c2] at h
                  cases h
                  obtain ⟨ks, hk, rk⟩ := ro
                  cases r2 with
                  | @tup b xs _ sq tr rr =>
                    have et := keysD_of e
                    subst et
                    have ex := keys_rv rr
                    subst ex
                    rcases tr with tr | tr
                    · have kp := Kp.dt (ls := putK ks κ v) hk
                      exact ⟨a, _, rfl, DPut.t hk tr (by rw [rk.length]; exact lt_line (Nat.le_of_lt c2)), Nx.heap kp, rs.seto ha q hk rfl rfl kp ⟨_, upd_same, (rk.put κ r3).mono (Nx.heap kp)⟩⟩
                    · exact absurd tr c
                · rw [if_neg c2] at h; cases h
          | _ => cases h
        | _ => cases h
  | _ => cases h
/-! ### equality -/
theorem zip_tri {E : V → V → Bool → Prop} {f : D → D → Option Bool} (ih : ∀ x y d e b, RV K A H x d → RV K A H y e → f d e = some b → E x y b) : ∀ {l m : List D} {bs : List Bool} {xs ys : List V}, RVs K A H xs l → RVs K A H ys m → zipD f l m = some bs → Tri E xs ys bs
  | [], m, bs, _, ys, h1, h2, e => by
    cases h1
    cases e
    cases ys with
    | nil => exact .nil
    | cons _ _ => exact .endL
  | d :: l, [], bs, _, _, h1, h2, e => by
    cases h2
    cases e
    cases h1
    exact .endR
  | d :: l, z :: m, bs, _, _, h1, h2, e => by
    cases h1 with
    | cons r1 t1 =>
      cases h2 with
      | cons r2 t2 =>
        unfold zipD at e
        cases e1 : f d z with
        | none => rw [e1] at e; cases e
        | some b =>
          cases e2 : zipD f l m with
          | none => rw [e1, e2] at e; cases e
          | some r =>
            rw [e1, e2] at e
            cases e
            exact .cons (ih _ _ _ _ _ r1 r2 e1) (zip_tri ih t1 t2 e2)
theorem hits_of {κ : Type} [DecidableEq κ] {E : V → V → Bool → Prop} {f : D → D → Option Bool} (ih : ∀ x y d e b, RV K A H x d → RV K A H y e → f d e = some b → E x y b) {m : List (κ × D)} {ls : List (κ × V)} (rm : RKs K A H ls m) :
    ∀ {l : List (κ × D)} {b : Bool} {ks : List (κ × V)}, RKs K A H ks l → hitsD f m l = some b → Hits E ls ks b
  | [], b, _, h, e => by cases h; cases e; exact .nil
  | p :: l, b, _, h, e => by
    cases h with
    | @cons k v d ks l r t =>
      unfold hitsD at e
      dsimp only at e
      have rv := rm.val k
      cases q : valD m k with
      | none =>
        rw [q] at e rv
        cases e
        generalize hq : valV ls k = w at rv
        cases rv
        exact .miss hq
      | some y =>
        rw [q] at e rv
        dsimp only at e
        generalize hq : valV ls k = w at rv
        cases rv with
        | some rw_ =>
          cases e1 : f d y with
          | none => rw [e1] at e; cases e
          | some b1 =>
            cases e2 : hitsD f m l with
            | none => rw [e1, e2] at e; cases e
            | some b2 =>
              rw [e1, e2] at e
              cases e
              exact .hit hq (ih _ _ _ _ _ r rw_ e1) (hits_of ih rm t e2)
theorem eqD_D {d1 d2 : D} {x y : V} {b : Bool} (rs : RS K A H s) (r1 : RV K A H x d1) (r2 : RV K A H y d2) (h : eqD s d1 d2 = some b) : EqD K H x y b := by
  unfold eqD at h
  cases e1 : dat s 64 d1 with
  | none => rw [e1] at h; cases h
  | some p =>
    cases e2 : dat s 64 d2 with
    | none => rw [e1, e2] at h; cases h
    | some q =>
      rw [e1, e2] at h
      dsimp only at h
      by_cases c : SeqAt.shaped p = true ∧ SeqAt.shaped q = true
      · rw [if_pos c] at h
        exact ⟨p, q, dat_dp rs 64 r1 e1, dat_dp rs 64 r2 e2, c.1, c.2, (Option.some.inj h).symm⟩
      · rw [if_neg c] at h
        cases h
theorem eqX_X (rs : RS K A H s) : ∀ (n : Nat) (x y : V) (d e : D) (b : Bool), RV K A H x d → RV K A H y e → eqX s n d e = some b → EqX K H n x y b
  | 0, x, y, d, e, b, r1, r2, h => eqD_D rs r1 r2 h
  | n + 1, x, y, d, e, b, r1, r2, h => by
    unfold eqX at h
    cases q : eqD s d e with
    | some k =>
      rw [q] at h
      cases h
      exact .inl (eqD_D rs r1 r2 q)
    | none =>
      rw [q] at h
      dsimp only at h
      refine .inr ?_
      have ih := eqX_X rs n
      cases d with
      | tup l =>
        cases e with
        | tup m =>
          dsimp only at h
          cases z : zipD (eqX s n) l m with
          | none => rw [z] at h; cases h
          | some bs =>
            rw [z] at h
            cases h
            cases r1 with
            | @tup a xs _ s1 _ q1 =>
              cases r2 with
              | @tup c ys _ s2 _ q2 => exact .inr (.inl ⟨a, c, xs, ys, bs, rfl, rfl, s1, s2, zip_tri ih q1 q2 z, by rw [q1.length, q2.length]⟩)
        | _ => cases h
      | ref i =>
        cases e with
        | ref j =>
          cases r1 with
          | @ref _ a ha =>
            cases r2 with
            | @ref _ c hc =>
              dsimp only at h
              cases z1 : s[i]? with
              | none => rw [z1] at h; cases h
              | some o1 =>
                cases z2 : s[j]? with
                | none => rw [z1, z2] at h; cases o1 <;> cases h
                | some o2 =>
                  rw [z1, z2] at h
                  have ro1 := rs.at_ i a _ ha z1
                  have ro2 := rs.at_ j c _ hc z2
                  cases o1 with
                  | lst l =>
                    cases o2 with
                    | lst m =>
                      dsimp only at h
                      obtain ⟨xs, h1, q1⟩ := ro1
                      obtain ⟨ys, h2, q2⟩ := ro2
                      refine .inl ⟨a, c, xs, ys, rfl, rfl, SqL.of h1, SqL.of h2, ?_⟩
                      rw [q1.length, q2.length]
                      by_cases cl : l.length = m.length
                      · rw [if_pos cl] at h
                        cases z : zipD (eqX s n) l m with
                        | none => rw [z] at h; cases h
                        | some bs =>
                          rw [z] at h
                          cases h
                          exact .inr ⟨cl, bs, zip_tri ih q1 q2 z, rfl⟩
                      · rw [if_neg cl] at h
                        cases h
                        exact .inl ⟨cl, rfl⟩
                    | _ => cases h
                  | dk l =>
                    cases o2 with
                    | dk m =>
                      dsimp only at h
                      obtain ⟨ks, h1, q1⟩ := ro1
                      obtain ⟨ls, h2, q2⟩ := ro2
                      refine .inr (.inr (.inl ⟨a, c, ks, ls, rfl, rfl, .inl h1, .inl h2, ?_⟩))
                      rw [q1.length, q2.length]
                      by_cases cl : l.length = m.length
                      · rw [if_pos cl] at h
                        exact .inr ⟨cl, hits_of ih q2 q1 h⟩
                      · rw [if_neg cl] at h
                        cases h
                        exact .inl ⟨cl, rfl⟩
                    | _ => cases h
                  | dt l =>
                    cases o2 with
                    | dt m =>
                      dsimp only at h
                      obtain ⟨ks, h1, q1⟩ := ro1
                      obtain ⟨ls, h2, q2⟩ := ro2
                      refine .inr (.inr (.inr ⟨a, c, ks, ls, rfl, rfl, .inl h1, .inl h2, ?_⟩))
                      rw [q1.length, q2.length]
                      by_cases cl : l.length = m.length
                      · rw [if_pos cl] at h
                        exact .inr ⟨cl, hits_of ih q2 q1 h⟩
                      · rw [if_neg cl] at h
                        cases h
                        exact .inl ⟨cl, rfl⟩
                    | _ => cases h
                  | _ => cases o2 <;> cases h
        | _ => cases h
      | _ => cases e <;> cases h
end
end RI
set_option maxRecDepth 100000
set_option maxHeartbeats 4000000
/-! RD: comparisons, subscripts, slices, built-in functions, methods. -/
namespace RI
open PySem L2 PyProof.Rows
variable [Xs]
section
variable {K : PySem.W.Frag} {A : List Addr} {H : Hp} {s : Store} {X : Cx}
/-- .. where the operation gives a truth, or nothing -/
def rCmp (K : PySem.W.Frag) (op : CmpOp) : R2 := fun x y H Q => ∃ A s d1 d2 b, RS K A H s ∧ RV K A H x d1 ∧ RV K A H y d2 ∧ cmpD op d1 d2 s = some b ∧ Q (.bl b) H
theorem eqD_dp {d1 d2 : D} {x y : V} {b : Bool} (rs : RS K A H s) (r1 : RV K A H x d1) (r2 : RV K A H y d2) (h : eqD s d1 d2 = some b) :
    ∃ p q, Dp K H x p ∧ Dp K H y q ∧ SeqAt.shaped p = true ∧ SeqAt.shaped q = true ∧ PyData.eqv p q = b := by
  unfold eqD at h
  cases e1 : dat s 64 d1 with
  | none => rw [e1] at h; cases h
  | some p =>
    cases e2 : dat s 64 d2 with
    | none => rw [e1, e2] at h; cases h
    | some q =>
      rw [e1, e2] at h
      dsimp only at h
      by_cases c : SeqAt.shaped p = true ∧ SeqAt.shaped q = true
      · rw [if_pos c] at h
        exact ⟨p, q, dat_dp rs 64 r1 e1, dat_dp rs 64 r2 e2, c.1, c.2, Option.some.inj h⟩
      · rw [if_neg c] at h
        cases h
theorem isNon_of {d : D} {x : V} (r : RV K A H x d) : decide (x = .non) = isNon d := by
  cases r <;> simp [isNon]
theorem in_case {neg : Bool} {d1 d2 : D} {x y : V} {b : Bool} {Q : VK} (rs : RS K A H s) (r1 : RV K A H x d1) (r2 : RV K A H y d2)
    (h : ((seqOf s d2).bind fun l => if flatD d1 = true ∧ l.all flatD = true then some (if neg then !inD d1 l else inD d1 l) else none) = some b) (q : Q (.bl b) H) : rIn K neg x y H Q := by
  cases e : seqOf s d2 with
  | none => rw [e] at h; cases h
  | some l =>
    rw [e, Option.bind_some] at h
    by_cases c : flatD d1 = true ∧ l.all flatD = true
    · rw [if_pos c] at h
      obtain ⟨a, xs, rfl, rxs, sq⟩ := seq_sq rs r2 e
      obtain ⟨e1, f1⟩ := flat_to r1 c.1
      obtain ⟨e2, f2⟩ := flat_all rxs c.2
      refine ⟨a, xs, rfl, sq, f1, f2, ?_⟩
      have eb : (if neg then !inV x xs else inV x xs) = b := by
        rw [e1, e2]
        exact Option.some.inj h
      rw [eb]
      exact q
    · rw [if_neg c] at h
      cases h
/-- a in b, b a list or a tuple -/
theorem inS_run (hu : X.A.units + 150 < cLine) {pins : List (Addr × Obj)} {st : Shared} {σ : L2.St} {x y : V} {v u : Value} {d1 d2 : D} {k : Bool} {Q : VK} (I : Inv X pins σ H st) (rx : RelV x v) (ry : RelV y u) (rs : RS X.K A H s) (r1 : RV X.K A H x d1) (r2 : RV X.K A H y d2) (e : inS d1 d2 s = some k) :
    (Q (.bl k) H → wpAny (model X.prog X.w) X.A (compareOp .In v u) (EP X pins σ Q) X.xe st) ∧ (Q (.bl (!k)) H → wpAny (model X.prog X.w) X.A (compareOp .NotIn v u) (EP X pins σ Q) X.xe st) := by
  have gen : (match (seqOf s d2).bind fun l => if flatD d1 = true ∧ l.all flatD = true then some (inD d1 l) else none with
      | some k => some k
      | none => (match dat s 64 d1, dat s 64 d2 with
        | some d, some (.list ds) => if SeqAt.shaped d = true ∧ SeqAt.shaped (.list ds) = true then some (ds.any fun z => PyData.eqv z d) else none
        | _, _ => none)) = some k → (Q (.bl k) H → wpAny (model X.prog X.w) X.A (compareOp .In v u) (EP X pins σ Q) X.xe st) ∧ (Q (.bl (!k)) H → wpAny (model X.prog X.w) X.A (compareOp .NotIn v u) (EP X pins σ Q) X.xe st) := fun h => by
    cases q : (seqOf s d2).bind fun l => if flatD d1 = true ∧ l.all flatD = true then some (inD d1 l) else none with
    | some k' =>
      rw [q] at h
      cases h
      refine ⟨fun q' => op_in_seq pins st σ H x y v u Q I rx ry (in_case (neg := false) rs r1 r2 q q'), fun q' => op_notIn_seq pins st σ H x y v u Q I rx ry (in_case (neg := true) (b := !k) rs r1 r2 ?_ q')⟩
      cases e : seqOf s d2 with
      | none => rw [e] at q; cases q
      | some l =>
        rw [e] at q
        rw [Option.bind_some] at q ⊢
        by_cases c : flatD d1 = true ∧ l.all flatD = true
        · rw [if_pos c] at q ⊢
          rw [if_pos rfl, Option.some.inj q]
        · rw [if_neg c] at q; cases q
    | none =>
      rw [q] at h
      dsimp only at h
      cases e1 : dat s 64 d1 with
      | none => rw [e1] at h; cases h
      | some p1 =>
        cases e2 : dat s 64 d2 with
        | none => rw [e1, e2] at h; cases h
        | some p2 =>
          rw [e1, e2] at h
          cases p2 with
          | list ds =>
            dsimp only at h
            by_cases c : SeqAt.shaped p1 = true ∧ SeqAt.shaped (.list ds) = true
            · rw [if_pos c] at h
              cases h
              exact ⟨fun q' => op_inD (by omega) pins st σ H x y v u Q I rx ry ⟨p1, ds, dat_dp rs 64 r1 e1, dat_dp rs 64 r2 e2, c.1, c.2, q'⟩, fun q' => op_notInD (by omega) pins st σ H x y v u Q I rx ry ⟨p1, ds, dat_dp rs 64 r1 e1, dat_dp rs 64 r2 e2, c.1, c.2, q'⟩⟩
            · rw [if_neg c] at h; cases h
          | _ => cases h
  cases d1 with
  | str i =>
    cases d2 with
    | str j =>
      cases r1
      cases r2
      have e' : (!(Builtin.Str.occurrences j i 0 j.length 1).isEmpty) = k := Option.some.inj e
      exact ⟨fun q => op_in_str pins st σ H _ _ v u Q I rx ry ⟨i, j, rfl, rfl, by rw [e']; exact q⟩, fun q => op_notin_str pins st σ H _ _ v u Q I rx ry ⟨i, j, rfl, rfl, by rw [e']; exact q⟩⟩
    | _ => exact gen e
  | _ => cases d2 <;> exact gen e
theorem inA_run (hu : X.A.units + 150 < cLine) {pins : List (Addr × Obj)} {st : Shared} {σ : L2.St} {x y : V} {v u : Value} {d1 d2 : D} {k : Bool} {Q : VK} (I : Inv X pins σ H st) (rx : RelV x v) (ry : RelV y u) (rs : RS X.K A H s) (r1 : RV X.K A H x d1) (r2 : RV X.K A H y d2) (e : inA d1 d2 s = some k) :
    (Q (.bl k) H → wpAny (model X.prog X.w) X.A (compareOp .In v u) (EP X pins σ Q) X.xe st) ∧ (Q (.bl (!k)) H → wpAny (model X.prog X.w) X.A (compareOp .NotIn v u) (EP X pins σ Q) X.xe st) := by
  unfold inA at e
  cases q : dgetD s d2 d1 with
  | none =>
    rw [q] at e
    exact inS_run hu I rx ry rs r1 r2 e
  | some o =>
    rw [q] at e
    cases e
    obtain ⟨a, ov, ea, g, ro⟩ := dget_of rs r2 r1 q
    subst ea
    have eo : ov.isSome = o.isSome := by cases ro <;> rfl
    exact ⟨fun q' => op_inDct (by omega) pins st σ H _ _ v u Q I rx ry ⟨a, ov, rfl, g, by rw [eo]; exact q'⟩, fun q' => op_notInDct (by omega) pins st σ H _ _ v u Q I rx ry ⟨a, ov, rfl, g, by rw [eo]; exact q'⟩⟩
theorem sameF_of {d : D} {b : Bool} {x : V} (r : RV K A H x d) : decide (x = .bl b) = sameF d (.bl b) := by
  cases r <;> first
    | (simp [sameF]; done)
    | (rename_i c; cases c <;> cases b <;> simp [sameF])
theorem op_cmp (hu : X.A.units + 150 < cLine) {op : CmpOp} : OpR X (compareOp op) (rCmp X.K op) := by
  rintro pins st σ H x y v u Q I rx ry ⟨A, s, d1, d2, b, rs, r1, r2, e, q⟩
  cases op with
  | Eq =>
    rcases eqX_X rs 40 x y d1 d2 b r1 r2 e with ⟨p1, p2, a1, a2, s1, s2, eb⟩ | h
    · exact op_eqD (by omega) pins st σ H x y v u Q I rx ry ⟨p1, p2, a1, a2, s1, s2, by rw [← eb]; exact q⟩
    · exact op_eqX hu pins st σ H x y v u Q I rx ry ⟨39, b, by decide, h, q⟩
  | NotEq =>
    have e' : (eqX s 40 d1 d2).map not = some b := e
    cases e2 : eqX s 40 d1 d2 with
    | none => rw [e2] at e'; cases e'
    | some c =>
      rw [e2] at e'
      have ec : (!c) = b := Option.some.inj e'
      rcases eqX_X rs 40 x y d1 d2 c r1 r2 e2 with ⟨p1, p2, a1, a2, s1, s2, eb⟩ | h
      · exact op_neD (by omega) pins st σ H x y v u Q I rx ry ⟨p1, p2, a1, a2, s1, s2, by rw [← eb, ec]; exact q⟩
      · exact op_neX hu pins st σ H x y v u Q I rx ry ⟨39, c, by decide, h, by rw [if_pos rfl, ec]; exact q⟩
  | Lt =>
    cases d1 with
    | int i =>
      cases d2 with
      | int j =>
        cases r1
        cases r2
        exact op_lt pins st σ H _ _ v u Q I rx ry ⟨i, j, rfl, rfl, (show Q (.bl (decide (i < j))) H by rw [show decide (i < j) = b from Option.some.inj e]; exact q)⟩
      | _ => cases e
    | _ => cases e
  | LtE =>
    cases d1 with
    | int i =>
      cases d2 with
      | int j =>
        cases r1
        cases r2
        exact op_le pins st σ H _ _ v u Q I rx ry ⟨i, j, rfl, rfl, (show Q (.bl (decide (i ≤ j))) H by rw [show decide (i ≤ j) = b from Option.some.inj e]; exact q)⟩
      | _ => cases e
    | _ => cases e
  | Gt =>
    cases d1 with
    | int i =>
      cases d2 with
      | int j =>
        cases r1
        cases r2
        exact op_gt pins st σ H _ _ v u Q I rx ry ⟨i, j, rfl, rfl, (show Q (.bl (decide (j < i))) H by rw [show decide (j < i) = b from Option.some.inj e]; exact q)⟩
      | _ => cases e
    | _ => cases e
  | GtE =>
    cases d1 with
    | int i =>
      cases d2 with
      | int j =>
        cases r1
        cases r2
        exact op_ge pins st σ H _ _ v u Q I rx ry ⟨i, j, rfl, rfl, (show Q (.bl (decide (j ≤ i))) H by rw [show decide (j ≤ i) = b from Option.some.inj e]; exact q)⟩
      | _ => cases e
    | _ => cases e
  | Is =>
    have e' : (if isNon d2 = true then some (isNon d1) else isB d1 d2) = some b := e
    cases n2 : isNon d2 with
    | false =>
      rw [n2, if_neg Bool.false_ne_true] at e'
      cases d2 with
      | bl c =>
        cases r2
        exact op_isBA pins st σ H x _ v u Q I rx ry ⟨c, rfl, by rw [sameF_of r1, Option.some.inj e']; exact q⟩
      | _ => cases e'
    | true =>
      rw [n2, if_pos rfl] at e'
      have y0 : y = .non := of_decide_eq_true ((isNon_of r2).trans n2)
      exact op_isN pins st σ H x y v u Q I rx ry ⟨y0, by rw [isNon_of r1, Option.some.inj e']; exact q⟩
  | IsNot =>
    have e' : (if isNon d2 = true then some (!isNon d1) else none) = some b := e
    cases n2 : isNon d2 with
    | false => rw [n2] at e'; cases e'
    | true =>
      rw [n2, if_pos rfl] at e'
      have y0 : y = .non := of_decide_eq_true ((isNon_of r2).trans n2)
      exact op_notN pins st σ H x y v u Q I rx ry ⟨y0, by rw [isNon_of r1, Option.some.inj e']; exact q⟩
  | In => exact (inA_run hu I rx ry rs r1 r2 e).1 q
  | NotIn =>
    have e' : (inA d1 d2 s).map not = some b := e
    cases e2 : inA d1 d2 s with
    | none => rw [e2] at e'; cases e'
    | some c =>
      rw [e2] at e'
      exact (inA_run hu I rx ry rs r1 r2 e2).2 (by rw [show (!c) = b from Option.some.inj e']; exact q)
/-! ### a[b] -/
theorem atI_rv : ∀ {xs : List V} {l : List D} {i : Int} {d : D}, RVs K A H xs l → atI l i = some d → ∃ v, atI xs i = some v ∧ RV K A H v d := by
  intro xs l i d r h
  unfold atI at h ⊢
  rw [r.length]
  cases e : ixN l.length i with
  | none => rw [e] at h; cases h
  | some j =>
    rw [e] at h
    exact r.get h
def rIxS' (K : PySem.W.Frag) : R2 := fun x y H Q => ∃ A s d1 d2 d, RS K A H s ∧ RV K A H x d1 ∧ RV K A H y d2 ∧ ixS d1 d2 s = some d ∧ ∀ v, RV K A H v d → Q v H
theorem ix_S : IxR X (rIxS' X.K) := by
  rintro value slice pins st σ H x y v u Q I rx ry ⟨A, s, d1, d2, d, rs, r1, r2, e, q⟩ hs
  refine ix_seq value slice pins st σ H x y v u Q I rx ry ?_ hs
  cases d2 with
  | int i =>
    cases r2
    have gen : ((seqOf s d1).bind fun l => atI l i) = some d → rIx X.K x (.int i) H Q := fun h => by
      cases e : seqOf s d1 with
      | none => rw [e] at h; cases h
      | some l =>
        rw [e, Option.bind_some] at h
        obtain ⟨a, xs, rfl, rxs, sq⟩ := seq_sq rs r1 e
        obtain ⟨v, e1, rv⟩ := atI_rv rxs h
        rcases sq with sq | sq
        · exact .inl ⟨a, xs, i, v, rfl, rfl, sq, e1, q v rv⟩
        · exact .inr (.inl ⟨a, xs, i, v, rfl, rfl, sq, e1, q v rv⟩)
    cases d1 with
    | str z =>
      cases r1
      have e' : (if z.length ≤ most then (atI z.cps.toList i).map fun c => D.str ⟨#[c]⟩ else none) = some d := e
      by_cases c : z.length ≤ most
      · rw [if_pos c] at e'
        cases e2 : atI z.cps.toList i with
        | none => rw [e2] at e'; cases e'
        | some k =>
          rw [e2] at e'
          cases e'
          exact .inr (.inr ⟨z, i, k, rfl, rfl, le_line c, e2, q _ (.str _)⟩)
      · rw [if_neg c] at e'
        cases e'
    | _ => exact gen e
  | _ => cases e
def rIxD (K : PySem.W.Frag) : R2 := fun x y H Q => ∃ A s d1 d2 d, RS K A H s ∧ RV K A H x d1 ∧ RV K A H y d2 ∧ ixD d1 d2 s = some d ∧ ∀ v, RV K A H v d → Q v H
theorem ix_D (hu : X.A.units + 150 < cLine) : IxR X (rIxD X.K) := by
  rintro value slice pins st σ H x y v u Q I rx ry ⟨A, s, d1, d2, d, rs, r1, r2, e, q⟩ hs
  unfold ixD at e
  cases z : dgetD s d1 d2 with
  | none =>
    rw [z] at e
    exact ix_S value slice pins st σ H x y v u Q I rx ry ⟨A, s, d1, d2, d, rs, r1, r2, e, q⟩ hs
  | some o =>
    rw [z] at e
    have e : o = some d := e
    subst e
    obtain ⟨a, ov, ea, g, ro⟩ := dget_of rs r1 r2 z
    subst ea
    cases ro with
    | some rv => exact ix_dct (by omega) value slice pins st σ H _ y v u Q I rx ry ⟨a, _, rfl, g, q _ rv⟩ hs
/-! ### slices -/
theorem cut_rv {xs : List V} {l : List D} (lo hi : Option Int) (r : RVs K A H xs l) : RVs K A H (cutV xs lo hi) (cutD l lo hi) := by
  unfold cutV cutD
  rw [r.length]
  exact (r.drop _).take _
/-! ### built-in functions -/
def rBi (K : PySem.W.Frag) (f : Bi) : List V → Hp → VK → Prop := fun vs H Q => ∃ A s ds, RS K A H s ∧ RVs K A H vs ds ∧ Post K (RV K) A H (fun _ _ _ => False) Q (biD f ds s)
theorem rvs1 {vs : List V} {d : D} (h : RVs K A H vs [d]) : ∃ v, vs = [v] ∧ RV K A H v d := by
  cases h with
  | cons r rs => cases rs; exact ⟨_, rfl, r⟩
theorem rvs2 {vs : List V} {d e : D} (h : RVs K A H vs [d, e]) : ∃ v w, vs = [v, w] ∧ RV K A H v d ∧ RV K A H w e := by
  cases h with
  | cons r rs => obtain ⟨w, rfl, q⟩ := rvs1 rs; exact ⟨_, w, rfl, r, q⟩
theorem bi_len : CallR X (.builtin "len") (rBi X.K .len) := by
  rintro pins st σ H vs us Q I r ⟨A, s, ds, rs, rds, P⟩
  cases ds with
  | nil => exact P.elim
  | cons d t =>
    cases t with
    | cons _ _ => cases d <;> exact P.elim
    | nil =>
      obtain ⟨v, rfl, rv⟩ := rvs1 rds
      have gen : ∀ d', RV X.K A H v d' → Post X.K (RV X.K) A H (fun _ _ _ => False) Q (match seqOf s d' with
          | some l => .ok (.int l.length) s
          | none => lenDct s d') → wpAny (model X.prog X.w) X.A (call (.builtin "len") us) (EP X pins σ Q) X.xe st := fun d' rv' P' => by
        cases e : seqOf s d' with
        | none =>
          rw [e] at P'
          cases d' with
          | ref n =>
            cases rv' with
            | @ref _ a ha =>
              dsimp only [lenDct] at P'
              cases q1 : s[n]? with
              | none => rw [q1] at P'; exact P'.elim
              | some o =>
                rw [q1] at P'
                have ro := rs.at_ n a o ha q1
                cases o with
                | dk l =>
                  obtain ⟨ks, h, q⟩ := ro
                  exact call_lenD pins st σ H _ us Q I r ⟨a, ks, rfl, h, by rw [q.length]; exact post_ok P' rs (.int _)⟩
                | dt l =>
                  obtain ⟨ks, h, q⟩ := ro
                  exact call_len_dT pins st σ H _ us Q I r ⟨a, ks, rfl, h, by rw [q.length]; exact post_ok P' rs (.int _)⟩
                | _ => exact P'.elim
          | _ => exact P'.elim
        | some l =>
          rw [e] at P'
          obtain ⟨a, xs, rfl, rxs, sq⟩ := seq_sq rs rv' e
          exact call_len_seq pins st σ H _ us Q I r ⟨a, xs, rfl, sq, by rw [rxs.length]; exact post_ok P' rs (.int _)⟩
      cases d with
      | str z =>
        cases rv
        have P' : Post X.K (RV X.K) A H (fun _ _ _ => False) Q (if z.length ≤ most then .ok (.int z.length) s else .bad) := P
        by_cases c : z.length ≤ most
        · rw [if_pos c] at P'
          exact call_len_str pins st σ H _ us Q I r ⟨z, rfl, le_line c, post_ok P' rs (.int _)⟩
        · rw [if_neg c] at P'
          exact P'.elim
      | _ => exact gen _ rv P
theorem bi_abs : CallR X (.builtin "abs") (rBi X.K .abs) := by
  rintro pins st σ H vs us Q I r ⟨A, s, ds, rs, rds, P⟩
  cases ds with
  | nil => exact P.elim
  | cons d t =>
    cases t with
    | cons _ _ => cases d <;> exact P.elim
    | nil =>
      cases d with
      | int i =>
        obtain ⟨v, rfl, rv⟩ := rvs1 rds
        cases rv
        exact call_abs pins st σ H _ us Q I r ⟨i, rfl, post_ok P rs (.int _)⟩
      | _ => exact P.elim
theorem bi_gcd : CallR X (.builtin "math.gcd") (rBi X.K .gcd) := by
  rintro pins st σ H vs us Q I r ⟨A, s, ds, rs, rds, P⟩
  cases ds with
  | nil => exact P.elim
  | cons d t =>
    cases t with
    | nil => cases d <;> exact P.elim
    | cons e t =>
      cases t with
      | cons _ _ => cases d <;> first | exact P.elim | (cases e <;> exact P.elim)
      | nil =>
        cases d with
        | int i =>
          cases e with
          | int j =>
            obtain ⟨v, w, rfl, rv, rw⟩ := rvs2 rds
            cases rv
            cases rw
            exact cr_gcd pins st σ H _ us Q I r ⟨i, j, rfl, post_ok P rs (.int _)⟩
          | _ => exact P.elim
        | _ => exact P.elim
theorem bi_int : CallR X (.type "int") (rBi X.K .int) := by
  rintro pins st σ H vs us Q I r ⟨A, s, ds, rs, rds, P⟩
  cases ds with
  | nil => exact P.elim
  | cons d t =>
    cases t with
    | cons _ _ => cases d <;> exact P.elim
    | nil =>
      obtain ⟨v, rfl, rv⟩ := rvs1 rds
      cases d with
      | int i =>
        cases rv
        exact call_int1 pins st σ H _ us Q I r (.inl ⟨i, rfl, post_ok P rs (.int _)⟩)
      | bl i =>
        cases rv
        exact call_int1 pins st σ H _ us Q I r (.inr ⟨i, rfl, post_ok P rs (.int _)⟩)
      | str z =>
        cases rv
        have P' : Post X.K (RV X.K) A H (fun _ _ _ => False) Q (match PySem.intText? z with
          | some n => if z.length ≤ 640 then .ok (.int n) s else .bad
          | none => .bad) := P
        cases e : PySem.intText? z with
        | none => rw [e] at P'; exact P'.elim
        | some n =>
          rw [e] at P'
          dsimp only at P'
          by_cases c : z.length ≤ 640
          · rw [if_pos c] at P'
            exact call_int_str pins st σ H _ us Q I r ⟨z, n, rfl, e, c, post_ok P' rs (.int _)⟩
          · rw [if_neg c] at P'
            exact P'.elim
      | _ => exact P.elim
theorem bi_list : CallR X (.type "list") (rBi X.K .list) := by
  rintro pins st σ H vs us Q I r ⟨A, s, ds, rs, rds, P⟩
  cases ds with
  | nil => exact P.elim
  | cons d t =>
    cases t with
    | cons _ _ => cases d <;> exact P.elim
    | nil =>
      obtain ⟨v, rfl, rv⟩ := rvs1 rds
      have P' : Post X.K (RV X.K) A H (fun _ _ _ => False) Q (match seqOf s d with
        | some l => .ok (.ref s.length) (s ++ [.lst l])
        | none => .bad) := P
      cases e : seqOf s d with
      | none => rw [e] at P'; exact P'.elim
      | some l =>
        rw [e] at P'
        obtain ⟨a, xs, rfl, rxs, sq⟩ := seq_sq rs rv e
        refine call_list_of pins st σ H _ us Q I r ⟨a, xs, rfl, sq, fun p hp => ?_⟩
        have nx : Nx A (A ++ [p]) H (upd H p (.lst xs)) := Nx.new hp
        exact P' (.ref p) _ (A ++ [p]) nx (rs.new hp rfl ⟨_, upd_same, rxs.mono nx⟩) (.ref (at_last rs p))
theorem bi_tuple : CallR X (.type "tuple") (rBi X.K .tuple) := by
  rintro pins st σ H vs us Q I r ⟨A, s, ds, rs, rds, P⟩
  cases ds with
  | nil => exact P.elim
  | cons d t =>
    cases t with
    | cons _ _ => cases d <;> exact P.elim
    | nil =>
      obtain ⟨v, rfl, rv⟩ := rvs1 rds
      have gen : ∀ d', RV X.K A H v d' → Post X.K (RV X.K) A H (fun _ _ _ => False) Q (match lstOf s d' with
          | some l => .ok (.tup l) s
          | none => .bad) → wpAny (model X.prog X.w) X.A (call (.type "tuple") us) (EP X pins σ Q) X.xe st := fun d' rv' P' => by
        cases e : lstOf s d' with
        | none => rw [e] at P'; exact P'.elim
        | some l =>
          rw [e] at P'
          obtain ⟨a, n, rfl, rfl, _⟩ := lst_ref rv' e
          obtain ⟨xs, sq, rxs⟩ := lst_sq rs rv' e
          refine call_tuple_of pins st σ H _ us Q I r ⟨a, xs, rfl, .inl ⟨sq, fun p hp => ?_⟩⟩
          have nx : Nx A A H (upd H p (.tup xs)) := Nx.heap (Kp.new hp)
          exact P' (.ref p) _ A nx (rs.same (same_new hp)) (.tup (SqT.of upd_same) (.inl upd_same) (rxs.mono nx))
      cases d with
      | tup l =>
        cases rv with
        | tup e t q => exact call_tuple_of pins st σ H _ us Q I r ⟨_, _, rfl, .inr ⟨e, post_ok P rs (.tup e t q)⟩⟩
      | _ => exact gen _ rv P
/-! ### isinstance -/
def Ty.nm : Ty → String
  | .int => "int" | .bool => "bool" | .str => "str" | .tuple => "tuple" | .list => "list" | .dict => "dict"
def rIsD (K : PySem.W.Frag) (t : Ty) : List V → Hp → VK → Prop := fun vs H Q => ∃ A s d x b, vs = [x, .ty t.nm] ∧ RS K A H s ∧ RV K A H x d ∧ tyD s t d = some b ∧ Q (.bl b) H
theorem kit_non (t : Ty) : kitB "NoneType" t.nm = some false := by cases t <;> decide +kernel
theorem kit_bool (t : Ty) : kitB "bool" t.nm = some (decide (t = .bool) || decide (t = .int)) := by cases t <;> decide +kernel
theorem kit_int (t : Ty) : kitB "int" t.nm = some (decide (t = .int)) := by cases t <;> decide +kernel
theorem kit_str (t : Ty) : kitB "str" t.nm = some (decide (t = .str)) := by cases t <;> decide +kernel
theorem kit_tuple (t : Ty) : kitB "tuple" t.nm = some (decide (t = .tuple)) := by cases t <;> decide +kernel
theorem kit_list (t : Ty) : kitB "list" t.nm = some (decide (t = .list)) := by cases t <;> decide +kernel
theorem kit_dict (t : Ty) : kitB "dict" t.nm = some (decide (t = .dict)) := by cases t <;> decide +kernel
theorem ty_kit2 {t0 : Ty} {d : D} {x : V} {b0 : Bool} (rs : RS K A H s) (rv : RV K A H x d) (e0 : tyD s t0 d = some b0) : ∃ w : Value, TyX K H x w ∧ ∀ (t : Ty) (b : Bool), tyD s t d = some b → PySem.W.kitOne K w (.type t.nm) = some b := by
  cases rv with
  | non => exact ⟨_, .base .non, fun t b e => kit_ty ((kit_non t).trans e)⟩
  | bl k => exact ⟨_, .base (.bl k), fun t b e => kit_ty ((kit_bool t).trans e)⟩
  | int k => exact ⟨_, .base (.int k), fun t b e => kit_ty ((kit_int t).trans e)⟩
  | str k => exact ⟨_, .base (.str k), fun t b e => kit_ty ((kit_str t).trans e)⟩
  | tup sq _ _ =>
    rcases sq with (h | ⟨o, h⟩) | ⟨o, its, n, h, c, _⟩
    · exact ⟨_, .base (.tup h), fun t b e => kit_ty ((kit_tuple t).trans e)⟩
    · exact ⟨_, .fTuple h, fun t b e => kit_ty ((kit_tuple t).trans e)⟩
    · exact ⟨_, .kTuple h c, fun t b e => kit_ty ((kit_tuple t).trans e)⟩
  | @ref n a ha =>
    unfold tyD at e0 ⊢
    dsimp only at e0 ⊢
    cases q1 : s[n]? with
    | none => rw [q1] at e0; cases e0
    | some o =>
      rw [q1] at e0
      have ro := rs.at_ n a o ha q1
      cases o with
      | lst l =>
        obtain ⟨xs, h, _⟩ := ro
        exact ⟨_, .base (.lst h), fun t b e => kit_ty ((kit_list t).trans e)⟩
      | dk l =>
        obtain ⟨ks, h, _⟩ := ro
        exact ⟨_, .base (.dK h), fun t b e => kit_ty ((kit_dict t).trans e)⟩
      | dt l =>
        obtain ⟨ks, h, _⟩ := ro
        exact ⟨_, .base (.dT h), fun t b e => kit_ty ((kit_dict t).trans e)⟩
      | _ => cases e0
theorem ty_kit {t : Ty} {d : D} {x : V} {b : Bool} (rs : RS K A H s) (rv : RV K A H x d) (e : tyD s t d = some b) : ∃ w : Value, TyX K H x w ∧ PySem.W.kitOne K w (.type t.nm) = some b := by
  obtain ⟨w, ty, k⟩ := ty_kit2 rs rv e
  exact ⟨w, ty, k t b e⟩
theorem is_D {t : Ty} : CallR X (.builtin "isinstance") (rIsD X.K t) := by
  rintro pins st σ H vs us Q I r ⟨A, s, d, x, b, rfl, rs, rv, e, q⟩
  obtain ⟨w, ty, k⟩ := ty_kit rs rv e
  exact call_isi pins st σ H _ us Q I r ⟨x, .ty t.nm, w, .type t.nm, b, rfl, .ty _, ty, k, q⟩
/-! ### methods of lists -/
def rMt (K : PySem.W.Frag) (m : Mt) : V → List V → Hp → VK → Prop := fun x vs H Q => ∃ A s d ds, RS K A H s ∧ RV K A H x d ∧ RVs K A H vs ds ∧ Post K (RV K) A H (fun _ _ _ => False) Q (mtD m d ds s)
theorem mt_app : MtR X "list.append" (rMt X.K .append) := by
  rintro pins st σ H x vs v us Q I rx r ⟨A, s, d, ds, rs, rv, rds, P⟩
  cases ds with
  | nil => cases d <;> exact P.elim
  | cons e t =>
    cases t with
    | cons _ _ => cases d <;> exact P.elim
    | nil =>
      obtain ⟨y, rfl, ry⟩ := rvs1 rds
      cases d with
      | ref n =>
        cases rv with
        | @ref _ a ha =>
          have P' : Post X.K (RV X.K) A H (fun _ _ _ => False) Q (match s[n]? with
            | some (.lst l) => if l.length ≤ most then .ok .non (s.set n (.lst (l ++ [e]))) else .bad
            | _ => .bad) := P
          cases q1 : s[n]? with
          | none => rw [q1] at P'; exact P'.elim
          | some o =>
            rw [q1] at P'
            cases o with
            | lst l =>
              dsimp only at P'
              by_cases c : l.length ≤ most
              · rw [if_pos c] at P'
                obtain ⟨xs, h1, rxs⟩ := rs.at_ n a _ ha q1
                refine mt_append pins st σ H _ _ v us Q I rx r ⟨a, xs, y, rfl, rfl, h1, by rw [rxs.length]; exact lt_line c, ?_⟩
                exact P' .non _ A (Nx.heap (Kp.lst h1)) (rs.setl ha q1 h1 (rxs.append (.cons ry .nil))) .non
              · rw [if_neg c] at P'
                exact P'.elim
            | _ => exact P'.elim
      | _ => exact P.elim
end
end RI
set_option maxRecDepth 100000
set_option maxHeartbeats 4000000
/-! RD1: sorted, all, any, max, min, str; methods. -/
namespace RI
open PySem L2 PyProof.Rows
variable [Xs]
section
variable {K : PySem.W.Frag} {A : List Addr} {H : Hp} {s : Store} {X : Cx}
theorem optAll_get {α β : Type} {f : α → Option β} : ∀ {l : List α} {r : List β}, optAll (l.map f) = some r → ∀ a ∈ l, ∃ b ∈ r, f a = some b
  | [], r, h, a, ha => by cases ha
  | x :: l, r, h, a, ha => by
    rw [List.map_cons] at h
    unfold optAll at h
    cases e1 : f x with
    | none => rw [e1] at h; cases h
    | some y =>
      cases e2 : optAll (l.map f) with
      | none => rw [e1, e2] at h; cases h
      | some ys =>
        rw [e1, e2] at h
        cases h
        rcases List.mem_cons.mp ha with rfl | ha
        · exact ⟨y, List.mem_cons_self, e1⟩
        · obtain ⟨b, hb, e⟩ := optAll_get e2 a ha
          exact ⟨b, List.mem_cons_of_mem _ hb, e⟩
theorem optAll_map {α β : Type} {f : α → Option β} {g : β → α} (hg : ∀ a b, f a = some b → a = g b) : ∀ {l : List α} {r : List β}, optAll (l.map f) = some r → l = r.map g
  | [], r, h => by cases h; rfl
  | x :: l, r, h => by
    rw [List.map_cons] at h
    unfold optAll at h
    cases e1 : f x with
    | none => rw [e1] at h; cases h
    | some y =>
      cases e2 : optAll (l.map f) with
      | none => rw [e1, e2] at h; cases h
      | some ys =>
        rw [e1, e2] at h
        cases h
        rw [List.map_cons, ← hg _ _ e1, ← optAll_map hg e2]
theorem intD_of (d : D) (i : Int) (h : intD d = some i) : d = .int i := by cases d <;> first | (cases h; rfl) | cases h
theorem strD_of (d : D) (i : Str) (h : strD d = some i) : d = .str i := by cases d <;> first | (cases h; rfl) | cases h
theorem blD_of (d : D) (i : Bool) (h : blD d = some i) : d = .bl i := by cases d <;> first | (cases h; rfl) | cases h
theorem tupKs_of (d : D) (k : List Key) (h : tupKs d = some k) : d = ofKs k := by
  cases d with
  | tup t =>
    have e := keysD_of (show keysD t = some k from h)
    rw [e]
    rfl
  | _ => cases h
theorem rvs_ofInts : ∀ ns : List Int, RVs K A H (ns.map V.int) (ns.map D.int)
  | [] => .nil
  | n :: ns => .cons (.int n) (rvs_ofInts ns)
theorem rvs_int : ∀ {ns : List Int} {vs : List V}, RVs K A H vs (ns.map .int) → vs = ns.map .int
  | [], _, h => by cases h; rfl
  | n :: ns, _, h => by
    cases h with
    | cons r t => cases r; rw [rvs_int t]; rfl
theorem rvs_str : ∀ {ns : List Str} {vs : List V}, RVs K A H vs (ns.map .str) → vs = ns.map .str
  | [], _, h => by cases h; rfl
  | n :: ns, _, h => by
    cases h with
    | cons r t => cases r; rw [rvs_str t]; rfl
theorem rvs_bl : ∀ {ns : List Bool} {vs : List V}, RVs K A H vs (ns.map .bl) → vs = ns.map .bl
  | [], _, h => by cases h; rfl
  | n :: ns, _, h => by
    cases h with
    | cons r t => cases r; rw [rvs_bl t]; rfl
theorem rvs_mem : ∀ {ds : List D} {vs : List V}, RVs K A H vs ds → ∀ v ∈ vs, ∃ d ∈ ds, RV K A H v d
  | [], _, h, v, hv => by cases h; cases hv
  | d :: ds, _, h, v, hv => by
    cases h with
    | cons r t =>
      rcases List.mem_cons.mp hv with rfl | hv
      · exact ⟨d, List.mem_cons_self, r⟩
      · obtain ⟨e, he, q⟩ := rvs_mem t v hv
        exact ⟨e, List.mem_cons_of_mem _ he, q⟩
theorem rvs_of_mem {f : V → D} : ∀ {vs : List V}, (∀ v ∈ vs, RV K A H v (f v)) → RVs K A H vs (vs.map f)
  | [], _ => .nil
  | v :: vs, h => .cons (h v List.mem_cons_self) (rvs_of_mem fun u hu => h u (List.mem_cons_of_mem _ hu))
/-- the key that a tuple is -/
noncomputable def keyQ (K : PySem.W.Frag) (H : Hp) (v : V) : List Key := by
  classical
  exact match v with
  | .ref b => if h : ∃ ks : List Key, SqT K H b (ks.map kV) then h.choose else []
  | _ => []
theorem keyQ_eq {pins : List (Addr × Obj)} {σ : L2.St} {st : Shared} (I : Inv X pins σ H st) {b : Addr} {ks : List Key} (h : SqT X.K H b (ks.map kV)) : keyQ X.K H (.ref b) = ks := by
  unfold keyQ
  have ex : ∃ ks : List Key, SqT X.K H b (ks.map kV) := ⟨ks, h⟩
  dsimp only
  rw [dif_pos ex]
  exact (kVs_inj (I.tuple_inj h ex.choose_spec)).symm
theorem rvs_kf {kf : V → List Key} : ∀ {ds : List (List Key)} {vs : List V}, RVs K A H vs (ds.map ofKs) → (∀ v ∈ vs, ∀ k, RV K A H v (ofKs k) → kf v = k) → vs.map kf = ds
  | [], _, h, _ => by cases h; rfl
  | k :: ds, _, h, g => by
    cases h with
    | cons r t => rw [List.map_cons, g _ List.mem_cons_self k r, rvs_kf t fun v hv => g v (List.mem_cons_of_mem _ hv)]
theorem bi_sorted (hc : X.calm = true) : CallR X (.builtin "sorted") (rBi X.K .sorted) := by
  rintro pins st σ H vs us Q I r ⟨A, s, ds, rs, rds, P⟩
  match ds, rds, P with
  | [], _, P => exact P.elim
  | d :: _ :: _, _, P => cases d <;> exact P.elim
  | [d], rds, P =>
    obtain ⟨v, rfl, rv⟩ := rvs1 rds
    cases d with
    | ref n =>
      have gen : Post X.K (RV X.K) A H (fun _ _ _ => False) Q (match (lstOf s (.ref n)).bind sortD with
          | some r => .ok (.ref s.length) (s ++ [.lst r])
          | none => .bad) → wpAny (model X.prog X.w) X.A (call (.builtin "sorted") us) (EP X pins σ Q) X.xe st := fun P' => by
        cases e : lstOf s (.ref n) with
        | none => rw [e] at P'; exact P'.elim
        | some l =>
          rw [e, Option.bind_some] at P'
          obtain ⟨a, m, rfl, em, ea⟩ := lst_ref rv e
          obtain ⟨xs, sq, rxs⟩ := lst_sq rs rv e
          unfold sortD at P'
          cases e1 : optAll (l.map tupKs) with
          | some ks =>
            rw [e1] at P'
            dsimp only at P'
            unfold sortT at P'
            by_cases c : (ks.all fun k => !k.isEmpty && shapeOk (shapeL ks) 0 k) = true
            · rw [if_pos c] at P'
              have P2 : Post X.K (RV X.K) A H (fun _ _ _ => False) Q (.ok (.ref s.length) (s ++ [.lst ((isrt ltK ks).map ofKs)])) := P'
              have el := optAll_map tupKs_of e1
              subst el
              have kq : ∀ v ∈ xs, ∃ k ∈ ks, ∃ t, v = .ref t ∧ SqT X.K H t (k.map kV) ∧ keyQ X.K H v = k := fun v hv => by
                obtain ⟨d, hd, rd⟩ := rvs_mem rxs v hv
                obtain ⟨k, hk, rfl⟩ := List.mem_map.mp hd
                cases rd with
                | @tup t ys _ q1 _ q2 =>
                  have ey := keys_rv q2
                  subst ey
                  exact ⟨k, hk, t, rfl, q1, keyQ_eq I q1⟩
              have ek : xs.map (keyQ X.K H) = ks := rvs_kf rxs fun v hv k rk => by
                cases rk with
                | @tup t ys _ q1 _ q2 =>
                  have ey := keys_rv q2
                  subst ey
                  exact keyQ_eq I q1
              refine cr_sortKT pins st σ H _ us Q I r ⟨a, xs, shapeL ks, keyQ X.K H, rfl, sq, fun x hx => ?_, fun ys p hp hs hn => ?_⟩
              · obtain ⟨k, hk, t, rfl, q1, e2⟩ := kq x hx
                have ck := List.all_eq_true.mp c k hk
                rw [Bool.and_eq_true, Bool.not_eq_true'] at ck
                rw [e2]
                exact ⟨(fun z => by rw [z] at ck; cases ck.1), ck.2, t, rfl, q1⟩
              · have e3 : ys.map (keyQ X.K H) = isrt ltK ks := isrt_keys (by rw [← ek]; exact hp.map _) (by rw [List.pairwise_map]; exact hs)
                have nx : Nx A (A ++ [p]) H (upd H p (.lst ys)) := Nx.new hn
                have rys : RVs X.K A H ys ((isrt ltK ks).map ofKs) := by
                  rw [← e3, List.map_map]
                  refine rvs_of_mem fun v hv => ?_
                  have hv' := hp.mem_iff.mp hv
                  obtain ⟨d, hd, rd⟩ := rvs_mem rxs v hv'
                  obtain ⟨k, hk, rfl⟩ := List.mem_map.mp hd
                  have e4 : keyQ X.K H v = k := by
                    cases rd with
                    | @tup t zs _ q1 _ q2 =>
                      have ey := keys_rv q2
                      subst ey
                      exact keyQ_eq I q1
                  show RV X.K A H v (ofKs (keyQ X.K H v))
                  rw [e4]
                  exact rd
                exact P2 (.ref p) _ (A ++ [p]) nx (rs.new hn rfl ⟨_, upd_same, rys.mono nx⟩) (.ref (at_last rs p))
            · rw [if_neg c] at P'
              exact P'.elim
          | none =>
            rw [e1] at P'
            dsimp only at P'
            cases e2 : optAll (l.map intD) with
            | none => rw [e2] at P'; exact P'.elim
            | some ns =>
              rw [e2] at P'
              have P2 : Post X.K (RV X.K) A H (fun _ _ _ => False) Q (.ok (.ref s.length) (s ++ [.lst ((isrt (fun i j => decide (i < j)) ns).map .int)])) := P'
              have el := optAll_map intD_of e2
              subst el
              have ex := rvs_int rxs
              subst ex
              refine cr_sortedI pins st σ H _ us Q I r ⟨a, ns, rfl, sq, fun ns' p hp hs hn => ?_⟩
              have e3 := isrt_ints hp hs
              have nx : Nx A (A ++ [p]) H (upd H p (.lst (ns'.map V.int))) := Nx.new hn
              have rys : RVs X.K A H (ns'.map V.int) ((isrt (fun i j => decide (i < j)) ns).map .int) := by
                rw [← e3]
                exact rvs_ofInts ns'
              exact P2 (.ref p) _ (A ++ [p]) nx (rs.new hn rfl ⟨_, upd_same, rys.mono nx⟩) (.ref (at_last rs p))
      have P0 : Post X.K (RV X.K) A H (fun _ _ _ => False) Q (match s[n]? with
          | some (.dt l) => (match sortT (l.map (·.1)) with
            | some r => .ok (.ref s.length) (s ++ [.lst (r.map ofKs)])
            | none => .bad)
          | _ => (match (lstOf s (.ref n)).bind sortD with
            | some r => .ok (.ref s.length) (s ++ [.lst r])
            | none => .bad)) := P
      cases q : s[n]? with
      | none => rw [q] at P0; exact gen P0
      | some o =>
        rw [q] at P0
        cases o with
        | dt l =>
          dsimp only at P0
          cases rv with
          | @ref _ a ha =>
            obtain ⟨kvs, hk, rk⟩ := rs.at_ n a _ ha q
            unfold sortT at P0
            by_cases c : ((l.map (·.1)).all fun k => !k.isEmpty && shapeOk (shapeL (l.map (·.1))) 0 k) = true
            · rw [if_pos c] at P0
              have P2 : Post X.K (RV X.K) A H (fun _ _ _ => False) Q (.ok (.ref s.length) (s ++ [.lst ((isrt ltK (l.map (·.1))).map ofKs)])) := P0
              refine cr_sortDT hc pins st σ H _ us Q I r ⟨a, kvs, shapeL (l.map (·.1)), rfl, .inl hk, fun p hp => ?_, fun bs kf ys p ik hkf hp hs hn => ?_⟩
              · have hm : p.1 ∈ l.map (·.1) := by rw [← rk.keys]; exact List.mem_map_of_mem hp
                have ck := List.all_eq_true.mp c _ hm
                rw [Bool.and_eq_true, Bool.not_eq_true'] at ck
                exact ⟨(fun z => by rw [z] at ck; cases ck.1), ck.2⟩
              · have ek : (bs.map V.ref).map kf = l.map (·.1) := by
                  rw [← rk.keys, List.map_map]
                  unfold IsKeys at ik
                  clear hp hs P2 P0 c rk hk
                  induction ik with
                  | nil => rfl
                  | @cons p b ps bs h t ih =>
                    rw [List.map_cons, List.map_cons]
                    have e1 := hkf b List.mem_cons_self
                    rw [h] at e1
                    have e2 : p.1.map kV = (kf (.ref b)).map kV := by injection e1 with e1; injection e1
                    have e3 := kVs_inj e2
                    rw [ih fun c hc => hkf c (List.mem_cons_of_mem _ hc)]
                    show kf (.ref b) :: _ = p.1 :: _
                    rw [← e3]
                have e3 : ys.map kf = isrt ltK (l.map (·.1)) := isrt_keys (by rw [← ek]; exact hp.map _) (by rw [List.pairwise_map]; exact hs)
                have nx : Nx A (A ++ [p]) H (upd H p (.lst ys)) := Nx.new hn
                have rys : RVs X.K A H ys ((isrt ltK (l.map (·.1))).map ofKs) := by
                  rw [← e3, List.map_map]
                  refine rvs_of_mem fun v hv => ?_
                  obtain ⟨b, hb, rfl⟩ := List.mem_map.mp (hp.mem_iff.mp hv)
                  exact RV.tup (SqT.of (hkf b hb)) (.inl (hkf b hb)) (rvs_keys _)
                exact P2 (.ref p) _ (A ++ [p]) nx (rs.new hn rfl ⟨_, upd_same, rys.mono nx⟩) (.ref (at_last rs p))
            · rw [if_neg c] at P0
              exact P0.elim
        | lst l => exact gen P0
        | ro l => exact gen P0
        | dk l => exact gen P0
        | ins _ _ => exact gen P0
    | _ => exact P.elim
theorem bi_all (hc : X.calm = true) : CallR X (.builtin "all") (rBi X.K .all) := by
  rintro pins st σ H vs us Q I r ⟨A, s, ds, rs, rds, P⟩
  match ds, rds, P with
  | [], _, P => exact P.elim
  | d :: _ :: _, _, P => cases d <;> exact P.elim
  | [d], rds, P =>
    obtain ⟨v, rfl, rv⟩ := rvs1 rds
    have P' : Post X.K (RV X.K) A H (fun _ _ _ => False) Q (match (lstOf s d).bind fun l => optAll (l.map blD) with
      | some bs => .ok (.bl (bs.all id)) s
      | none => .bad) := by cases d <;> exact P
    cases e : lstOf s d with
    | none => rw [e] at P'; exact P'.elim
    | some l =>
      rw [e, Option.bind_some] at P'
      cases e1 : optAll (l.map blD) with
      | none => rw [e1] at P'; exact P'.elim
      | some bs =>
        rw [e1] at P'
        obtain ⟨a, m, rfl, em, ea⟩ := lst_ref rv e
        obtain ⟨xs, sq, rxs⟩ := lst_sq rs rv e
        have el := optAll_map blD_of e1
        subst el
        have ex := rvs_bl rxs
        subst ex
        exact cr_all hc pins st σ H _ us Q I r ⟨a, bs, rfl, sq, post_ok P' rs (.bl _)⟩
theorem bi_any (hc : X.calm = true) : CallR X (.builtin "any") (rBi X.K .any) := by
  rintro pins st σ H vs us Q I r ⟨A, s, ds, rs, rds, P⟩
  match ds, rds, P with
  | [], _, P => exact P.elim
  | d :: _ :: _, _, P => cases d <;> exact P.elim
  | [d], rds, P =>
    obtain ⟨v, rfl, rv⟩ := rvs1 rds
    have P' : Post X.K (RV X.K) A H (fun _ _ _ => False) Q (match (lstOf s d).bind fun l => optAll (l.map blD) with
      | some bs => .ok (.bl (bs.any id)) s
      | none => .bad) := by cases d <;> exact P
    cases e : lstOf s d with
    | none => rw [e] at P'; exact P'.elim
    | some l =>
      rw [e, Option.bind_some] at P'
      cases e1 : optAll (l.map blD) with
      | none => rw [e1] at P'; exact P'.elim
      | some bs =>
        rw [e1] at P'
        obtain ⟨a, m, rfl, em, ea⟩ := lst_ref rv e
        obtain ⟨xs, sq, rxs⟩ := lst_sq rs rv e
        have el := optAll_map blD_of e1
        subst el
        have ex := rvs_bl rxs
        subst ex
        exact cr_any hc pins st σ H _ us Q I r ⟨a, bs, rfl, sq, post_ok P' rs (.bl _)⟩
theorem bi_max (hc : X.calm = true) : CallR X (.builtin "max") (rBi X.K .max) := by
  rintro pins st σ H vs us Q I r ⟨A, s, ds, rs, rds, P⟩
  match ds, rds, P with
  | [], _, P => exact P.elim
  | [d], _, P => cases d <;> exact P.elim
  | d :: e :: _ :: _, _, P => cases d <;> first | exact P.elim | (cases e <;> exact P.elim)
  | [d, e], rds, P =>
    obtain ⟨v, w, rfl, rv, rw_⟩ := rvs2 rds
    cases d with
    | int i =>
      cases e with
      | int j =>
        cases rv
        cases rw_
        exact call_max2 hc pins st σ H _ us Q I r ⟨i, j, rfl, post_ok P rs (.int _)⟩
      | _ => exact P.elim
    | _ => exact P.elim
theorem bi_min (hc : X.calm = true) : CallR X (.builtin "min") (rBi X.K .min) := by
  rintro pins st σ H vs us Q I r ⟨A, s, ds, rs, rds, P⟩
  match ds, rds, P with
  | [], _, P => exact P.elim
  | [d], _, P => cases d <;> exact P.elim
  | d :: e :: _ :: _, _, P => cases d <;> first | exact P.elim | (cases e <;> exact P.elim)
  | [d, e], rds, P =>
    obtain ⟨v, w, rfl, rv, rw_⟩ := rvs2 rds
    cases d with
    | int i =>
      cases e with
      | int j =>
        cases rv
        cases rw_
        exact call_min2 hc pins st σ H _ us Q I r ⟨i, j, rfl, post_ok P rs (.int _)⟩
      | _ => exact P.elim
    | _ => exact P.elim
theorem bi_str : CallR X (.type "str") (rBi X.K .str) := by
  rintro pins st σ H vs us Q I r ⟨A, s, ds, rs, rds, P⟩
  match ds, rds, P with
  | [], _, P => exact P.elim
  | d :: _ :: _, _, P => cases d <;> exact P.elim
  | [d], rds, P =>
    obtain ⟨v, rfl, rv⟩ := rvs1 rds
    cases d with
    | int i =>
      cases rv
      have P' : Post X.K (RV X.K) A H (fun _ _ _ => False) Q (if i.natAbs.log2 < 1920 then .ok (.str (toString i)) s else .bad) := P
      by_cases c : i.natAbs.log2 < 1920
      · rw [if_pos c] at P'
        exact call_str_int pins st σ H _ us Q I r ⟨i, rfl, c, post_ok P' rs (.str _)⟩
      · rw [if_neg c] at P'
        exact P'.elim
    | _ => exact P.elim
/-! ### methods -/
theorem mt_popD : MtR X "list.pop" (rMt X.K .pop) := by
  rintro pins st σ H x vs v us Q I rx r ⟨A, s, d, ds, rs, rv, rds, P⟩
  match ds, rds, P with
  | _ :: _, _, P => cases d <;> exact P.elim
  | [], rds, P =>
    cases rds
    cases d with
    | ref n =>
      cases rv with
      | @ref _ a ha =>
        have P' : Post X.K (RV X.K) A H (fun _ _ _ => False) Q (match s[n]? with
          | some (.lst l) => (match l[l.length - 1]? with
            | some d => .ok d (s.set n (.lst l.dropLast))
            | none => .bad)
          | _ => .bad) := P
        cases q : s[n]? with
        | none => rw [q] at P'; exact P'.elim
        | some o =>
          rw [q] at P'
          cases o with
          | lst l =>
            dsimp only at P'
            obtain ⟨xs, h1, rxs⟩ := rs.at_ n a _ ha q
            cases e : l[l.length - 1]? with
            | none => rw [e] at P'; exact P'.elim
            | some z =>
              rw [e] at P'
              obtain ⟨y, e1, ry⟩ := rxs.get e
              refine mt_pop pins st σ H _ _ v us Q I rx r ⟨a, xs, y, rfl, rfl, h1, by rw [rxs.length]; exact e1, ?_⟩
              have rd : RVs X.K A H xs.dropLast l.dropLast := by
                rw [List.dropLast_eq_take, List.dropLast_eq_take, rxs.length]
                exact rxs.take _
              have kp := Kp.lst (ys := xs.dropLast) h1
              exact P' y _ A (Nx.heap kp) (rs.setl ha q h1 rd) (ry.mono (Nx.heap kp))
          | _ => exact P'.elim
    | _ => exact P.elim
theorem mt_clearD : MtR X "list.clear" (rMt X.K .clear) := by
  rintro pins st σ H x vs v us Q I rx r ⟨A, s, d, ds, rs, rv, rds, P⟩
  match ds, rds, P with
  | _ :: _, _, P => cases d <;> exact P.elim
  | [], rds, P =>
    cases rds
    cases d with
    | ref n =>
      cases rv with
      | @ref _ a ha =>
        have P' : Post X.K (RV X.K) A H (fun _ _ _ => False) Q (match s[n]? with
          | some (.lst _) => .ok .non (s.set n (.lst []))
          | _ => .bad) := P
        cases q : s[n]? with
        | none => rw [q] at P'; exact P'.elim
        | some o =>
          rw [q] at P'
          cases o with
          | lst l =>
            dsimp only at P'
            obtain ⟨xs, h1, rxs⟩ := rs.at_ n a _ ha q
            exact mt_clear pins st σ H _ _ v us Q I rx r ⟨a, xs, rfl, rfl, h1, P' .non _ A (Nx.heap (Kp.lst h1)) (rs.setl ha q h1 .nil) .non⟩
          | _ => exact P'.elim
    | _ => exact P.elim
theorem mt_getD (hu : X.A.units + 150 < cLine) : MtR X "dict.get" (rMt X.K .get) := by
  rintro pins st σ H x vs v us Q I rx r ⟨A, s, d, ds, rs, rv, rds, P⟩
  match ds, rds, P with
  | [], _, P => cases d <;> exact P.elim
  | _ :: _ :: _ :: _, _, P => cases d <;> exact P.elim
  | [k], rds, P =>
    obtain ⟨y, rfl, ry⟩ := rvs1 rds
    have P' : Post X.K (RV X.K) A H (fun _ _ _ => False) Q (match dgetD s d k with
      | some o => .ok (o.getD .non) s
      | none => .bad) := by cases d <;> exact P
    cases q : dgetD s d k with
    | none => rw [q] at P'; exact P'.elim
    | some o =>
      rw [q] at P'
      obtain ⟨a, ov, rfl, g, ro⟩ := dget_of rs rv ry q
      refine mt_dget1 (by omega) pins st σ H _ _ v us Q I rx r ⟨a, y, ov, rfl, rfl, g, post_ok P' rs ?_⟩
      cases ro with
      | none => exact .non
      | some h => exact h
  | [k, z], rds, P =>
    obtain ⟨y, w, rfl, ry, rw_⟩ := rvs2 rds
    have P' : Post X.K (RV X.K) A H (fun _ _ _ => False) Q (match dgetD s d k with
      | some o => .ok (o.getD z) s
      | none => .bad) := by cases d <;> exact P
    cases q : dgetD s d k with
    | none => rw [q] at P'; exact P'.elim
    | some o =>
      rw [q] at P'
      obtain ⟨a, ov, rfl, g, ro⟩ := dget_of rs rv ry q
      refine mt_dget2 (by omega) pins st σ H _ _ v us Q I rx r ⟨a, y, w, ov, rfl, rfl, g, post_ok P' rs ?_⟩
      cases ro with
      | none => exact rw_
      | some h => exact h
theorem mt_joinD : MtR X "str.join" (rMt X.K .join) := by
  rintro pins st σ H x vs v us Q I rx r ⟨A, s, d, ds, rs, rv, rds, P⟩
  match ds, rds, P with
  | [], _, P => cases d <;> exact P.elim
  | _ :: _ :: _, _, P => cases d <;> exact P.elim
  | [e], rds, P =>
    obtain ⟨y, rfl, ry⟩ := rvs1 rds
    cases d with
    | str a =>
      cases rv
      have P' : Post X.K (RV X.K) A H (fun _ _ _ => False) Q (match (seqOf s e).bind fun l => optAll (l.map strD) with
        | some ys => if (ys.map (·.length)).sum + ys.length * a.length ≤ most then .ok (.str (Txt.join a ys)) s else .bad
        | none => .bad) := P
      cases e1 : seqOf s e with
      | none => rw [e1] at P'; exact P'.elim
      | some l =>
        rw [e1, Option.bind_some] at P'
        cases e2 : optAll (l.map strD) with
        | none => rw [e2] at P'; exact P'.elim
        | some ys =>
          rw [e2] at P'
          dsimp only at P'
          by_cases c : (ys.map (·.length)).sum + ys.length * a.length ≤ most
          · rw [if_pos c] at P'
            obtain ⟨p, xs, rfl, rxs, sq⟩ := seq_sq rs ry e1
            have el := optAll_map strD_of e2
            subst el
            have ex := rvs_str rxs
            subst ex
            exact mt_join pins st σ H _ _ v us Q I rx r ⟨a, p, ys, rfl, rfl, sq, Nat.le_trans c (by decide), post_ok P' rs (.str _)⟩
          · rw [if_neg c] at P'
            exact P'.elim
    | _ => exact P.elim
def Mt.ty : Mt → String
  | .get => "dict"
  | .join => "str"
  | _ => "list"
def Mt.nm : Mt → Str
  | .append => "append" | .pop => "pop" | .clear => "clear" | .get => "get" | .join => "join"
def Mt.id : Mt → String
  | .append => "list.append" | .pop => "list.pop" | .clear => "list.clear" | .get => "dict.get" | .join => "str.join"
theorem mt_ok (hu : X.A.units + 150 < cLine) (m : Mt) : MtR X m.id (rMt X.K m) := by
  cases m
  · exact mt_app
  · exact mt_popD
  · exact mt_clearD
  · exact mt_getD hu
  · exact mt_joinD
theorem rcv_ty {m : Mt} {d : D} {x : V} (rs : RS K A H s) (rv : RV K A H x d) (c : rcvOk m s d = true) : tyV K m.ty x H := by
  have lst : isLst s d = true → tyV K "list" x H := fun c => by
    cases d with
    | ref n =>
      unfold isLst at c
      dsimp only at c
      cases e : s[n]? with
      | none => rw [e] at c; cases c
      | some ob =>
        rw [e] at c
        cases ob with
        | lst l =>
          cases rv with
          | ref ea =>
            obtain ⟨xs, h, _⟩ := rs.at_ n _ _ ea e
            exact .inl ⟨rfl, xs, SqL.of h⟩
        | _ => cases c
    | _ => cases c
  cases m with
  | append => exact lst c
  | pop => exact lst c
  | clear => exact lst c
  | get =>
    have c : isDct s d = true := c
    cases d with
    | ref n =>
      unfold isDct at c
      dsimp only at c
      cases e : s[n]? with
      | none => rw [e] at c; cases c
      | some ob =>
        rw [e] at c
        cases rv with
        | ref ea =>
          have ro := rs.at_ n _ _ ea e
          cases ob with
          | dk l =>
            obtain ⟨ks, h, _⟩ := ro
            exact .inr (.inr (.inl ⟨rfl, .inl ⟨ks, h⟩⟩))
          | dt l =>
            obtain ⟨ks, h, _⟩ := ro
            exact .inr (.inr (.inl ⟨rfl, .inr ⟨ks, h⟩⟩))
          | _ => cases c
    | _ => cases c
  | join =>
    cases d with
    | str z => cases rv; rfl
    | _ => cases c
theorem mt_plain (m : Mt) : PlainAttrs m.ty ∧ Slot m.ty m.nm m.id ∧ typeOf (.builtin m.id) = pure (.type "method_descriptor") := by
  cases m
  · exact ⟨PySem.F.plainAttrs_list, PySem.F.slot_list_append, PySem.F.type_list_append⟩
  · exact ⟨PySem.F.plainAttrs_list, PySem.F.slot_list_pop, PySem.F.type_list_pop⟩
  · exact ⟨PySem.F.plainAttrs_list, PySem.F.slot_list_clear, PySem.F.type_list_clear⟩
  · exact ⟨PySem.F.plainAttrs_dict, PySem.F.slot_dict_get, PySem.F.type_dict_get⟩
  · exact ⟨PySem.F.plainAttrs_str, PySem.F.slot_str_join, PySem.F.type_str_join⟩
/-- isinstance(x, (T, ..)) -/
theorem kits_any {t : D} {w : Value} (one : ∀ (u : Ty) (b : Bool), tyD s u t = some b → PySem.W.kitOne K w (.type u.nm) = some b) :
    ∀ {ts : List Ty} {bs : List Bool}, optAll (ts.map fun u => tyD s u t) = some bs → PySem.W.kitAny K w (ts.map fun u => Value.type u.nm) = some (bs.any id)
  | [], bs, h => by cases h; exact kitAny_nil
  | u :: ts, bs, h => by
    rw [List.map_cons] at h
    unfold optAll at h
    cases e1 : tyD s u t with
    | none => rw [e1] at h; cases h
    | some b =>
      cases e2 : optAll (ts.map fun u => tyD s u t) with
      | none => rw [e1, e2] at h; cases h
      | some r =>
        rw [e1, e2] at h
        cases h
        have ih := kits_any one e2
        rw [List.map_cons, List.any_cons]
        exact kitAny_cons (one u b e1) (fun hb => by rw [hb]; exact ih) fun hb => by rw [hb]; rfl
end
end RI
set_option maxRecDepth 100000
set_option maxHeartbeats 4000000
/-! RE: expressions keep what the machine does: one lemma a construct. -/
namespace L2
open PySem PyProof.Rows
theorem PE.weak {X : Cx} {e : Expr} {t t' : TE} (h : PE X e t) (w : ∀ σ H Q, t' σ H Q → t σ H Q) : PE X e t' := ⟨fun pins s σ H Q I q => h.run pins s σ H Q I (w σ H Q q)⟩
theorem PT.weak {X : Cx} {e : Expr} {t t' : TT} (h : PT X e t) (w : ∀ σ H Q, t' σ H Q → t σ H Q) : PT X e t' := ⟨fun pins s σ H Q I q => h.run pins s σ H Q I (w σ H Q q)⟩
theorem PA.weak {X : Cx} {e : List Expr} {t t' : TA} (h : PA X e t) (w : ∀ σ H Q, t' σ H Q → t σ H Q) : PA X e t' := ⟨fun pos pins s σ H Q I q => h.run pos pins s σ H Q I (w σ H Q q)⟩
theorem PO.weak {X : Cx} {e : Option Expr} {t t' : TO} (h : PO X e t) (w : ∀ σ H Q, t' σ H Q → t σ H Q) : PO X e t' := ⟨fun pins s σ H Q I q => h.run pins s σ H Q I (w σ H Q q)⟩
end L2
namespace RI
open PySem L2 PyProof.Rows
variable [Xs]
/-- the readings: what the language computes stands behind it -/
def tR {α β : Type} (K : PySem.W.Frag) (sd : L2.St → Prop) (W : WX) (R : List Addr → Hp → β → α → Prop) (m : Env → M α) : L2.St → Hp → (β → Hp → Prop) → Prop := fun σ H Q =>
  ∃ A st ρ, sd σ ∧ RS K A H st ∧ RSl K A H σ ρ ∧ Post K R A H (fun c d H' => W c d σ H') Q (m ρ st)
abbrev tE (K : PySem.W.Frag) (sd : L2.St → Prop) (W : WX) (m : Env → M D) : TE := tR K sd W (RV K) m
abbrev tEs (K : PySem.W.Frag) (sd : L2.St → Prop) (W : WX) (m : Env → M (List D)) : TA := tR K sd W (RVs K) m
abbrev tT (K : PySem.W.Frag) (sd : L2.St → Prop) (W : WX) (m : Env → M Bool) : TT := tR K sd W (fun _ _ b c => b = c) m
abbrev tO (K : PySem.W.Frag) (sd : L2.St → Prop) (W : WX) (m : Env → M (Option Int)) : TO := tR K sd W (fun _ _ b c => b = c) m
section
variable {K : PySem.W.Frag} {sd : L2.St → Prop} {W : WX}
/-- one computation, then another -/
theorem tR.bnd {α β γ δ : Type} {R1 : List Addr → Hp → γ → α → Prop} {R2 : List Addr → Hp → δ → β → Prop} {m : Env → M α} {f : α → Env → M β} {σ : L2.St} {H : Hp} {Q : δ → Hp → Prop}
    (h : tR K sd W R2 (fun ρ => bnd (m ρ) fun a => f a ρ) σ H Q) :
    tR K sd W R1 m σ H fun x H1 => ∃ A1 s1 d ρ, sd σ ∧ RS K A1 H1 s1 ∧ RSl K A1 H1 σ ρ ∧ R1 A1 H1 x d ∧ Post K R2 A1 H1 (fun c d H' => W c d σ H') Q (f d ρ s1) := by
  obtain ⟨A, st, ρ, hs, rs, rl, P⟩ := h
  refine ⟨A, st, ρ, hs, rs, rl, (Post.bnd (R1 := R1) P).imp fun v H1 ⟨A1, s1, d, nx, rs1, r, P1⟩ => ?_⟩
  exact ⟨A1, s1, d, ρ, hs, rs1, rl.mono nx, r, P1⟩
theorem post_nox {α β : Type} {R : List Addr → Hp → β → α → Prop} {A : List Addr} {H : Hp} {X X' : XW} {Q : β → Hp → Prop} {r : Res α} (h : Post K R A H X Q r) (n : ∀ x s, r ≠ .ex x s) : Post K R A H X' Q r := by
  cases r with
  | ok d s => exact h
  | ex x s => exact absurd rfl (n x s)
  | bad => exact h
theorem ofO_nox {α : Type} {o : Option α} {s : Store} (x : Exn) (t : Store) : ofO o s ≠ .ex x t := by
  intro h
  cases o <;> cases h
theorem binD_nox {op : Operator} {a b : D} {s : Store} (x : Exn) (t : Store) : binD op a b s ≠ .ex x t := by
  intro h
  unfold binD at h
  cases a <;> cases b <;> dsimp only at h <;> first
    | exact ofO_nox _ _ h
    | (cases op <;> first
        | (split at h <;> first | (split at h <;> cases h) | cases h)
        | cases h)
    | (split at h <;> first | (split at h <;> cases h) | cases h)
    | cases h
theorem lenDct_nox {s : Store} {d : D} (x : Exn) (t : Store) : lenDct s d ≠ .ex x t := by
  intro h
  unfold lenDct at h
  split at h
  · split at h <;> cases h
  · cases h
theorem biD_nox {f : Bi} {as : List D} {s : Store} (x : Exn) (t : Store) : biD f as s ≠ .ex x t := by
  intro h
  unfold biD at h
  split at h <;> first
    | (split at h <;> first
        | (split at h <;> first | cases h | (split at h <;> cases h))
        | exact lenDct_nox _ _ h
        | cases h)
    | cases h
theorem mtD_nox {m : Mt} {a : D} {as : List D} {s : Store} (x : Exn) (t : Store) : mtD m a as s ≠ .ex x t := by
  intro h
  unfold mtD at h
  split at h <;> first
    | (split at h <;> first | (split at h <;> cases h) | cases h)
    | cases h
end
section
variable {X : Cx} {sd : L2.St → Prop} {W : WX} {B : Tb} {pos : Pos}
/-- the same computation, said otherwise -/
theorem tR.to {α β : Type} {R : List Addr → Hp → β → α → Prop} {m m' : Env → M α} {σ : L2.St} {H : Hp} {Q : β → Hp → Prop} (h : tR X.K sd W R m σ H Q) (e : ∀ ρ, m ρ = m' ρ) : tR X.K sd W R m' σ H Q := by
  obtain ⟨A, st, ρ, hs, rs, rl, P⟩ := h
  exact ⟨A, st, ρ, hs, rs, rl, by rw [← e]; exact P⟩
theorem se_c {e : Expr} {v : V} {d : D} (h : PE X e (tC v)) (r : ∀ A H, RV X.K A H v d) : PE X e (tE X.K sd W (ev B (.c d))) :=
  h.weak fun σ H Q ⟨A, st, ρ, hs, rs, rl, P⟩ => by
    rw [ev] at P
    exact post_ok P rs (r A H)
theorem se_var {i : Nat} {e : Expr} (h : PE X e (tVar i)) : PE X e (tE X.K sd W (ev B (.var i))) :=
  h.weak fun σ H Q ⟨A, st, ρ, hs, rs, rl, P⟩ => by
    rw [ev] at P
    cases q : ρ[i]? with
    | none => rw [q] at P; exact P.elim
    | some o =>
      cases o with
      | none => rw [q] at P; exact P.elim
      | some d =>
        rw [q] at P
        obtain ⟨v, e1, r⟩ := rl.at_ i d q
        exact ⟨v, e1, post_ok P rs r⟩
theorem se_glob {x : Str} {e : Expr} {v : V} {d : D} (h : PE X e (tC v)) (hg : B.gl x = some d) (r : ∀ A H, RV X.K A H v d) : PE X e (tE X.K sd W (ev B (.glob x))) :=
  h.weak fun σ H Q ⟨A, st, ρ, hs, rs, rl, P⟩ => by
    rw [ev, hg] at P
    exact post_ok P rs (r A H)
theorem se_tup {es : Es} {l : List Expr} {k : Nat} (h : PA X l (tEs X.K sd W (evs B es))) : PE X (.Tuple l k pos) (tE X.K sd W (ev B (.tup es))) :=
  (pe_tup h).weak fun σ H Q q => by
    obtain ⟨A, st, ρ, hs, rs, rl, P⟩ := tR.bnd (R1 := RVs X.K) (m := evs B es) (f := fun ds _ => tupK ds) (q.to fun ρ => by rw [ev])
    refine ⟨A, st, ρ, hs, rs, rl, P.imp fun vs H1 ⟨A1, s1, ds, ρ1, _, rs1, _, r, P1⟩ => ?_⟩
    unfold tupK at P1
    by_cases c : ds.length ≤ most
    · rw [if_pos c] at P1
      refine ⟨by rw [r.length]; exact le_line c, fun p hp => ?_⟩
      have nx : Nx A1 A1 H1 (upd H1 p (.tup vs)) := Nx.heap (Kp.new hp)
      exact P1 (.ref p) _ A1 nx (rs1.same (same_new hp)) (RV.tup (SqT.of upd_same) (.inl upd_same) (r.mono nx))
    · rw [if_neg c] at P1
      exact P1.elim
theorem se_lst {es : Es} {l : List Expr} (h : PA X l (tEs X.K sd W (evs B es))) : PE X (.List l pos) (tE X.K sd W (ev B (.lst es))) :=
  (pe_lst h).weak fun σ H Q q => by
    obtain ⟨A, st, ρ, hs, rs, rl, P⟩ := tR.bnd (R1 := RVs X.K) (m := evs B es) (f := fun ds _ => lstK ds) (q.to fun ρ => by rw [ev])
    refine ⟨A, st, ρ, hs, rs, rl, P.imp fun vs H1 ⟨A1, s1, ds, ρ1, _, rs1, _, r, P1⟩ => ?_⟩
    unfold lstK at P1
    by_cases c : ds.length ≤ most
    · rw [if_pos c] at P1
      refine ⟨by rw [r.length]; exact le_line c, fun p hp => ?_⟩
      have nx : Nx A1 (A1 ++ [p]) H1 (upd H1 p (.lst vs)) := Nx.new hp
      exact P1 (.ref p) _ (A1 ++ [p]) nx (rs1.new hp rfl ⟨_, upd_same, r.mono nx⟩) (RV.ref (at_last rs1 p))
    · rw [if_neg c] at P1
      exact P1.elim
/-- two operands, then an operation -/
theorem two {β δ : Type} {R2' : List Addr → Hp → δ → β → Prop} {a b : Env → M D} {f : D → D → M β} {σ : L2.St} {H : Hp} {Q : δ → Hp → Prop} {QV : VK} {r : R2} (q : tR X.K sd W R2' (fun ρ => bnd (a ρ) fun x => bnd (b ρ) fun y => f x y) σ H Q)
    (h : ∀ A s H x y d1 d2, RS X.K A H s → RV X.K A H x d1 → RV X.K A H y d2 → Post X.K R2' A H (fun c d H' => W c d σ H') Q (f d1 d2 s) → r x y H QV) :
    tOp r (tE X.K sd W a) (tE X.K sd W b) σ H QV := by
  obtain ⟨A, st, ρ, hs, rs, rl, P⟩ := tR.bnd (R1 := RV X.K) (f := fun x ρ => bnd (b ρ) fun y => f x y) q
  refine ⟨A, st, ρ, hs, rs, rl, P.imp fun x H1 ⟨A1, s1, d1, ρ1, hs1, rs1, rl1, r1, P1⟩ => ?_⟩
  refine ⟨A1, s1, ρ1, hs1, rs1, rl1, (Post.bnd (R1 := RV X.K) P1).imp fun y H2 ⟨A2, s2, d2, nx, rs2, r2, P2⟩ => ?_⟩
  exact h A2 s2 H2 x y d1 d2 rs2 (r1.mono nx) r2 P2
theorem se_bin {op : Operator} {a b : E} {ea eb : Expr} (ha : PE X ea (tE X.K sd W (ev B a))) (hb : PE X eb (tE X.K sd W (ev B b))) : PE X (.BinOp ea op eb pos) (tE X.K sd W (ev B (.bin op a b))) :=
  (pe_op op_bin ha hb).weak fun σ H Q q => two (f := binD op) (q.to fun ρ => by rw [ev]) fun A s H x y d1 d2 rs r1 r2 P => ⟨A, s, d1, d2, rs, r1, r2, post_nox P fun _ _ => binD_nox _ _⟩
theorem se_cmp {op : CmpOp} {a b : E} {ea eb : Expr} (hu : X.A.units + 150 < cLine) (hm : behindInMarks op eb = false) (ha : PE X ea (tE X.K sd W (ev B a))) (hb : PE X eb (tE X.K sd W (ev B b))) :
    PE X (.Compare ea [op] [eb] pos) (tE X.K sd W (ev B (.cmp op a b))) :=
  (pe_cmpR (op_cmp hu) ha hb hm).weak fun σ H Q q => two (f := cmpK op) (q.to fun ρ => by rw [ev]) fun A s H x y d1 d2 rs r1 r2 P => by
        unfold cmpK bnd cmpB at P
        cases e : cmpD op d1 d2 s with
        | none => rw [e] at P; exact P.elim
        | some b =>
          rw [e] at P
          exact ⟨A, s, d1, d2, b, rs, r1, r2, e, post_ok P rs (.bl b)⟩
theorem se_ix {a b : E} {ea eb : Expr} (hu : X.A.units + 150 < cLine) (hp : PlainIx eb) (ha : PE X ea (tE X.K sd W (ev B a))) (hb : PE X eb (tE X.K sd W (ev B b))) : PE X (.Subscript ea eb pos) (tE X.K sd W (ev B (.ix a b))) :=
  (pe_ix (ix_D hu) ha hb hp).weak fun σ H Q q => two (f := ixK) (q.to fun ρ => by rw [ev]) fun A s H x y d1 d2 rs r1 r2 P => by
        unfold ixK at P
        cases e : ixD d1 d2 s with
        | none => rw [e] at P; exact P.elim
        | some d =>
          rw [e] at P
          exact ⟨A, s, d1, d2, d, rs, r1, r2, e, fun v r => post_ok P rs r⟩
theorem se_neg {a : E} {ea : Expr} (ha : PE X ea (tE X.K sd W (ev B a))) : PE X (.UnaryOp .USub ea pos) (tE X.K sd W (ev B (.neg a))) :=
  (pe_un un_neg ha).weak fun σ H Q q => by
    obtain ⟨A, st, ρ, hs, rs, rl, P⟩ := tR.bnd (R1 := RV X.K) (m := ev B a) (f := fun x _ => negK x) (q.to fun ρ => by rw [ev])
    refine ⟨A, st, ρ, hs, rs, rl, P.imp fun x H1 ⟨A1, s1, d, ρ1, _, rs1, _, r, P1⟩ => ?_⟩
    cases d with
    | int i =>
      cases r
      exact ⟨i, rfl, post_ok P1 rs1 (RV.int _)⟩
    | _ => exact P1.elim
/-! ### truth -/
theorem tru_V {A : List Addr} {H : Hp} {s : Store} {d : D} {x : V} {b : Bool} (rs : RS X.K A H s) (r : RV X.K A H x d) (h : tru s d = some b) : TruV X.K x H b := by
  have gen : ∀ {d' : D} {x' : V}, RV X.K A H x' d' → (seqOf s d').map (fun l => !l.isEmpty) = some b → (∃ a, x' = .ref a) → TruV X.K x' H b := fun {d' x'} r' h' _ => by
    cases e : seqOf s d' with
    | none => rw [e] at h'; cases h'
    | some l =>
      rw [e] at h'
      obtain ⟨a, xs, rfl, rxs, sq⟩ := seq_sq rs r' e
      have eb : b = !xs.isEmpty := by rw [rxs.nil_iff]; exact (Option.some.inj h').symm
      rcases sq with sq | sq
      · exact .inl ⟨xs, sq, eb⟩
      · exact .inr (.inl ⟨xs, sq, eb⟩)
  cases r with
  | non => exact (Option.some.inj h).symm
  | bl k => exact (Option.some.inj h).symm
  | int i => exact (Option.some.inj h).symm
  | str z =>
    have h' : (if z.length ≤ most then some ((z.length : Int) != 0) else none) = some b := h
    by_cases c : z.length ≤ most
    · rw [if_pos c] at h'
      exact ⟨le_line c, (Option.some.inj h').symm⟩
    · rw [if_neg c] at h'
      cases h'
  | tup sq t q => exact gen (.tup sq t q) h ⟨_, rfl⟩
  | ref q => exact gen (.ref q) h ⟨_, rfl⟩
theorem truK_of {A : List Addr} {H : Hp} {s : Store} {d : D} {x : V} {X' : XW} {Q : Bool → Hp → Prop} (rs : RS X.K A H s) (r : RV X.K A H x d) (P : Post X.K (fun _ _ b c => b = c) A H X' Q (truK d s)) : ∃ k, TruV X.K x H k ∧ tru s d = some k ∧ Q k H := by
  unfold truK at P
  cases e : tru s d with
  | none => rw [e] at P; exact P.elim
  | some b =>
    rw [e] at P
    exact ⟨b, tru_V rs r e, rfl, post_ok P rs rfl⟩
/-- an expression whose test is its value's truth -/
theorem st_val {a : E} {ea : Expr} (ha : PE X ea (tE X.K sd W (ev B a))) (he : ∀ whole, isTrue ea X.env whole = (do let v ← whole; standAt ea.pos; holding [v] (truthy v))) : PT X ea (tT X.K sd W fun ρ => truM (ev B a ρ)) :=
  (pt_truth ha he).weak fun σ H Q q => by
    obtain ⟨A, st, ρ, hs, rs, rl, P⟩ := tR.bnd (R1 := RV X.K) (m := ev B a) (f := fun d _ => truK d) q
    refine ⟨A, st, ρ, hs, rs, rl, P.imp fun x H1 ⟨A1, s1, d, ρ1, _, rs1, _, r, P1⟩ => ?_⟩
    obtain ⟨k, t, _, q⟩ := truK_of rs1 r P1
    exact ⟨k, t, q⟩
theorem bnd_assoc {α β γ : Type} (m : M α) (f : α → M β) (g : β → M γ) : bnd (bnd m f) g = bnd m fun a => bnd (f a) g := by
  funext s
  unfold bnd
  cases m s <;> rfl
theorem bnd_ret {α β : Type} (a : α) (f : α → M β) : bnd (ret a) f = f a := rfl
theorem truM_cmp (op : CmpOp) (a b : E) (ρ : Env) : truM (ev B (.cmp op a b) ρ) = bnd (ev B a ρ) fun x => bnd (ev B b ρ) fun y => cmpB op x y := by
  unfold truM
  rw [ev, bnd_assoc]
  congr
  funext x
  rw [bnd_assoc]
  congr
  funext y s
  unfold cmpK bnd cmpB
  cases cmpD op x y s <;> rfl
/-- a comparison, as a test -/
theorem st_cmp {op : CmpOp} {a b : E} {ea eb : Expr} (hu : X.A.units + 150 < cLine) (hm : behindInMarks op eb = false) (ha : PE X ea (tE X.K sd W (ev B a))) (hb : PE X eb (tE X.K sd W (ev B b))) :
    PT X (.Compare ea [op] [eb] pos) (tT X.K sd W fun ρ => truM (ev B (.cmp op a b) ρ)) :=
  (pt_cmpR (op_cmp hu) ha hb hm).weak fun σ H Q q => by
    refine two (sd := sd) (W := W) (R2' := fun _ _ b c => b = c) (Q := Q) (f := cmpB op) (q.to fun ρ => truM_cmp op a b ρ) fun A s H x y d1 d2 rs r1 r2 P => ?_
    unfold cmpB at P
    cases e : cmpD op d1 d2 s with
      | none => rw [e] at P; exact P.elim
      | some b =>
        rw [e] at P
        exact ⟨A, s, d1, d2, b, rs, r1, r2, e, b, rfl, post_ok P rs rfl⟩
theorem tru_twice (m : M D) (x : D) (k : Bool) (s : Store) (h : tru s x = some k) : truK x s = .ok k s := by
  unfold truK
  rw [h]
  rfl
theorem truM_and (a b : E) (ρ : Env) : truM (ev B (.and a b) ρ) = bnd (truM (ev B a ρ)) fun k => if k = true then truM (ev B b ρ) else ret false := by
  unfold truM
  rw [ev, bnd_assoc, bnd_assoc]
  congr
  funext x
  unfold andK
  rw [bnd_assoc]
  funext s
  cases e : tru s x with
  | none => simp only [bnd, truK, e, ofO, badM]
  | some k => cases k <;> simp [bnd, truK, e, ofO, ret]
theorem truM_or (a b : E) (ρ : Env) : truM (ev B (.or a b) ρ) = bnd (truM (ev B a ρ)) fun k => if k = true then ret true else truM (ev B b ρ) := by
  unfold truM
  rw [ev, bnd_assoc, bnd_assoc]
  congr
  funext x
  unfold orK
  rw [bnd_assoc]
  funext s
  cases e : tru s x with
  | none => simp only [bnd, truK, e, ofO, badM]
  | some k => cases k <;> simp [bnd, truK, e, ofO, ret]
theorem truM_not (a : E) (ρ : Env) : truM (ev B (.not a) ρ) = bnd (truM (ev B a ρ)) fun k => ret (!k) := by
  rw [ev]
  conv => lhs; unfold truM
  rw [bnd_assoc]
  congr
theorem st_not {a : E} {ea : Expr} (ha : PT X ea (tT X.K sd W fun ρ => truM (ev B a ρ))) : PT X (.UnaryOp .Not ea pos) (tT X.K sd W fun ρ => truM (ev B (.not a) ρ)) :=
  (pt_not ha).weak fun σ H Q q => by
    obtain ⟨A, st, ρ, hs, rs, rl, P⟩ := tR.bnd (R1 := fun _ _ b c => b = c) (m := fun ρ => truM (ev B a ρ)) (f := fun k _ => ret (!k)) (q.to fun ρ => truM_not a ρ)
    refine ⟨A, st, ρ, hs, rs, rl, P.imp fun x H1 ⟨A1, s1, d, ρ1, _, rs1, _, r, P1⟩ => ?_⟩
    subst r
    exact post_ok P1 rs1 rfl
/-- a and b, as a test -/
theorem st_and {a b : E} {ea eb : Expr} {rest : List Expr} (ha : PT X ea (tT X.K sd W fun ρ => truM (ev B a ρ))) (hb : PW X (.BoolOp .And (eb :: rest) pos) (tT X.K sd W fun ρ => truM (ev B b ρ))) :
    PW X (.BoolOp .And (ea :: eb :: rest) pos) (tT X.K sd W fun ρ => truM (ev B (.and a b) ρ)) :=
  ⟨fun wh pins s σ H Q I q => (pw_and ha hb).run wh pins s σ H Q I (by
    obtain ⟨A, st, ρ, hs, rs, rl, P⟩ := tR.bnd (R1 := fun _ _ b c => b = c) (m := fun ρ => truM (ev B a ρ)) (f := fun k ρ => if k = true then truM (ev B b ρ) else ret false) (tR.to q fun ρ => truM_and a b ρ)
    refine ⟨A, st, ρ, hs, rs, rl, P.imp fun x H1 ⟨A1, s1, d, ρ1, hs1, rs1, rl1, r, P1⟩ => ?_⟩
    subst r
    cases x with
    | true => exact ⟨A1, s1, ρ1, hs1, rs1, rl1, P1⟩
    | false => exact post_ok P1 rs1 rfl)⟩
theorem st_or {a b : E} {ea eb : Expr} {rest : List Expr} (ha : PT X ea (tT X.K sd W fun ρ => truM (ev B a ρ))) (hb : PW X (.BoolOp .Or (eb :: rest) pos) (tT X.K sd W fun ρ => truM (ev B b ρ))) :
    PW X (.BoolOp .Or (ea :: eb :: rest) pos) (tT X.K sd W fun ρ => truM (ev B (.or a b) ρ)) :=
  ⟨fun wh pins s σ H Q I q => (pw_or ha hb).run wh pins s σ H Q I (by
    obtain ⟨A, st, ρ, hs, rs, rl, P⟩ := tR.bnd (R1 := fun _ _ b c => b = c) (m := fun ρ => truM (ev B a ρ)) (f := fun k ρ => if k = true then ret true else truM (ev B b ρ)) (tR.to q fun ρ => truM_or a b ρ)
    refine ⟨A, st, ρ, hs, rs, rl, P.imp fun x H1 ⟨A1, s1, d, ρ1, hs1, rs1, rl1, r, P1⟩ => ?_⟩
    subst r
    cases x with
    | true => exact post_ok P1 rs1 rfl
    | false => exact ⟨A1, s1, ρ1, hs1, rs1, rl1, P1⟩)⟩
/-! ### and, or, not, if as values -/
theorem se_andV {a b : E} {ea eb : Expr} {rest : List Expr} (ha : PE X ea (tE X.K sd W (ev B a))) (hb : PE X (.BoolOp .And (eb :: rest) pos) (tE X.K sd W (ev B b))) : PE X (.BoolOp .And (ea :: eb :: rest) pos) (tE X.K sd W (ev B (.and a b))) := by
  refine ⟨fun pins s σ H Q I q => ?_⟩
  refine BoolOp_and (thn (ha.run pins s σ H _ I (tR.bnd (R1 := RV X.K) (m := ev B a) (f := fun x ρ => andK (ev B b ρ) x) (tR.to q fun ρ => by rw [ev]))) fun v s1 ⟨x, H1, I1, r1, A1, t1, d, ρ1, hs1, rs1, rl1, r, P1⟩ => ?_)
  obtain ⟨k, tk, ek, P2⟩ := truK_of rs1 r (Post.bnd (R1 := fun _ _ b c => b = c) P1)
  obtain ⟨A2, s2, k2, nx, rs2, e2, P3⟩ := P2
  refine wpAny_mono (tru_ok pins s1 σ H1 x v (fun c H' => c = k ∧ H' = H1) I1 r1 ⟨k, tk, rfl, rfl⟩) (fun c s2 ⟨H2, I2, hc, hH⟩ => ?_) fun _ _ z => z
  subst hc hH e2
  cases c with
  | true => exact hb.run pins s2 σ H2 Q I2 ⟨A2, _, ρ1, hs1, rs2, rl1.mono nx, P3⟩
  | false => exact ⟨x, H2, I2, r1, post_ok P3 rs2 (r.mono nx)⟩
theorem se_orV {a b : E} {ea eb : Expr} {rest : List Expr} (ha : PE X ea (tE X.K sd W (ev B a))) (hb : PE X (.BoolOp .Or (eb :: rest) pos) (tE X.K sd W (ev B b))) : PE X (.BoolOp .Or (ea :: eb :: rest) pos) (tE X.K sd W (ev B (.or a b))) := by
  refine ⟨fun pins s σ H Q I q => ?_⟩
  refine BoolOp_or (thn (ha.run pins s σ H _ I (tR.bnd (R1 := RV X.K) (m := ev B a) (f := fun x ρ => orK (ev B b ρ) x) (tR.to q fun ρ => by rw [ev]))) fun v s1 ⟨x, H1, I1, r1, A1, t1, d, ρ1, hs1, rs1, rl1, r, P1⟩ => ?_)
  obtain ⟨k, tk, ek, P2⟩ := truK_of rs1 r (Post.bnd (R1 := fun _ _ b c => b = c) P1)
  obtain ⟨A2, s2, k2, nx, rs2, e2, P3⟩ := P2
  refine wpAny_mono (tru_ok pins s1 σ H1 x v (fun c H' => c = k ∧ H' = H1) I1 r1 ⟨k, tk, rfl, rfl⟩) (fun c s2 ⟨H2, I2, hc, hH⟩ => ?_) fun _ _ z => z
  subst hc hH e2
  cases c with
  | true => exact ⟨x, H2, I2, r1, post_ok P3 rs2 (r.mono nx)⟩
  | false => exact hb.run pins s2 σ H2 Q I2 ⟨A2, _, ρ1, hs1, rs2, rl1.mono nx, P3⟩
theorem se_one {op : BoolOp} {m : Env → M D} {ea : Expr} (ha : PE X ea (tE X.K sd W m)) : PE X (.BoolOp op [ea] pos) (tE X.K sd W m) := pe_one ha
theorem se_ite {c a b : E} {ec ea eb : Expr} (hc : PT X ec (tT X.K sd W fun ρ => truM (ev B c ρ))) (ha : PE X ea (tE X.K sd W (ev B a))) (hb : PE X eb (tE X.K sd W (ev B b))) : PE X (.IfExp ec ea eb pos) (tE X.K sd W (ev B (.ite c a b))) :=
  (pe_ifExp hc ha hb).weak fun σ H Q q => by
    obtain ⟨A, st, ρ, hs, rs, rl, P⟩ := tR.bnd (R1 := fun _ _ b c => b = c) (m := fun ρ => truM (ev B c ρ)) (f := fun k ρ => if k = true then ev B a ρ else ev B b ρ) (q.to fun ρ => by rw [ev])
    refine ⟨A, st, ρ, hs, rs, rl, P.imp fun x H1 ⟨A1, s1, d, ρ1, hs1, rs1, rl1, r, P1⟩ => ?_⟩
    subst r
    cases x with
    | true => exact ⟨A1, s1, ρ1, hs1, rs1, rl1, P1⟩
    | false => exact ⟨A1, s1, ρ1, hs1, rs1, rl1, P1⟩
/-- not a, as a value -/
theorem se_not {a : E} {ea : Expr} (ha : PE X ea (tE X.K sd W (ev B a))) : PE X (.UnaryOp .Not ea pos) (tE X.K sd W (ev B (.not a))) := by
  refine ⟨fun pins s σ H Q I q => ?_⟩
  refine UnaryOp_ (thn (ha.run pins s σ H _ I (tR.bnd (R1 := RV X.K) (m := ev B a) (f := fun x _ => bnd (truK x) notK) (tR.to q fun ρ => by
    rw [ev]
    unfold truM
    rw [bnd_assoc]))) fun v s1 ⟨x, H1, I1, r1, A1, t1, d, ρ1, hs1, rs1, rl1, r, P1⟩ => ?_)
  obtain ⟨k, tk, ek, P2⟩ := truK_of rs1 r (Post.bnd (R1 := fun _ _ b c => b = c) P1)
  obtain ⟨A2, s2, k2, nx, rs2, e2, P3⟩ := P2
  refine not_of (wpAny_mono (tru_ok pins s1 σ H1 x v (fun c H' => c = k ∧ H' = H1) I1 r1 ⟨k, tk, rfl, rfl⟩) (fun c s2 ⟨H2, I2, hc, hH⟩ => ?_) fun _ _ z => z)
  subst hc hH e2
  exact ⟨.bl (!c), H2, I2, rfl, post_ok P3 rs2 (RV.bl _)⟩
/-! ### arguments -/
def notStar : Expr → Bool
  | .Starred .. => false
  | _ => true
theorem star_cons {e : Expr} {es : List Expr} {env : PySem.Env} (h : notStar e = true) : starEach (e :: es) env = (false, eval e env) :: starEach es env := by
  cases e <;> first | rfl | cases h
theorem star_any {env : PySem.Env} : ∀ {es : List Expr}, es.all notStar = true → (backTo pos (starEach es env)).any (·.1) = false
  | [], _ => rfl
  | e :: es, h => by
    rw [List.all_cons, Bool.and_eq_true] at h
    rw [star_cons h.1]
    show (false || (backTo pos (starEach es env)).any (·.1)) = false
    rw [star_any h.2]
    rfl
theorem sa_nil : PA X [] (tEs X.K sd W (evs B .nil)) := pa_nil.weak fun σ H Q ⟨A, st, ρ, hs, rs, rl, P⟩ => by
  rw [evs] at P
  exact post_ok P rs RVs.nil
theorem sa_cons {e : E} {es : Es} {ee : Expr} {l : List Expr} (h : notStar ee = true) (he : PE X ee (tE X.K sd W (ev B e))) (hr : PA X l (tEs X.K sd W (evs B es))) : PA X (ee :: l) (tEs X.K sd W (evs B (.cons e es))) :=
  (pa_cons he hr (star_cons h)).weak fun σ H Q q => by
    obtain ⟨A, st, ρ, hs, rs, rl, P⟩ := tR.bnd (R1 := RV X.K) (m := ev B e) (f := fun d ρ => bnd (evs B es ρ) fun ds => ret (d :: ds)) (q.to fun ρ => by rw [evs])
    refine ⟨A, st, ρ, hs, rs, rl, P.imp fun x H1 ⟨A1, s1, d, ρ1, hs1, rs1, rl1, r, P1⟩ => ?_⟩
    refine ⟨A1, s1, ρ1, hs1, rs1, rl1, (Post.bnd (R1 := RVs X.K) P1).imp fun vs H2 ⟨A2, s2, ds, nx, rs2, r2, P2⟩ => ?_⟩
    exact post_ok P2 rs2 (RVs.cons (r.mono nx) r2)
theorem sk_nil : PK X [] (tEs X.K sd W (evs B .nil)) := ⟨fun pos pins s σ H Q I ⟨A, st, ρ, hs, rs, rl, P⟩ => pk_nil.run pos pins s σ H Q I (by
  rw [evs] at P
  exact post_ok P rs RVs.nil)⟩
theorem sk_cons {e : E} {es : Es} {ee : Expr} {nm : Option Str} {kp : Pos} {l : List Keyword} (he : PE X ee (tE X.K sd W (ev B e))) (hr : PK X l (tEs X.K sd W (evs B es))) : PK X (⟨nm, ee, kp⟩ :: l) (tEs X.K sd W (evs B (.cons e es))) :=
  ⟨fun pos pins s σ H Q I q => (pk_cons he hr).run pos pins s σ H Q I (by
    obtain ⟨A, st, ρ, hs, rs, rl, P⟩ := tR.bnd (R1 := RV X.K) (m := ev B e) (f := fun d ρ => bnd (evs B es ρ) fun ds => ret (d :: ds)) (tR.to q fun ρ => by rw [evs])
    refine ⟨A, st, ρ, hs, rs, rl, P.imp fun x H1 ⟨A1, s1, d, ρ1, hs1, rs1, rl1, r, P1⟩ => ?_⟩
    refine ⟨A1, s1, ρ1, hs1, rs1, rl1, (Post.bnd (R1 := RVs X.K) P1).imp fun vs H2 ⟨A2, s2, ds, nx, rs2, r2, P2⟩ => ?_⟩
    exact post_ok P2 rs2 (RVs.cons (r.mono nx) r2))⟩
end
end RI
set_option maxRecDepth 100000
set_option maxHeartbeats 4000000
/-! RE2: chained comparisons, slices. -/
namespace RI
open PySem L2 PyProof.Rows
variable [Xs]
section
variable {X : Cx} {sd : L2.St → Prop} {W : WX} {B : Tb} {pos : Pos}
theorem post_cmpB {A : List Addr} {H : Hp} {s : Store} {op : CmpOp} {x y : V} {d1 d2 : D} {E : XW} {β δ : Type} {R : List Addr → Hp → δ → β → Prop} {Q : δ → Hp → Prop} {f : Bool → M β} (rs : RS X.K A H s) (r1 : RV X.K A H x d1) (r2 : RV X.K A H y d2)
    (P : Post X.K R A H E Q (bnd (cmpB op d1 d2) f s)) : ∃ b, cmpD op d1 d2 s = some b ∧ Post X.K R A H E Q (f b s) := by
  unfold bnd cmpB at P
  cases e : cmpD op d1 d2 s with
  | none => rw [e] at P; exact P.elim
  | some b => rw [e] at P; exact ⟨b, rfl, P⟩
/-- a op b op' c -/
theorem se_chn {op op' : CmpOp} {a b c : E} {ea eb ec : Expr} (hu : X.A.units + 150 < cLine) (hm : lastMarks [op, op'] [eb, ec] = false) (ha : PE X ea (tE X.K sd W (ev B a))) (hb : PE X eb (tE X.K sd W (ev B b))) (hc : PE X ec (tE X.K sd W (ev B c))) :
    PE X (.Compare ea [op, op'] [eb, ec] pos) (tE X.K sd W (ev B (.chn op op' a b c))) :=
  (pe_chain (op_cmp hu) (op_cmp hu) ha hb hc hm).weak fun σ H Q q => by
    obtain ⟨A, st, ρ, hs, rs, rl, P⟩ := tR.bnd (R1 := RV X.K) (m := ev B a) (f := fun x ρ => bnd (ev B b ρ) fun y => bnd (cmpB op x y) fun k => if k = true then bnd (ev B c ρ) fun z => cmpK op' y z else ret (.bl false)) (q.to fun ρ => by rw [ev])
    refine ⟨A, st, ρ, hs, rs, rl, P.imp fun x H1 ⟨A1, s1, d1, ρ1, hs1, rs1, rl1, r1, P1⟩ => ?_⟩
    refine ⟨A1, s1, ρ1, hs1, rs1, rl1, (Post.bnd (R1 := RV X.K) P1).imp fun y H2 ⟨A2, s2, d2, nx, rs2, r2, P2⟩ => ?_⟩
    obtain ⟨k, e, P3⟩ := post_cmpB rs2 (r1.mono nx) r2 P2
    refine ⟨A2, s2, d1, d2, k, rs2, r1.mono nx, r2, e, k, rfl, ?_⟩
    cases k with
    | false =>
      rw [if_neg Bool.false_ne_true] at P3 ⊢
      exact post_ok P3 rs2 (.bl _)
    | true =>
      rw [if_pos rfl] at P3 ⊢
      refine ⟨A2, s2, ρ1, hs1, rs2, rl1.mono nx, (Post.bnd (R1 := RV X.K) P3).imp fun z H3 ⟨A3, s3, d3, nx3, rs3, r3, P4⟩ => ?_⟩
      obtain ⟨k, e, P5⟩ := post_cmpB (f := blK) rs3 (r2.mono nx3) r3 P4
      exact ⟨A3, s3, d2, d3, k, rs3, r2.mono nx3, r3, e, post_ok P5 rs3 (.bl _)⟩
theorem truM_chn (op op' : CmpOp) (a b c : E) (ρ : Env) : truM (ev B (.chn op op' a b c) ρ) = bnd (ev B a ρ) fun x => bnd (ev B b ρ) fun y => bnd (cmpB op x y) fun k => if k = true then bnd (ev B c ρ) fun z => cmpB op' y z else ret false := by
  unfold truM
  rw [ev, bnd_assoc]
  congr
  funext x
  rw [bnd_assoc]
  congr
  funext y
  rw [bnd_assoc]
  congr
  funext k
  cases k with
  | false => rfl
  | true =>
    rw [if_pos rfl, if_pos rfl, bnd_assoc]
    congr
    funext z s
    unfold cmpK bnd cmpB
    cases cmpD op' y z s <;> rfl
theorem st_chn {op op' : CmpOp} {a b c : E} {ea eb ec : Expr} (hu : X.A.units + 150 < cLine) (hm : lastMarks [op, op'] [eb, ec] = false) (ha : PE X ea (tE X.K sd W (ev B a))) (hb : PE X eb (tE X.K sd W (ev B b))) (hc : PE X ec (tE X.K sd W (ev B c))) :
    PT X (.Compare ea [op, op'] [eb, ec] pos) (tT X.K sd W fun ρ => truM (ev B (.chn op op' a b c) ρ)) :=
  (pt_chain (op_cmp hu) (op_cmp hu) ha hb hc hm).weak fun σ H Q q => by
    obtain ⟨A, st, ρ, hs, rs, rl, P⟩ := tR.bnd (R1 := RV X.K) (m := ev B a) (f := fun x ρ => bnd (ev B b ρ) fun y => bnd (cmpB op x y) fun k => if k = true then bnd (ev B c ρ) fun z => cmpB op' y z else ret false) (q.to fun ρ => truM_chn op op' a b c ρ)
    refine ⟨A, st, ρ, hs, rs, rl, P.imp fun x H1 ⟨A1, s1, d1, ρ1, hs1, rs1, rl1, r1, P1⟩ => ?_⟩
    refine ⟨A1, s1, ρ1, hs1, rs1, rl1, (Post.bnd (R1 := RV X.K) P1).imp fun y H2 ⟨A2, s2, d2, nx, rs2, r2, P2⟩ => ?_⟩
    obtain ⟨k, e, P3⟩ := post_cmpB rs2 (r1.mono nx) r2 P2
    refine ⟨A2, s2, d1, d2, k, rs2, r1.mono nx, r2, e, k, rfl, ?_⟩
    cases k with
    | false =>
      rw [if_neg Bool.false_ne_true] at P3 ⊢
      exact ⟨false, rfl, post_ok P3 rs2 rfl⟩
    | true =>
      rw [if_pos rfl] at P3 ⊢
      refine ⟨A2, s2, ρ1, hs1, rs2, rl1.mono nx, (Post.bnd (R1 := RV X.K) P3).imp fun z H3 ⟨A3, s3, d3, nx3, rs3, r3, P4⟩ => ?_⟩
      have P5 : Post X.K (fun _ _ b c => b = c) A3 H3 (fun c d H' => W c d σ H') Q (bnd (cmpB op' d2 d3) ret s3) := by
        unfold bnd
        unfold cmpB at P4 ⊢
        cases q : cmpD op' d2 d3 s3 with
        | none => rw [q] at P4; exact P4
        | some b => rw [q] at P4; exact P4
      obtain ⟨k, e, P6⟩ := post_cmpB rs3 (r2.mono nx3) r3 P5
      exact ⟨A3, s3, d2, d3, k, rs3, r2.mono nx3, r3, e, k, rfl, post_ok P6 rs3 rfl⟩
/-! ### slices -/
theorem so_none : PO X none (tO X.K sd W fun ρ => bnd (evs B .nil ρ) partK) := po_none.weak fun σ H Q ⟨A, st, ρ, hs, rs, rl, P⟩ => by
  have e2 : evs B .nil ρ = ret [] := by rw [evs]
  dsimp only at P
  rw [e2] at P
  exact post_ok P rs rfl
theorem so_some {e : E} {ee : Expr} (he : PE X ee (tE X.K sd W (ev B e))) : PO X (some ee) (tO X.K sd W fun ρ => bnd (evs B (.cons e .nil) ρ) partK) := (po_some he).weak fun σ H Q q => by
  have go : ∀ ρ, bnd (evs B (.cons e .nil) ρ) partK = bnd (ev B e ρ) fun d => partK [d] := fun ρ => by
    have e1 : evs B (.cons e .nil) ρ = bnd (ev B e ρ) fun d => bnd (evs B .nil ρ) fun ds => ret (d :: ds) := by
      conv => lhs; rw [evs]
    have e2 : evs B .nil ρ = ret [] := by rw [evs]
    rw [e1, e2, bnd_assoc]
    rfl
  obtain ⟨A, st, ρ, hs, rs, rl, P⟩ := tR.bnd (R1 := RV X.K) (m := ev B e) (f := fun d _ => partK [d]) (q.to go)
  refine ⟨A, st, ρ, hs, rs, rl, P.imp fun x H1 ⟨A1, s1, d, ρ1, hs1, rs1, rl1, r1, P1⟩ => ?_⟩
  cases d with
  | int i =>
    cases r1
    exact ⟨i, rfl, post_ok P1 rs1 rfl⟩
  | _ => exact P1.elim
theorem sl_D : SlR X (fun x lo hi H Q => rSlS x lo hi H Q ∨ (rSlL X.K x lo hi H Q ∨ rSlA X.K x lo hi H Q)) := sl_str.or (sl_list.or sl_tupA)
theorem RVs.cut {K : PySem.W.Frag} {A : List Addr} {H : Hp} {vs : List V} {ds : List D} (r : RVs K A H vs ds) (lo hi : Option Int) : RVs K A H (cutV vs lo hi) (cutD ds lo hi) := by
  unfold cutV cutD
  rw [r.length]
  exact (r.drop _).take _
theorem cut_whole {ds : List D} {lo hi : Option Int} (h : HT.sIx ds.length 0 lo = 0 ∧ HT.sIx ds.length ds.length hi = ds.length) : cutD ds lo hi = ds := by
  unfold cutD
  rw [h.1, h.2, List.drop_zero, Nat.sub_zero, List.take_length]
/-- a[lo:hi] -/
theorem se_sl {a : E} {lo hi : Es} {ea : Expr} {el eh : Option Expr} {p2 : Pos} (ha : PE X ea (tE X.K sd W (ev B a))) (hl : PO X el (tO X.K sd W fun ρ => bnd (evs B lo ρ) partK)) (hh : PO X eh (tO X.K sd W fun ρ => bnd (evs B hi ρ) partK)) :
    PE X (.Subscript ea (.Slice el eh none p2) pos) (tE X.K sd W (ev B (.sl a lo hi))) :=
  (pe_slice sl_D ha hl hh).weak fun σ H Q q => by
    obtain ⟨A, st, ρ, hs, rs, rl, P⟩ := tR.bnd (R1 := RV X.K) (m := ev B a) (f := fun x ρ => bnd (bnd (evs B lo ρ) partK) fun l => bnd (bnd (evs B hi ρ) partK) fun h => slK x l h) (q.to fun ρ => by rw [ev])
    refine ⟨A, st, ρ, hs, rs, rl, P.imp fun x H1 ⟨A1, s1, d, ρ1, hs1, rs1, rl1, r1, P1⟩ => ?_⟩
    refine ⟨A1, s1, ρ1, hs1, rs1, rl1, (Post.bnd (R1 := fun _ _ b c => b = c) P1).imp fun l H2 ⟨A2, s2, l', nx2, rs2, e2, P2⟩ => ?_⟩
    subst e2
    refine ⟨A2, s2, ρ1, hs1, rs2, rl1.mono nx2, (Post.bnd (R1 := fun _ _ b c => b = c) P2).imp fun h H3 ⟨A3, s3, h', nx3, rs3, e3, P3⟩ => ?_⟩
    subst e3
    have r3 := (r1.mono nx2).mono nx3
    unfold slK at P3
    have lstCase : ∀ (n : Nat) (xs : List D), lstOf s3 (.ref n) = some xs → RV X.K A3 H3 x (.ref n) → Post X.K (RV X.K) A3 H3 (fun c d H' => W c d σ H') Q (.ok (.ref s3.length) (s3 ++ [.lst (cutD xs l h)])) → rSlL X.K x l h H3 Q := by
      intro n xs e r P
      cases r with
      | ref ea =>
        obtain ⟨vs, hv, rr⟩ := lst_sq rs3 (RV.ref ea) e
        refine ⟨_, vs, rfl, hv, fun p hp => ?_⟩
        have nx : Nx A3 (A3 ++ [p]) H3 (upd H3 p (.lst (cutV vs l h))) := Nx.new hp
        exact P (.ref p) _ (A3 ++ [p]) nx (rs3.new hp rfl ⟨_, upd_same, (rr.cut l h).mono nx⟩) (RV.ref (at_last rs3 p))
    cases d with
    | str z =>
      cases r3
      dsimp only at P3
      by_cases c : z.length ≤ most
      · rw [if_pos c] at P3
        exact .inl ⟨z, rfl, le_line c, post_ok P3 rs3 (.str _)⟩
      · rw [if_neg c] at P3
        exact P3.elim
    | tup xs =>
      dsimp only at P3
      cases r3 with
      | @tup a0 vs0 _ sq tr rr =>
        refine .inr (.inr ⟨_, _, rfl, sq, fun w => ?_, fun w p hp => ?_⟩)
        · have w' : HT.sIx xs.length 0 l = 0 ∧ HT.sIx xs.length xs.length h = xs.length := by rw [← rr.length]; exact w
          rw [cut_whole w'] at P3
          exact post_ok P3 rs3 (.tup sq tr rr)
        · have nx : Nx A3 A3 H3 (upd H3 p (.tup (cutV vs0 l h))) := Nx.heap (Kp.new hp)
          exact P3 (.ref p) _ A3 nx (rs3.same (same_new hp)) (RV.tup (SqT.of upd_same) (.inl upd_same) ((rr.cut l h).mono nx))
    | ref n =>
      dsimp only at P3
      cases e : lstOf s3 (.ref n) with
      | none => rw [e] at P3; exact P3.elim
      | some xs =>
        rw [e] at P3
        exact .inr (.inl (lstCase n xs e r3 P3))
    | non => exact P3.elim
    | bl b => exact P3.elim
    | int i => exact P3.elim
end
end RI
set_option maxRecDepth 100000
set_option maxHeartbeats 4000000
/-! RE3: reads of the module's dicts. -/
namespace RI
open PySem L2 PyProof.Rows
variable [Xs]
/-- flat values stand for themselves -/
theorem RV.flat {K : PySem.W.Frag} {A : List Addr} {H : Hp} : ∀ {d : D}, flatD d = true → RV K A H (toV d) d
  | .non, _ => .non
  | .bl b, _ => .bl b
  | .int i, _ => .int i
  | .str x, _ => .str x
theorem RVs.flat {K : PySem.W.Frag} {A : List Addr} {H : Hp} : ∀ {ds : List D}, ds.all flatD = true → RVs K A H (ds.map toV) ds
  | [], _ => .nil
  | d :: ds, h => by
    rw [List.all_cons] at h
    obtain ⟨h1, h2⟩ := Bool.and_eq_true_iff.mp h
    exact .cons (RV.flat h1) (RVs.flat h2)
/-- a dict of the module, what it holds -/
def KdOk (K : PySem.W.Frag) (w : World) (d : Addr) (l : List (Str × D)) : Prop := (∃ es n, KDict K w d es n) ∧
  ∀ z, match l.lookup z with
    | none => PySem.W.nsIn K d z = some none
    | some v => flatD v = true ∧ ∃ u, PySem.W.nsIn K d z = some (some u) ∧ RelV (toV v) u
def KdAt (X : Cx) (x : Str) (l : List (Str × D)) : Prop := ∃ d, X.mg x = some (.ref d) ∧ KdOk X.K X.w d l
section
variable {X : Cx} {sd : L2.St → Prop} {W : WX} {B : Tb} {pos p : Pos}
theorem kd_ns {K : PySem.W.Frag} {w : World} {d : Addr} {l : List (Str × D)} (h : KdOk K w d l) (z : Str) : ∃ r, PySem.W.nsIn K d z = some r ∧ r.isSome = (l.lookup z).isSome := by
  have q := h.2 z
  cases e : l.lookup z with
  | none => rw [e] at q; exact ⟨none, q, rfl⟩
  | some v => rw [e] at q; obtain ⟨_, u, q, _⟩ := q; exact ⟨some u, q, rfl⟩
def opK (n : Bool) : CmpOp := if n = true then .NotIn else .In
theorem op_kd {n : Bool} {d : Addr} {l : List (Str × D)} (h : KdOk X.K X.w d l) : OpR X (compareOp (opK n)) (fun x y H Q => ∃ z : Str, x = .str z ∧ y = .ref d ∧ Q (.bl (n != (l.lookup z).isSome)) H) := by
  obtain ⟨es, m, D⟩ := h.1
  intro pins s σ H x y v u Q I rx ry ⟨z, ex, ey, q⟩
  obtain ⟨r, e1, e2⟩ := kd_ns h z
  cases n with
  | true => exact op_notIn_kd D pins s σ H x y v u Q I rx ry ⟨z, r, ex, ey, e1, by
    rw [e2]
    have e3 : (true != (l.lookup z).isSome) = !(l.lookup z).isSome := by cases (l.lookup z).isSome <;> rfl
    rw [e3] at q
    exact q⟩
  | false =>
    refine op_in_kd D pins s σ H x y v u Q I rx ry ⟨z, r, ex, ey, e1, ?_⟩
    rw [e2]
    have e3 : (false != (l.lookup z).isSome) = (l.lookup z).isSome := by cases (l.lookup z).isSome <;> rfl
    rw [e3] at q
    exact q
theorem se_kin {n : Bool} {x : Str} {a : E} {ea : Expr} {l : List (Str × D)} (hl : Xs.cds.lookup x = some l) (h : KdAt X x l) (hg : Gl X x) (hdb : (x == ("__debug__" : Str)) = false) (ha : PE X ea (tE X.K sd W (ev B a))) :
    PE X (.Compare ea [opK n] [.Name x p] pos) (tE X.K sd W (ev B (.kin n a x))) := by
  obtain ⟨d, hm, ok⟩ := h
  refine (pe_cmpR (op_kd (n := n) ok) ha (pe_glob hg hm (show RelV (.ref d) (.ref d) from rfl) hdb) rfl).weak fun σ H Q q => ?_
  obtain ⟨A, st, ρ, hs, rs, rl, P⟩ := tR.bnd (R1 := RV X.K) (m := ev B a) (f := fun y _ => kinK n x y) (q.to fun ρ => by rw [ev])
  refine ⟨A, st, ρ, hs, rs, rl, P.imp fun y H1 ⟨A1, s1, d1, ρ1, _, rs1, _, r, P1⟩ => ?_⟩
  unfold kinK at P1
  rw [hl] at P1
  cases d1 with
  | str z =>
    cases r
    exact ⟨z, rfl, rfl, post_ok P1 rs1 (RV.bl _)⟩
  | _ => exact P1.elim
theorem truM_kin (n : Bool) (a : E) (x : Str) (ρ : Env) : truM (ev B (.kin n a x) ρ) = bnd (ev B a ρ) fun y => bnd (kinK n x y) truK := by
  unfold truM
  rw [ev, bnd_assoc]
theorem st_kin {n : Bool} {x : Str} {a : E} {ea : Expr} {l : List (Str × D)} (hl : Xs.cds.lookup x = some l) (h : KdAt X x l) (hg : Gl X x) (hdb : (x == ("__debug__" : Str)) = false) (ha : PE X ea (tE X.K sd W (ev B a))) :
    PT X (.Compare ea [opK n] [.Name x p] pos) (tT X.K sd W fun ρ => truM (ev B (.kin n a x) ρ)) := by
  obtain ⟨d, hm, ok⟩ := h
  refine (pt_cmpR (op_kd (n := n) ok) ha (pe_glob hg hm (show RelV (.ref d) (.ref d) from rfl) hdb) rfl).weak fun σ H Q q => ?_
  obtain ⟨A, st, ρ, hs, rs, rl, P⟩ := tR.bnd (R1 := RV X.K) (m := ev B a) (f := fun y _ => bnd (kinK n x y) truK) (q.to fun ρ => truM_kin n a x ρ)
  refine ⟨A, st, ρ, hs, rs, rl, P.imp fun y H1 ⟨A1, s1, d1, ρ1, _, rs1, _, r, P1⟩ => ?_⟩
  unfold kinK bnd at P1
  rw [hl] at P1
  cases d1 with
  | str z =>
    cases r
    exact ⟨z, rfl, rfl, _, rfl, post_ok P1 rs1 rfl⟩
  | _ => exact P1.elim
theorem se_kix {x : Str} {a : E} {ea : Expr} {l : List (Str × D)} (hl : Xs.cds.lookup x = some l) (h : KdAt X x l) (hg : Gl X x) (hdb : (x == ("__debug__" : Str)) = false) (hp : PlainIx ea) (ha : PE X ea (tE X.K sd W (ev B a))) :
    PE X (.Subscript (.Name x p) ea pos) (tE X.K sd W (ev B (.kix x a))) := by
  obtain ⟨d, hm, ok⟩ := h
  refine (pe_ix ix_kdict (pe_glob hg hm (show RelV (.ref d) (.ref d) from rfl) hdb) ha hp).weak fun σ H Q q => ?_
  obtain ⟨A, st, ρ, hs, rs, rl, P⟩ := tR.bnd (R1 := RV X.K) (m := ev B a) (f := fun y _ => kixK x y) (q.to fun ρ => by rw [ev])
  refine ⟨A, st, ρ, hs, rs, rl, P.imp fun y H1 ⟨A1, s1, d1, ρ1, _, rs1, _, r, P1⟩ => ?_⟩
  unfold kixK at P1
  rw [hl] at P1
  cases d1 with
  | str z =>
    cases r
    dsimp only at P1
    have ns := ok.2 z
    cases e : l.lookup z with
    | none => rw [e] at P1; exact P1.elim
    | some v =>
      rw [e] at P1 ns
      obtain ⟨fl, u, e1, ru⟩ := ns
      obtain ⟨es, m, D⟩ := ok.1
      exact ⟨d, z, toV v, rfl, rfl, ⟨es, m, u, D.at_, D.lit, e1, ru⟩, post_ok P1 rs1 (RV.flat fl)⟩
  | _ => exact P1.elim
end
end RI
set_option maxRecDepth 100000
set_option maxHeartbeats 4000000
/-! RF: calls; the checker of expressions, and that what it lets through keeps what the machine does. -/
namespace RI
open PySem L2 PyProof.Rows
variable [Xs]
def Es.len : Es → Nat
  | .nil => 0
  | .cons _ es => es.len + 1
section
variable {K : PySem.W.Frag} {sd : L2.St → Prop} {W : WX} {A : List Addr} {H : Hp}
theorem Post.bndE {α β γ δ : Type} {R1 : List Addr → Hp → γ → α → Prop} {R2 : List Addr → Hp → δ → β → Prop} {X : XW} {Q : δ → Hp → Prop} {m : M α} {f : α → M β} {s : Store} (h : Post K R2 A H X Q (RI.bnd m f s)) :
    Post K R1 A H X (fun x H1 => ∃ A1 s1 d, Nx A A1 H H1 ∧ RS K A1 H1 s1 ∧ R1 A1 H1 x d ∧ m s = .ok d s1 ∧ Post K R2 A1 H1 X Q (f d s1)) (m s) := by
  unfold RI.bnd at h
  cases e : m s with
  | ok d s1 =>
    rw [e] at h
    exact fun v H1 A1 x rs r => ⟨A1, s1, d, x, rs, r, rfl, h.re x⟩
  | ex y s1 =>
    rw [e] at h
    exact h
  | bad =>
    rw [e] at h
    exact h
theorem evs_len {B : Tb} : ∀ {es : Es} {ρ : Env} {s s' : Store} {ds : List D}, evs B es ρ s = .ok ds s' → ds.length = es.len
  | .nil, ρ, s, s', ds, h => by
    rw [evs] at h
    cases h
    rfl
  | .cons e es, ρ, s, s', ds, h => by
    rw [evs] at h
    unfold bnd at h
    cases q : ev B e ρ s with
    | ok d s1 =>
      rw [q] at h
      dsimp only at h
      cases q2 : evs B es ρ s1 with
      | ok l s2 =>
        rw [q2] at h
        cases h
        show l.length + 1 = es.len + 1
        rw [evs_len q2]
      | ex x t => rw [q2] at h; cases h
      | bad => rw [q2] at h; cases h
    | ex x t => rw [q] at h; cases h
    | bad => rw [q] at h; cases h
end
section
variable {X : Cx} {sd : L2.St → Prop} {W : WX} {B : Tb} {pos p : Pos}
/-- a call of a def of the program, by values -/
def OwnCall (X : Cx) (W : WX) (m : List D → M D) (x : Str) (n : Nat) : Prop :=
  ∃ f, X.mg x = some (.ref f) ∧ PySem.W.keepIn X.K (.ref f) = true ∧
    ∀ (pins : List (Addr × Obj)) (s : Shared) (σ : L2.St) (H : Hp) (vs : List V) (us : List Value) (Q : VK), Inv X pins σ H s → Vals vs us →
      (∃ A st ds, RS X.K A H st ∧ RVs X.K A H vs ds ∧ ds.length = n ∧ Post X.K (RV X.K) A H (fun c d H' => W c d σ H') Q (m ds st)) → wpAny (model X.prog X.w) X.A (call (.ref f) us) (EP X pins σ Q) X.xe s
theorem se_call0 {x : Str} (h : OwnCall X W (B.call x) x 0) (hg : Gl X x) (hdb : (x == ("__debug__" : Str)) = false) : PE X (.Call (.Name x p) [] [] pos) (tE X.K sd W (ev B (.call x .nil))) := by
  obtain ⟨f, hm, hk, run⟩ := h
  refine ⟨fun pins s σ H Q I ⟨A, st, ρ, hs, rs, rl, P⟩ => ?_⟩
  rw [ev, evs, bnd_ret] at P
  refine wpAny_Call_Name_kw (ld_glob I hg hm ?_ hdb)
  exact PySem.W.callWith_K0 I.kIn hk (run pins s σ H [] [] Q I .nil ⟨A, st, [], rs, RVs.nil, rfl, P⟩)
theorem se_call {x : Str} {e : Expr} {l : List Expr} {es : Es} (h : OwnCall X W (B.call x) x es.len) (hg : Gl X x) (hdb : (x == ("__debug__" : Str)) = false) (hl : (e :: l).all notStar = true) (ha : PA X (e :: l) (tEs X.K sd W (evs B es))) :
    PE X (.Call (.Name x p) (e :: l) [] pos) (tE X.K sd W (ev B (.call x es))) := by
  obtain ⟨f, hm, hk, run⟩ := h
  rw [List.all_cons, Bool.and_eq_true] at hl
  refine ⟨fun pins s σ H Q I ⟨A, st, ρ, hs, rs, rl, P⟩ => ?_⟩
  rw [ev] at P
  refine wpAny_Call_Name_kw (ld_glob I hg hm ?_ hdb)
  refine PySem.W.callWith_K (h₀ := X.base) I.ok.mod.kin hk (thn (ha.run pos pins s σ H _ I ⟨A, st, ρ, hs, rs, rl, Post.bndE (R1 := RVs X.K) P⟩) fun us s1 ⟨vs, H1, I1, r, A1, s2, ds, nx, rs1, r1, el, P1⟩ => ⟨I1.kIn, ?_⟩) (star_cons hl.1) (star_any hl.2)
  exact run pins s1 σ H1 vs us Q I1 r ⟨A1, s2, ds, rs1, r1, evs_len el, P1⟩
/-- .. with keywords -/
def OwnCallK (X : Cx) (W : WX) (m : List D → List D → M D) (x : Str) (n : Nat) (ks : List Str) : Prop :=
  ∃ f, X.mg x = some (.ref f) ∧ PySem.W.keepIn X.K (.ref f) = true ∧
    ∀ (pins : List (Addr × Obj)) (s : Shared) (σ : L2.St) (H : Hp) (vs zs : List V) (us ws : List Value) (Q : VK), Inv X pins σ H s → Vals vs us → Vals zs ws →
      (∃ A st ds es, RS X.K A H st ∧ RVs X.K A H vs ds ∧ RVs X.K A H zs es ∧ ds.length = n ∧ es.length = ks.length ∧ Post X.K (RV X.K) A H (fun c d H' => W c d σ H') Q (m ds es st)) → wpAny (model X.prog X.w) X.A (call (.ref f) us (ks.zip ws)) (EP X pins σ Q) X.xe s
def kwNames : List Keyword → List (Option Str)
  | [] => []
  | ⟨n, _, _⟩ :: r => n :: kwNames r
theorem kw_each {env : PySem.Env} : ∀ (kws : List Keyword), (backToKw pos (keywordEach kws env)).map (·.1) = kwNames kws
  | [] => rfl
  | ⟨n, e, q⟩ :: r => by
    show n :: (backToKw pos (keywordEach r env)).map (·.1) = n :: kwNames r
    rw [kw_each r]
theorem kw_all {env : PySem.Env} {kws : List Keyword} {ks : List Str} (h : kwNames kws = ks.map some) : (backToKw pos (keywordEach kws env)).all (·.1.isSome) = true ∧ (backToKw pos (keywordEach kws env)).filterMap (·.1) = ks ∧ (backToKw pos (keywordEach kws env)).any (·.1.isNone) = false := by
  have e := kw_each (pos := pos) (env := env) kws
  rw [h] at e
  have g : ∀ {l : List (Option Str × Sem Value)} {ks : List Str}, l.map (·.1) = ks.map some → l.all (·.1.isSome) = true ∧ l.filterMap (·.1) = ks ∧ l.any (·.1.isNone) = false := by
    intro l
    induction l with
    | nil =>
      intro ks h
      cases ks with
      | nil => exact ⟨rfl, rfl, rfl⟩
      | cons _ _ => simp at h
    | cons a l ih =>
      intro ks h
      cases ks with
      | nil => simp at h
      | cons k ks =>
        simp only [List.map_cons, List.cons.injEq] at h
        obtain ⟨a1, a2, a3⟩ := ih h.2
        refine ⟨?_, ?_, ?_⟩
        · rw [List.all_cons, h.1, a1]; rfl
        · rw [List.filterMap_cons, h.1, a2]
        · rw [List.any_cons, h.1, a3]; rfl
  exact g e
theorem se_callk {x : Str} {e : Expr} {l : List Expr} {es kes : Es} {ks : List Str} {kws : List Keyword} (h : OwnCallK X W (B.callk x ks) x es.len ks) (hn : kwNames kws = ks.map some) (hlen : kes.len = ks.length) (hg : Gl X x) (hdb : (x == ("__debug__" : Str)) = false)
    (hl : (e :: l).all notStar = true) (ha : PA X (e :: l) (tEs X.K sd W (evs B es))) (hkw : PK X kws (tEs X.K sd W (evs B kes))) :
    PE X (.Call (.Name x p) (e :: l) kws pos) (tE X.K sd W (ev B (.callk x es ks kes))) := by
  obtain ⟨f, hm, hk, run⟩ := h
  obtain ⟨k1, k2, k3⟩ := kw_all (pos := pos) (env := X.env) hn
  rw [List.all_cons, Bool.and_eq_true] at hl
  refine ⟨fun pins s σ H Q I ⟨A, st, ρ, hs, rs, rl, P⟩ => ?_⟩
  rw [ev] at P
  refine wpAny_Call_Name_kw (ld_glob I hg hm ?_ hdb)
  refine PySem.W.callWith_KW (h₀ := X.base) I.ok.mod.kin hk k1 (thn (ha.run pos pins s σ H _ I ⟨A, st, ρ, hs, rs, rl, Post.bndE (R1 := RVs X.K) P⟩) fun us s1 ⟨vs, H1, I1, r, A1, s2, ds, nx, rs1, r1, el, P1⟩ => ?_) (by
      rw [k3, star_cons hl.1]
      show ((false || (backTo pos (starEach l X.env)).any (·.1)) || false) = false
      rw [star_any hl.2]
      rfl) (star_cons hl.1)
  refine thn (hkw.run pos pins s1 σ H1 _ I1 ⟨A1, s2, ρ, hs, rs1, rl.mono nx, Post.bndE (R1 := RVs X.K) P1⟩) fun ws s3 ⟨zs, H2, I2, rz, A2, s4, fs, nx2, rs2, r2, el2, P2⟩ => ⟨I2.kIn, ?_⟩
  rw [k2]
  exact run pins s3 σ H2 vs zs us ws Q I2 r rz ⟨A2, s4, ds, fs, rs2, r1.mono nx2, r2, evs_len el, (evs_len el2).trans hlen, P2⟩
/-- a def's promise, as the language sees it: called with n values it does what m computes -/
def FnAt (P : Program) (w : World) (K : PySem.W.Frag) (mg : Str → Option Value) (base : Heap) (Ar : Around) (m : List D → M D) (x : Str) (n : Nat) : Prop :=
  ∃ (k : Nat) (f : Addr) (fd : FuncData) (ps : List Str) (sp : Sp) (ds : List Value) (dvs : List V), mg x = some (.ref f) ∧ PySem.W.keepIn K (.ref f) = true ∧ FnOk P w K mg base (L2.CX P w) k f fd ps sp ∧ Room k Ar ∧ Binds K fd ps ds ∧ Vals dvs ds ∧
    ∀ (A : List Addr) (st : Store) (H : Hp) (vs : List V) (es : List D) (Q : VK) (E : XK), RS K A H st → RVs K A H vs es → es.length = n → Post K (RV K) A H E Q (m es st) → sp (vs ++ dvs) H Q E
theorem FnAt.own {m : List D → M D} {x : Str} {n : Nat} (h : FnAt X.prog X.w X.K X.mg X.base X.A m x n) (tk : Takes X W) : OwnCall X W m x n := by
  obtain ⟨k, f, fd, ps, sp, ds, dvs, hm, hk, F, hr, hb, hd, q⟩ := h
  refine ⟨f, hm, hk, fun pins s σ H vs us Q I r ⟨A, st, es, rs, rv, hl, P⟩ => ?_⟩
  exact run_fnSD (E := WE W) F hr hb hd (passAt tk σ) I r (q A st H vs es Q _ rs rv hl P)
/-- .. with keywords -/
def FnAtK (P : Program) (w : World) (K : PySem.W.Frag) (mg : Str → Option Value) (base : Heap) (Ar : Around) (m : List D → List D → M D) (x : Str) (n : Nat) (ks : List Str) : Prop :=
  ∃ (k : Nat) (f : Addr) (fd : FuncData) (ps : List Str) (sp : Sp) (g : List Value → List Value → List Value) (gV : List V → List V → List V), mg x = some (.ref f) ∧ PySem.W.keepIn K (.ref f) = true ∧ FnOk P w K mg base (L2.CX P w) k f fd ps sp ∧ Room k Ar ∧ KBn K fd ps n ks g gV ∧
    ∀ (A : List Addr) (st : Store) (H : Hp) (vs zs : List V) (es fs : List D) (Q : VK) (E : XK), RS K A H st → RVs K A H vs es → RVs K A H zs fs → es.length = n → fs.length = ks.length → Post K (RV K) A H E Q (m es fs st) → sp (gV vs zs) H Q E
theorem FnAtK.own {m : List D → List D → M D} {x : Str} {n : Nat} {ks : List Str} (h : FnAtK X.prog X.w X.K X.mg X.base X.A m x n ks) (tk : Takes X W) : OwnCallK X W m x n ks := by
  obtain ⟨k, f, fd, ps, sp, g, gV, hm, hk, F, hr, hb, q⟩ := h
  refine ⟨f, hm, hk, fun pins s σ H vs zs us ws Q I r rz ⟨A, st, es, fs, rs, rv, rz2, hl, hl2, P⟩ => ?_⟩
  have sp2 := q A st H vs zs es fs Q (WE W σ) rs rv rz2 hl hl2 P
  have l1 : us.length = n := by rw [← r.length, rv.length]; exact hl
  have l2 : ws.length = ks.length := by rw [← rz.length, rz2.length]; exact hl2
  refine wpAny_call (codeAny_mono (F.run X.A X.stack s H ⟨us, ks.zip ws⟩ (g us ws) (gV vs zs) Q (WE W σ) hr I.env0 (hb.to s us ws I.kIn l1 l2) (hb.rel r rz) sp2) fun rr s' hq => ?_)
  cases rr with
  | error e => exact passAt tk σ pins H s e s' I hq
  | ok fl =>
    cases fl with
    | ret u => exact I.after hq
    | next => exact False.elim hq
    | brk => exact False.elim hq
    | cont => exact False.elim hq
/-! ### built-in functions -/
def Bi.nm : Bi → Str
  | .len => "len" | .abs => "abs" | .gcd => "gcd" | .int => "int" | .list => "list" | .tuple => "tuple" | .sorted => "sorted" | .all => "all" | .any => "any" | .max => "max" | .min => "min" | .str => "str"
def Bi.val : Bi → Value
  | .len => .builtin "len" | .abs => .builtin "abs" | .gcd => .builtin "math.gcd" | .int => .type "int" | .list => .type "list" | .tuple => .type "tuple" | .sorted => .builtin "sorted" | .all => .builtin "all" | .any => .builtin "any" | .max => .builtin "max" | .min => .builtin "min" | .str => .type "str"
/-- brought in by an import -/
def Bi.imp : Bi → Bool
  | .gcd => true
  | _ => false
theorem bi_ok (hc : X.calm = true) (f : Bi) : CallR X f.val (rBi X.K f) := by
  cases f
  · exact bi_len
  · exact bi_abs
  · exact bi_gcd
  · exact bi_int
  · exact bi_list
  · exact bi_tuple
  · exact bi_sorted hc
  · exact bi_all hc
  · exact bi_any hc
  · exact bi_max hc
  · exact bi_min hc
  · exact bi_str
def BiAt (X : Cx) (f : Bi) : Prop := if f.imp = true then X.mg f.nm = some f.val else X.mg f.nm = none
theorem boot_bi (f : Bi) (h : f.imp = false) : bootBuiltins f.nm = some f.val := by
  cases f <;> first | decide +kernel | cases h
theorem Bi.val_kind (f : Bi) : (∃ id, f.val = .builtin id) ∨ ∃ T, f.val = .type T := by
  cases f <;> first | exact .inl ⟨_, rfl⟩ | exact .inr ⟨_, rfl⟩
theorem Bi.nm_ok (f : Bi) : f.nm ≠ "__name__" ∧ (f.nm == ("__debug__" : Str)) = false := by cases f <;> decide +kernel
theorem se_bi {f : Bi} {e : Expr} {l : List Expr} {es : Es} (hc : X.calm = true) (h : BiAt X f) (hg : Gl X f.nm) (hl : (e :: l).all notStar = true) (ha : PA X (e :: l) (tEs X.K sd W (evs B es))) :
    PE X (.Call (.Name f.nm p) (e :: l) [] pos) (tE X.K sd W (ev B (.bi f es))) := by
  rw [List.all_cons, Bool.and_eq_true] at hl
  refine ⟨fun pins s σ H Q I ⟨A, st, ρ, hs, rs, rl, P⟩ => ?_⟩
  rw [ev] at P
  have go : wpAny (model X.prog X.w) X.A (callWith pos f.val [] (backTo pos (starEach (e :: l) X.env)) (backToKw pos (keywordEach [] X.env))) (EP X pins σ Q) X.xe s := by
    have run := thn (ha.run pos pins s σ H _ I ⟨A, st, ρ, hs, rs, rl, Post.bnd (R1 := RVs X.K) P⟩) fun us s1 (h : AP X pins σ _ us s1) => (show wpAny (model X.prog X.w) X.A (call f.val us) (EP X pins σ Q) X.xe s1 from by
      obtain ⟨vs, H1, I1, r, A1, s2, ds, nx, rs1, r1, P1⟩ := h
      exact bi_ok hc f pins s1 σ H1 vs us Q I1 r ⟨A1, s2, ds, rs1, r1, post_nox P1 fun _ _ => biD_nox _ _⟩)
    rcases f.val_kind with ⟨id, e1⟩ | ⟨T, e1⟩
    · rw [e1] at run ⊢
      exact PyProof.Rows.callWith_builtin1 run (star_cons hl.1) (star_any hl.2)
    · rw [e1] at run ⊢
      exact PyProof.Rows.callWith_type1 run (star_cons hl.1) (star_any hl.2)
  refine wpAny_Call_Name_kw ?_
  unfold BiAt at h
  by_cases c : f.imp = true
  · rw [if_pos c] at h
    exact ld_glob I hg h go f.nm_ok.2
  · rw [if_neg c] at h
    exact ld_blt I hg h (boot_bi f (by simpa using c)) go f.nm_ok.1 f.nm_ok.2
/-! ### isinstance -/
def Ty.snm : Ty → Str
  | .int => "int" | .bool => "bool" | .str => "str" | .tuple => "tuple" | .list => "list" | .dict => "dict"
theorem boot_ty (t : Ty) : bootBuiltins t.snm = some (.type t.nm) := by cases t <;> decide +kernel
theorem Ty.snm_ok (t : Ty) : t.snm ≠ "__name__" ∧ (t.snm == ("__debug__" : Str)) = false := by cases t <;> decide +kernel
theorem boot_isi : bootBuiltins ("isinstance" : Str) = some (.builtin "isinstance") := by decide +kernel
theorem se_isi {a : E} {ea : Expr} {t : Ty} {p2 : Pos} (h1 : X.mg "isinstance" = none) (g1 : Gl X "isinstance") (h2 : X.mg t.snm = none) (g2 : Gl X t.snm) (hl : notStar ea = true) (ha : PE X ea (tE X.K sd W (ev B a))) :
    PE X (.Call (.Name "isinstance" p) [ea, .Name t.snm p2] [] pos) (tE X.K sd W (ev B (.isi a t))) :=
  (pe_callB (is_D (t := t)) g1 h1 boot_isi (pa_cons ha (pa_cons (pe_bltn (v := .ty t.nm) g2 h2 (boot_ty t) rfl t.snm_ok.1 t.snm_ok.2) pa_nil) (star_cons hl)) (by decide +kernel) (by decide +kernel) (star_cons hl)).weak fun σ H Q q => by
    obtain ⟨A, st, ρ, hs, rs, rl, P⟩ := tR.bnd (R1 := RV X.K) (m := ev B a) (f := fun x _ => isiK t x) (q.to fun ρ => by rw [ev])
    refine ⟨A, st, ρ, hs, rs, rl, P.imp fun x H1 ⟨A1, s1, d, ρ1, hs1, rs1, rl1, r, P1⟩ => ?_⟩
    unfold isiK at P1
    cases e : tyD s1 t d with
    | none => rw [e] at P1; exact P1.elim
    | some b =>
      rw [e] at P1
      exact ⟨A1, s1, d, x, b, rfl, rs1, r, e, post_ok P1 rs1 (RV.bl _)⟩
def tyNames (ts : List Ty) (l : List Expr) : Bool := match ts, l with
  | [], [] => true
  | t :: ts, .Name z _ :: l => decide (z = t.snm) && tyNames ts l
  | _, _ => false
theorem pa_tys (h2 : ∀ t : Ty, X.mg t.snm = none) : ∀ {ts : List Ty} {l : List Expr}, (∀ t ∈ ts, Gl X t.snm) → tyNames ts l = true → PA X l (fun _ H Q => Q (ts.map fun t => V.ty t.nm) H)
  | [], l, _, h => by
    cases l with
    | nil => exact pa_nil.weak fun _ _ _ q => q
    | cons _ _ => simp [tyNames] at h
  | t :: ts, l, g2, h => by
    cases l with
    | nil => simp [tyNames] at h
    | cons e l =>
      cases e <;> first
        | (simp [tyNames] at h; done)
        | (rw [tyNames] at h
           rw [Bool.and_eq_true] at h
           have e1 := of_decide_eq_true h.1
           subst e1
           exact (pa_cons (pe_bltn (v := .ty t.nm) (g2 t List.mem_cons_self) (h2 t) (boot_ty t) rfl t.snm_ok.1 t.snm_ok.2) (pa_tys h2 (fun u hu => g2 u (List.mem_cons_of_mem _ hu)) h.2)).weak fun _ _ _ q => q)
theorem paired_tys : ∀ ts : List Ty, Paired ClsV (ts.map fun t => V.ty t.nm) (ts.map fun t => Value.type t.nm)
  | [] => .nil
  | t :: ts => .cons (.ty _) (paired_tys ts)
theorem se_isis {a : E} {ea : Expr} {ts : List Ty} {l : List Expr} {k2 : Nat} {p2 : Pos} (h1 : X.mg "isinstance" = none) (g1 : Gl X "isinstance") (h2 : ∀ t : Ty, X.mg t.snm = none) (g2 : ∀ t ∈ ts, Gl X t.snm) (hn : tyNames ts l = true) (h0 : ts ≠ []) (hlen : ts.length ≤ 6) (hl : notStar ea = true) (ha : PE X ea (tE X.K sd W (ev B a))) :
    PE X (.Call (.Name "isinstance" p) [ea, .Tuple l k2 p2] [] pos) (tE X.K sd W (ev B (.isis a ts))) :=
  (pe_callB call_isiT g1 h1 boot_isi (pa_cons ha (pa_cons (pe_tup (pa_tys h2 g2 hn)) pa_nil) (star_cons hl)) (by decide +kernel) (by decide +kernel) (star_cons hl)).weak fun σ H Q q => by
    obtain ⟨A, st, ρ, hs, rs, rl, P⟩ := tR.bnd (R1 := RV X.K) (m := ev B a) (f := fun x _ => isisK ts x) (q.to fun ρ => by rw [ev])
    refine ⟨A, st, ρ, hs, rs, rl, P.imp fun x H1 ⟨A1, s1, d, ρ1, hs1, rs1, rl1, r, P1⟩ => ?_⟩
    unfold isisK at P1
    cases e : optAll (ts.map fun t => tyD s1 t d) with
    | none => rw [e] at P1; exact P1.elim
    | some bs =>
      rw [e] at P1
      refine ⟨by
        rw [List.length_map]
        exact Nat.le_trans hlen (by rw [sizeLine_eq]; decide), fun p hp => ?_⟩
      have nx : Nx A1 A1 H1 (upd H1 p (.tup (ts.map fun t => V.ty t.nm))) := Nx.heap (Kp.new hp)
      have ty : ∃ w : Value, TyX X.K (upd H1 p (.tup (ts.map fun t => V.ty t.nm))) x w ∧ PySem.W.kitAny X.K w (ts.map fun t => Value.type t.nm) = some (bs.any id) := by
        cases ts with
        | nil => exact absurd rfl h0
        | cons t0 ts0 =>
          obtain ⟨b0, _, e0⟩ := optAll_get e t0 List.mem_cons_self
          obtain ⟨w, ty, k⟩ := ty_kit2 (rs1.same (same_new hp)) (r.mono nx) e0
          exact ⟨w, ty, kits_any k e⟩
      obtain ⟨w, ty, k⟩ := ty
      exact ⟨x, p, _, w, _, bs.any id, rfl, upd_same, paired_tys ts, ty, k, P1 (.bl (bs.any id)) _ A1 nx (rs1.same (same_new hp)) (RV.bl _)⟩
/-- isinstance(e, C), e the exception that a suite handles: what it says stands in the context -/
def ExIs (X : Cx) (sd : L2.St → Prop) (i : Nat) (t : Str) (b : Bool) : Prop :=
  ∃ (a : Addr) (v : V) (u : Value), (∀ σ, sd σ → σ[i]? = some (some (.ref a))) ∧ RelV v u ∧ (X.mg t = some u ∨ (X.mg t = none ∧ bootBuiltins t = some u ∧ t ≠ "__name__")) ∧
    CallR X (.builtin "isinstance") (fun xs H Q => xs = [.ref a, v] ∧ Q (.bl b) H)
theorem se_exis {i : Nat} {n t : Str} {p1 p2 : Pos} {x : Exn} (hx : B.exn = some x) (h : x.fs = [] → ExIs X sd i t (B.sub x.cls t)) (h1 : X.mg "isinstance" = none) (g1 : Gl X "isinstance") (hv : PE X (.Name n p1) (tVar i)) (g2 : Gl X t) (hdb : (t == ("__debug__" : Str)) = false) :
    PE X (.Call (.Name "isinstance" p) [.Name n p1, .Name t p2] [] pos) (tE X.K sd W (ev B (.exis t))) := by
  by_cases c : x.fs = []
  · obtain ⟨a, v, u, hi, r, ht, hc⟩ := h c
    have hT : PE X (.Name t p2) (tC v) := by
      rcases ht with m | ⟨m, b, nn⟩
      · exact pe_glob g2 m r hdb
      · exact pe_bltn g2 m b r nn hdb
    refine (pe_callB hc g1 h1 boot_isi (pa_cons hv (pa_cons hT pa_nil)) (by decide +kernel) (by decide +kernel)).weak fun σ H Q ⟨A, st, ρ, hs, rs, rl, P⟩ => ?_
    rw [ev, hx, Option.bind_some, c] at P
    exact ⟨.ref a, hi σ hs, rfl, post_ok P rs (RV.bl _)⟩
  · refine ⟨fun pins s σ H Q I ⟨A, st, ρ, hs, rs, rl, P⟩ => ?_⟩
    have e : x.fs.isEmpty = false := by
      cases q : x.fs with
      | nil => exact absurd q c
      | cons _ _ => rfl
    rw [ev, hx, Option.bind_some, e] at P
    exact P.elim
/-! ### methods -/
theorem se_meth {o : E} {m : Mt} {es : Es} {eo : Expr} {l : List Expr} {apos : Pos} (hu : X.A.units + 150 < cLine) (hb : attributeBase eo m.nm X.env (eval eo X.env) = eval eo X.env) (hline : (apos.endLine == pos.line) = true) (hl : l.all notStar = true) (hfew : l.length ≤ 3) (hnil : l = [] → es = .nil) (ho : PE X eo (tE X.K sd W (ev B o))) (ha : PA X l (tEs X.K sd W (evs B es))) :
    PE X (.Call (.Attribute eo m.nm apos) l [] pos) (tE X.K sd W (ev B (.meth o m es))) := by
  obtain ⟨pa, slot, ty⟩ := mt_plain m
  have go : ∀ (σ : L2.St) (H : Hp) (Q : VK), tE X.K sd W (ev B (.meth o m es)) σ H Q → tE X.K sd W (ev B o) σ H (fun x H1 => ∃ A1 s1 d ρ1, sd σ ∧ RS X.K A1 H1 s1 ∧ RSl X.K A1 H1 σ ρ1 ∧ RV X.K A1 H1 x d ∧ tyV X.K m.ty x H1 ∧ Post X.K (RV X.K) A1 H1 (fun c d H' => W c d σ H') Q (bnd (evs B es ρ1) (fun ds => mtD m d ds) s1)) := fun σ H Q q => by
    obtain ⟨A, st, ρ, hs, rs, rl, P⟩ := tR.bnd (R1 := RV X.K) (m := ev B o) (f := fun x ρ => bnd (rcvK m x) fun _ => bnd (evs B es ρ) fun ds => mtD m x ds) (q.to fun ρ => by rw [ev])
    refine ⟨A, st, ρ, hs, rs, rl, P.imp fun x H1 ⟨A1, s1, d, ρ1, hs1, rs1, rl1, r, P1⟩ => ?_⟩
    have P1' : Post X.K (RV X.K) A1 H1 (fun c d H' => W c d σ H') Q (if rcvOk m s1 d = true then bnd (evs B es ρ1) (fun ds => mtD m d ds) s1 else .bad) := by
      unfold bnd rcvK at P1
      by_cases c : rcvOk m s1 d = true
      · rw [if_pos c] at P1 ⊢
        exact P1
      · rw [if_neg c] at P1
        exact P1.elim
    by_cases c : rcvOk m s1 d = true
    · rw [if_pos c] at P1'
      exact ⟨A1, s1, d, ρ1, hs1, rs1, rl1, r, rcv_ty rs1 r c, P1'⟩
    · rw [if_neg c] at P1'
      exact P1'.elim
  cases l with
  | nil =>
    refine (pe_bm0 pa slot ty (mt_ok hu m) ho hb hline).weak fun σ H Q q => ?_
    obtain ⟨A, st, ρ, hs, rs, rl, P⟩ := go σ H Q q
    refine ⟨A, st, ρ, hs, rs, rl, P.imp fun x H1 ⟨A1, s1, d, ρ1, hs1, rs1, rl1, r, tv, P1⟩ => ⟨tv, ?_⟩⟩
    have en := hnil rfl
    subst en
    rw [evs, bnd_ret] at P1
    exact ⟨A1, s1, d, [], rs1, r, .nil, post_nox P1 fun _ _ => mtD_nox _ _⟩
  | cons e0 l0 =>
    rw [List.all_cons, Bool.and_eq_true] at hl
    refine (pe_bm pa slot ty (mt_ok hu m) ho ha hb ?_ hline (star_cons hl.1) (star_any hl.2)).weak fun σ H Q q => ?_
    · have h1 : ((backTo pos (starEach (e0 :: l0) X.env)).all fun x => !x.1) = true := by
        have h := star_any (pos := pos) (env := X.env) (es := e0 :: l0) (by rw [List.all_cons, Bool.and_eq_true]; exact hl)
        rw [List.all_eq_true]
        intro x hx
        have := List.any_eq_false.mp h x hx
        simpa using this
      have h2 : decide ((e0 :: l0).length + ([] : List Keyword).length + (if ([] : List Keyword).isEmpty then 0 else 1) < 30) = true := decide_eq_true (by
        show (e0 :: l0).length + 0 + 0 < 30
        omega)
      rw [h1, h2]
      rfl
    · obtain ⟨A, st, ρ, hs, rs, rl, P⟩ := go σ H Q q
      refine ⟨A, st, ρ, hs, rs, rl, P.imp fun x H1 ⟨A1, s1, d, ρ1, hs1, rs1, rl1, r, tv, P1⟩ => ⟨tv, A1, s1, ρ1, hs1, rs1, rl1, (Post.bnd (R1 := RVs X.K) P1).imp fun vs H2 ⟨A2, s2, ds, nx, rs2, r2, P2⟩ => ?_⟩⟩
      exact ⟨A2, s2, d, ds, rs2, r.mono nx, r2, post_nox P2 fun _ _ => mtD_nox _ _⟩
end
end RI
set_option maxRecDepth 100000
set_option maxHeartbeats 4000000
/-! RG: the checker of expressions: what it lets through keeps what the machine does. -/
namespace RI
open PySem L2 PyProof.Rows
variable [Xs]
section
variable {X : Cx} {sd : L2.St → Prop} {W : WX} {B : Tb} {pos p : Pos}
/-! ### displays of dicts -/
theorem pairs_len : ∀ ps : List (V × V), (ps.flatMap fun p => [p.1, p.2]).length = 2 * ps.length
  | [] => rfl
  | p :: ps => by
    rw [List.flatMap_cons, List.length_append, pairs_len ps]
    simp only [List.length_cons, List.length_nil]
    omega
theorem vals_dic {A : List Addr} {H : Hp} : ∀ {ds : List D} {vs : List V} {l : List (Key × D)}, kvsD ds = some l → RVs X.K A H vs ds → ∀ {ps : List (V × V)}, vs = ps.flatMap (fun p => [p.1, p.2]) → ∃ kvs : List (Key × V), ps = kvs.map (fun kv => (kV kv.1, kv.2)) ∧ RKs X.K A H kvs l
  | [], vs, l, h, r, ps, e => by
    cases r
    cases h
    cases ps with
    | nil => exact ⟨[], rfl, .nil⟩
    | cons p ps => simp at e
  | [d], vs, l, h, r, ps, e => by cases h
  | d :: d2 :: ds, vs, l, h, r, ps, e => by
    unfold kvsD at h
    cases e1 : keyD d with
    | none => rw [e1] at h; cases h
    | some k =>
      cases e2 : kvsD ds with
      | none => rw [e1, e2] at h; cases h
      | some l' =>
        rw [e1, e2] at h
        cases h
        cases r with
        | cons r1 r2 =>
          cases r2 with
          | cons r3 r4 =>
            cases ps with
            | nil => simp at e
            | cons p ps =>
              simp only [List.flatMap_cons, List.cons_append, List.nil_append, List.cons.injEq] at e
              obtain ⟨q1, q2, q3⟩ := e
              obtain ⟨kvs, q, rk⟩ := vals_dic e2 r4 q3
              refine ⟨(k, p.2) :: kvs, ?_, .cons (by rw [← q2]; exact r3) rk⟩
              rw [q, List.map_cons, ← key_rv r1 e1, q1]
/-- the pairs of a display -/
def DicP (X : Cx) (B : Tb) (W : WX) (sd : L2.St → Prop) (pos : Pos) (es : Es) (ks : List (Option Expr)) (ws : List Expr) : Prop :=
    ∃ trs, PPs X pos ks ws trs ∧ ks.all (·.isSome) = true ∧ ks.length = ws.length ∧ es.len = 2 * ks.length ∧
      ∀ σ H (Q : List (V × V) → Hp → Prop), tR X.K sd W (fun A H (vs : List (V × V)) ds => RVs X.K A H (vs.flatMap fun p => [p.1, p.2]) ds) (evs B es) σ H Q → tPairs trs σ H Q
theorem dicP_nil : DicP X B W sd pos .nil [] [] := ⟨[], pps_nil, rfl, rfl, rfl, fun σ H Q ⟨A, st, ρ, hs, rs, rl, P⟩ => by
    rw [evs] at P
    exact post_ok P rs RVs.nil⟩
theorem dicP_cons {k v : E} {ek w : Expr} {es : Es} {ks : List (Option Expr)} {ws : List Expr} (hk : PE X ek (tE X.K sd W (ev B k))) (hv : PE X w (tE X.K sd W (ev B v))) (h : DicP X B W sd pos es ks ws) : DicP X B W sd pos (.cons k (.cons v es)) (some ek :: ks) (w :: ws) := by
    obtain ⟨trs, q, a1, a2, a4, a3⟩ := h
    refine ⟨_, pps_cons hk hv q, by rw [List.all_cons, a1]; rfl, by rw [List.length_cons, List.length_cons, a2], (by
      show es.len + 1 + 1 = 2 * (ks.length + 1)
      omega), fun σ H Q q => ?_⟩
    obtain ⟨A, st, ρ, hs, rs, rl, P⟩ := tR.bnd (R1 := RV X.K) (m := ev B k) (f := fun d ρ => bnd (evs B (.cons v es) ρ) fun ds => ret (d :: ds)) (q.to fun ρ => by rw [evs])
    refine ⟨A, st, ρ, hs, rs, rl, P.imp fun x H1 ⟨A1, s1, d, ρ1, hs1, rs1, rl1, r, P1⟩ => ?_⟩
    rw [evs, bnd_assoc] at P1
    refine ⟨A1, s1, ρ1, hs1, rs1, rl1, (Post.bnd (R1 := RV X.K) P1).imp fun y H2 ⟨A2, s2, d2, nx, rs2, r2, P2⟩ => ?_⟩
    rw [bnd_assoc] at P2
    refine a3 σ H2 _ ⟨A2, s2, ρ1, hs1, rs2, rl1.mono nx, (Post.bnd (R1 := fun A H (vs : List (V × V)) ds => RVs X.K A H (vs.flatMap fun p => [p.1, p.2]) ds) P2).imp fun ps H3 ⟨A3, s3, ds, nx3, rs3, r3, P3⟩ => ?_⟩
    exact P3 _ _ _ (Nx.refl _ _) rs3 (RVs.cons (r.mono (nx.trans nx3)) (RVs.cons (r2.mono nx3) r3))
theorem se_dic0 {tt : Bool} : PE X (.Dict [] [] pos) (tE X.K sd W (ev B (.dic0 tt))) := by
  cases tt with
  | false =>
    exact pe_dnewK.weak fun σ H Q ⟨A, st, ρ, hs, rs, rl, P⟩ p hp => by
      rw [ev] at P
      exact P (.ref p) _ (A ++ [p]) (Nx.new hp) (rs.new hp rfl ⟨[], upd_same, .nil⟩) (RV.ref (at_last rs p))
  | true =>
    exact pe_dnewT.weak fun σ H Q ⟨A, st, ρ, hs, rs, rl, P⟩ p hp => by
      rw [ev] at P
      exact P (.ref p) _ (A ++ [p]) (Nx.new hp) (rs.new hp rfl ⟨[], upd_same, .nil⟩) (RV.ref (at_last rs p))
theorem se_dic {es : Es} {ks : List (Option Expr)} {ws : List Expr} (h : DicP X B W sd pos es ks ws) (h0 : ks ≠ []) (h15 : ks.length ≤ 15) :
    PE X (.Dict ks ws pos) (tE X.K sd W (ev B (.dic es))) := by
  obtain ⟨trs, pp, a1, a2, a4, a3⟩ := h
  refine (pe_disp pp a1 a2 h0 h15).weak fun σ H Q ⟨A, st, ρ, hs, rs, rl, P⟩ p hp => ?_
  rw [ev] at P
  have nx : Nx A (A ++ [p]) H (upd H p (.dK [])) := Nx.new hp
  have rs0 : RS X.K (A ++ [p]) (upd H p (.dK [])) (st ++ [.dk []]) := rs.new hp rfl ⟨[], upd_same, .nil⟩
  have P0 : Post X.K (RV X.K) (A ++ [p]) (upd H p (.dK [])) (fun c d H' => W c d σ H') Q (bnd (evs B es ρ) (fun ds => dicK (.ref st.length) ds) (st ++ [.dk []])) := Post.re P nx
  refine a3 σ _ _ ⟨A ++ [p], _, ρ, hs, rs0, rl.mono nx, (Post.bndE (R1 := fun A H (vs : List (V × V)) ds => RVs X.K A H (vs.flatMap fun p => [p.1, p.2]) ds) P0).imp fun ps H1 ⟨A1, s1, ds, nx1, rs1, r1, el, P1⟩ => ?_⟩
  have ha : A1[st.length]? = some p := nx1.at_ (at_last rs p)
  have P1' : Post X.K (RV X.K) A1 H1 (fun c d H' => W c d σ H') Q (match s1[st.length]? with
    | some (.dk []) => (match kvsD ds with
      | some l => .ok (.ref st.length) (s1.set st.length (.dk (mergeD [] l)))
      | none => .bad)
    | _ => .bad) := P1
  cases q : s1[st.length]? with
  | none => rw [q] at P1'; exact P1'.elim
  | some o =>
    rw [q] at P1'
    cases o with
    | dk l =>
      cases l with
      | cons _ _ => exact P1'.elim
      | nil =>
        dsimp only at P1'
        cases c : kvsD ds with
        | none => rw [c] at P1'; exact P1'.elim
        | some l =>
          rw [c] at P1'
          obtain ⟨ks0, h1, rk0⟩ := rs1.at_ _ _ _ ha q
          cases rk0
          obtain ⟨kvs, ek, rk⟩ := vals_dic (X := X) c r1 rfl
          refine ⟨h1, kvs, ek, ?_, ?_⟩
          · have l1 : ps.length = ks.length := by
              have e1 := evs_len el
              have e2 := r1.length
              have e4 := pairs_len ps
              omega
            have l2 : ps.length = kvs.length := by rw [ek, List.length_map]
            omega
          · have kp := Kp.dk (ls := mergeK [] kvs) h1
            exact P1' (.ref p) _ A1 (Nx.heap kp) (rs1.seto ha q h1 rfl rfl kp ⟨_, upd_same, (RKs.merge rk .nil).mono (Nx.heap kp)⟩) (RV.ref ha)
    | _ => exact P1'.elim
end
/-! ### the checker -/
def allTy : List Ty := [.int, .bool, .str, .tuple, .list, .dict]
theorem mem_allTy (t : Ty) : t ∈ allTy := by cases t <;> decide
inductive Md where
  | cold | hot (e : Option (Str × Nat))
structure Ck where
  N : List Str
  sc : Scope
  calls : List (Str × Nat)
  callks : List (Str × Nat × List Str)
  bis : List Bi
  isi : Bool
  exis : List Str
  raises : List Str
  rng : Bool
  md : Md
  /-- the slots that may be set (in a comprehension) -/
  own : Option (List Nat) := none
  /-- a try may stand here -/
  tr : Bool := true
def visB (sc : Scope) (x : Str) : Bool := match sc.names.lookup x with
  | some .local => true
  | some .cell => true
  | some .free => true
  | _ => false
def locB (sc : Scope) (x : Str) : Bool := match sc.names.lookup x with
  | some .local => true
  | some .cell => true
  | _ => false
def glB (sc : Scope) (x : Str) : Bool := match sc.names.lookup x with
  | some .globalImplicit => true
  | _ => false
def okNm (x : Str) : Bool := !(x == ("__debug__" : Str)) && (!(x == ("__classdict__" : Str)) && !(x == ("__name__" : Str)))
def coldB : Md → Bool
  | .cold => true
  | _ => false
def plainIxB : Expr → Bool
  | .Slice .. => false
  | _ => true
def notSet : Expr → Bool
  | .Set .. => false
  | _ => true
def lclB (sc : Scope) (x : Str) : Bool := match sc.names.lookup x with
  | some .local => true
  | _ => false
/-- not the slot of the exception that is handled -/
def slotOk : Md → Nat → Bool
  | .hot (some (_, i)), j => decide (j ≠ i)
  | _, _ => true
/-- no IfExp where a test stands -/
def tok : E → Bool
  | .and a b => tok a && tok b
  | .or a b => tok a && tok b
  | .not a => tok a
  | .ite .. => false
  | _ => true
def keyBase : Expr → Bool
  | .Call .. => false
  | _ => true
def Ts.len : Ts → Nat
  | .nil => 0
  | .cons _ ts => ts.len + 1
/-- what is seen, and good -/
def onV {α : Type} : Option α → (α → Bool) → Bool
  | some a, f => f a
  | none, _ => false
theorem onV_of {α : Type} {o : Option α} {f : α → Bool} (h : onV o f = true) : ∃ a, o = some a ∧ f a = true := by
  cases o with
  | none => cases h
  | some a => exact ⟨a, rfl, h⟩
def slotB (c : Ck) (j : Nat) : Bool := slotOk c.md j && (match c.own with
  | none => true
  | some l => decide (j ∈ l))
def locT (c : Ck) (x : Str) : Bool := match c.own with
  | none => locB c.sc x
  | some _ => lclB c.sc x
def lcV : Expr → Option (Expr × Expr × Expr × List Expr × Scope)
  | .ListComp elt [⟨tg, iter, ifs, 0⟩] scope _ => some (elt, tg, iter, ifs, scope)
  | _ => none
theorem lcV_of {e elt tg iter : Expr} {ifs : List Expr} {scope : Scope} (h : lcV e = some (elt, tg, iter, ifs, scope)) : ∃ p, e = .ListComp elt [⟨tg, iter, ifs, 0⟩] scope p := by
  unfold lcV at h
  split at h
  · cases h; exact ⟨_, rfl⟩
  · cases h
def ownL (N : List Str) (own : List Nat) : List (Str × Nat) := own.map fun i => (N.getD i ⟨#[]⟩, i)
/-- a comprehension's scope, as it is seen in its block -/
def blkSc (sc scope : Scope) : Scope := relabel scope { scope := sc, locals := 0, globals := 0, cells := [] }
def blkCk (c : Ck) (scope : Scope) (own : List Nat) : Ck := { c with sc := blkSc c.sc scope, own := some own, tr := false }
mutual
def ckE (c : Ck) : E → Expr → Bool
  | .c .non, .Constant .none _ _ => true
  | .c (.bl b), .Constant (.bool b') _ _ => b == b'
  | .c (.int i), .Constant (.int j) _ _ => i == j
  | .c (.str x), .Constant (.str y) _ _ => decide (x = y)
  | .var i, .Name x _ => visB c.sc x && decide (c.N[i]? = some x) && okNm x
  | .glob x, .Name y _ => decide (x = y) && glB c.sc y && okNm y && (Xs.consts.lookup x).isSome
  | .tup es, .Tuple l _ _ => ckEs c es l
  | .lst es, .List l _ => ckEs c es l
  | .dic0 _, .Dict ks ws _ => ks.isEmpty && ws.isEmpty
  | .dic es, .Dict ks ws _ => !ks.isEmpty && decide (ks.length ≤ 15) && ckP c es ks ws
  | .bin op a b, .BinOp x op' y _ => decide (op = op') && ckE c a x && ckE c b y
  | .neg a, .UnaryOp .USub x _ => ckE c a x
  | .cmp op a b, .Compare x [op'] [y] _ => decide (op = op') && notSet y && ckE c a x && ckE c b y
  | .chn op op2 a b d, .Compare x [op', op2'] [y, z] _ => decide (op = op') && decide (op2 = op2') && !(lastMarks [op', op2'] [y, z]) && ckE c a x && ckE c b y && ckE c d z
  | .sl a lo hi, .Subscript x (.Slice el eh none _) _ => ckE c a x && ckO c lo el && ckO c hi eh
  | .and a b, .BoolOp .And (x :: y :: rest) pos => ckE c a x && (match rest with
    | [] => ckE c b y
    | _ => ckE c b (.BoolOp .And (y :: rest) pos))
  | .or a b, .BoolOp .Or (x :: y :: rest) pos => ckE c a x && (match rest with
    | [] => ckE c b y
    | _ => ckE c b (.BoolOp .Or (y :: rest) pos))
  | .not a, .UnaryOp .Not x _ => ckE c a x
  | .ite k a b, .IfExp z x y _ => tok k && ckE c k z && ckE c a x && ckE c b y
  | .ix a b, .Subscript x y _ => plainIxB y && ckE c a x && ckE c b y
  | .call f es, .Call (.Name x _) l [] _ => coldB c.md && decide (f = x) && glB c.sc x && okNm x && l.all notStar && decide ((x, es.len) ∈ c.calls) && ckEs c es l
  | .callk f es ks kes, .Call (.Name x _) l kws _ => coldB c.md && decide (f = x) && glB c.sc x && okNm x && l.all notStar && !l.isEmpty && decide (kwNames kws = ks.map some) && decide (kes.len = ks.length) && decide ((x, es.len, ks) ∈ c.callks) && ckEs c es l && ckK c kes kws
  | .bi f es, .Call (.Name x _) l [] _ => coldB c.md && decide (f.nm = x) && glB c.sc x && l.all notStar && !l.isEmpty && decide (f ∈ c.bis) && ckEs c es l
  | .isi a t, .Call (.Name x _) [y, .Name z _] [] _ => c.isi && decide (x = "isinstance") && decide (z = t.snm) && glB c.sc x && glB c.sc z && notStar y && ckE c a y
  | .isis a ts, .Call (.Name x _) [y, .Tuple l _ _] [] _ => c.isi && decide (x = "isinstance") && glB c.sc x && (allTy.all fun t => glB c.sc t.snm || !ts.contains t) && tyNames ts l && !ts.isEmpty && decide (ts.length ≤ 6) && notStar y && ckE c a y
  | .kin n a x, .Compare y [op] [.Name z _] _ => decide (op = opK n) && decide (x = z) && glB c.sc z && okNm z && (Xs.cds.lookup x).isSome && ckE c a y
  | .kix x a, .Subscript (.Name z _) y _ => plainIxB y && decide (x = z) && glB c.sc z && okNm z && (Xs.cds.lookup x).isSome && ckE c a y
  | .meth a m es, .Call (.Attribute x mn ap) l [] pos => decide (mn = m.nm) && (ap.endLine == pos.line) && keyBase x && l.all notStar && decide (l.length ≤ 3) && decide (l.length = es.len) && ckE c a x && ckEs c es l
  | .exis t, .Call (.Name x _) [.Name n _, .Name z _] [] _ => (match c.md with
    | .hot (some (e, i)) => c.isi && decide (x = "isinstance") && decide (n = e) && decide (z = t) && visB c.sc n && decide (c.N[i]? = some n) && okNm n && glB c.sc x && glB c.sc z && okNm z && decide (t ∈ c.exis)
    | _ => false)
  | .lc e t it cond own, x => onV (lcV x) fun (elt, tg, iter, ifs, scope) => coldB c.md && blkC c.N c.sc scope (ownL c.N own) && ckI c it tg iter && ckT (blkCk c scope own) t tg && ckC (blkCk c scope own) cond ifs && ckE (blkCk c scope own) e elt
  | _, _ => false
def ckI (c : Ck) : I → Expr → Expr → Bool
  | .seq e, _, x => ckE c e x && notSet x
  | .zip a b, .Tuple _ _ _, .Call (.Name r _) [x, y] [] _ => c.rng && decide (r = "zip") && glB c.sc r && notStar x && notStar y && ckE c a x && ckE c b y
  | .rng1 e, _, .Call (.Name r _) [x] [] _ => c.rng && decide (r = "range") && glB c.sc r && notStar x && ckE c e x
  | _, _, _ => false
def ckC (c : Ck) : Es → List Expr → Bool
  | .nil, [] => true
  | .cons e .nil, [x] => tok e && ckE c e x
  | _, _ => false
def ckT (c : Ck) : T → Expr → Bool
  | .name i, .Name x _ => locT c x && decide (c.N[i]? = some x) && slotB c i
  | .tup ts, .Tuple es _ _ => coldB c.md && es.all notStar && decide (es.length = ts.len) && ckTs c ts es
  | _, _ => false
def ckTs (c : Ck) : Ts → List Expr → Bool
  | .nil, l => l.isEmpty
  | .cons t ts, e :: es => notStar e && ckT c t e && ckTs c ts es
  | .cons _ _, [] => false
def ckEs (c : Ck) : Es → List Expr → Bool
  | .nil, [] => true
  | .cons e es, x :: l => notStar x && ckE c e x && ckEs c es l
  | _, _ => false
def ckO (c : Ck) : Es → Option Expr → Bool
  | .nil, none => true
  | .cons e .nil, some x => ckE c e x
  | _, _ => false
def ckK (c : Ck) : Es → List Keyword → Bool
  | .nil, [] => true
  | .cons e es, ⟨_, x, _⟩ :: l => ckE c e x && ckK c es l
  | _, _ => false
def ckP (c : Ck) : Es → List (Option Expr) → List Expr → Bool
  | .nil, [], [] => true
  | .cons k (.cons v es), some ek :: ks, w :: ws => ckE c k ek && ckE c v w && ckP c es ks ws
  | _, _, _ => false
end
end RI
set_option maxRecDepth 100000
set_option maxHeartbeats 4000000
/-! RJ: statements keep what the machine does: one lemma a construct. -/
namespace L2
open PySem PyProof.Rows
theorem PS.weak {X : Cx} {s : Stmt} {t t' : TS} (h : PS X s t) (w : ∀ D σ H, t' D σ H → t D σ H) : PS X s t' := ⟨fun pins s σ H D I q => h.run pins s σ H D I (w D σ H q)⟩
theorem PSs.weak {X : Cx} {s : List Stmt} {t t' : TS} (h : PSs X s t) (w : ∀ D σ H, t' D σ H → t D σ H) : PSs X s t' := ⟨fun pins s σ H D I q => h.run pins s σ H D I (w D σ H q)⟩
theorem PI.weak {X : Cx} {tg e : Expr} {t t' : TI} (h : PI X tg e t) (w : ∀ σ H R, t' σ H R → t σ H R) : PI X tg e t' := ⟨fun pins s σ H R I q => h.run pins s σ H R I (w σ H R q)⟩
end L2
namespace RI
open PySem L2 PyProof.Rows
variable [Xs]
section
variable {K : PySem.W.Frag} {A A' : List Addr} {H H' : Hp} {sd : L2.St → Prop} {W : WX}
/-- what is wanted behind a statement -/
def PostS (K : PySem.W.Frag) (sd : L2.St → Prop) (W : WX) (D : Ends) (A : List Addr) (H : Hp) : Fl → Prop
  | .nx ρ s => ∀ σ' H' A', Nx A A' H H' → sd σ' → RS K A' H' s → RSl K A' H' σ' ρ → D.nx σ' H'
  | .rt d s => ∀ v H' A', Nx A A' H H' → RS K A' H' s → RV K A' H' v d → D.rt v H'
  | .bk ρ s => ∀ σ' H' A', Nx A A' H H' → sd σ' → RS K A' H' s → RSl K A' H' σ' ρ → D.bk σ' H'
  | .ct ρ s => ∀ σ' H' A', Nx A A' H H' → sd σ' → RS K A' H' s → RSl K A' H' σ' ρ → D.ct σ' H'
  | .ex x ρ s => ∀ σ' H' A' c dd, Nx A A' H H' → sd σ' → RS K A' H' s → RSl K A' H' σ' ρ → RX K A' H' x c dd → W c dd σ' H'
  | .bad => False
theorem PostS.re {D : Ends} {r : Fl} (h : PostS K sd W D A H r) (x : Nx A A' H H') : PostS K sd W D A' H' r := by
  cases r with
  | nx ρ s => exact fun σ' H2 A2 y => h σ' H2 A2 (x.trans y)
  | rt d s => exact fun σ' H2 A2 y => h σ' H2 A2 (x.trans y)
  | bk ρ s => exact fun σ' H2 A2 y => h σ' H2 A2 (x.trans y)
  | ct ρ s => exact fun σ' H2 A2 y => h σ' H2 A2 (x.trans y)
  | ex e ρ s => exact fun σ' H2 A2 c dd y => h σ' H2 A2 c dd (x.trans y)
  | bad => exact h
/-- the reading of a statement -/
def tSt (K : PySem.W.Frag) (sd : L2.St → Prop) (W : WX) (m : Env → Store → Fl) : TS := fun D σ H =>
  ∃ A st ρ, sd σ ∧ RS K A H st ∧ RSl K A H σ ρ ∧ PostS K sd W D A H (m ρ st)
theorem tSt.to {m m' : Env → Store → Fl} {D : Ends} {σ : L2.St} (h : tSt K sd W m D σ H) (e : ∀ ρ s, m ρ s = m' ρ s) : tSt K sd W m' D σ H := by
  obtain ⟨A, st, ρ, hs, rs, rl, P⟩ := h
  exact ⟨A, st, ρ, hs, rs, rl, by rw [← e]; exact P⟩
/-- an expression, then what it is for -/
theorem tSt.fin {α β : Type} {R : List Addr → Hp → β → α → Prop} {m : Env → M α} {k : α → Env → Store → Fl} {D : Ends} {σ : L2.St} (h : tSt K sd W (fun ρ s => fin ρ (m ρ s) fun d s1 => k d ρ s1) D σ H) :
    tR K sd W R m σ H fun v H1 => ∃ A1 s1 d ρ, sd σ ∧ RS K A1 H1 s1 ∧ RSl K A1 H1 σ ρ ∧ R A1 H1 v d ∧ PostS K sd W D A1 H1 (k d ρ s1) := by
  obtain ⟨A, st, ρ, hs, rs, rl, P⟩ := h
  refine ⟨A, st, ρ, hs, rs, rl, ?_⟩
  dsimp only [RI.fin] at P
  cases e : m ρ st with
  | ok d s1 =>
    rw [e] at P
    exact fun v H1 A1 nx rs1 r => ⟨A1, s1, d, ρ, hs, rs1, rl.mono nx, r, P.re nx⟩
  | ex x s1 =>
    rw [e] at P
    exact fun H1 A1 c dd nx rs1 r => P σ H1 A1 c dd nx hs rs1 (rl.mono nx) r
  | bad =>
    rw [e] at P
    exact P
theorem PostS.fin {α β : Type} {R : List Addr → Hp → β → α → Prop} {r : Res α} {k : α → Store → Fl} {D : Ends} {σ : L2.St} {ρ : Env} (h : PostS K sd W D A H (RI.fin ρ r k)) (hs : sd σ) (rl : RSl K A H σ ρ) :
    Post K R A H (fun c d H' => W c d σ H') (fun v H1 => ∃ A1 s1 d, Nx A A1 H H1 ∧ RS K A1 H1 s1 ∧ R A1 H1 v d ∧ PostS K sd W D A1 H1 (k d s1)) r := by
  unfold RI.fin at h
  cases r with
  | ok d s1 => exact fun v H1 A1 nx rs1 r => ⟨A1, s1, d, nx, rs1, r, h.re nx⟩
  | ex x s1 => exact fun H1 A1 c dd nx rs1 r => h σ H1 A1 c dd nx hs rs1 (rl.mono nx) r
  | bad => exact h
theorem posts_nx {D : Ends} {ρ : Env} {s : Store} {σ : L2.St} (h : PostS K sd W D A H (.nx ρ s)) (hs : sd σ) (rs : RS K A H s) (rl : RSl K A H σ ρ) : D.nx σ H := h σ H A (Nx.refl A H) hs rs rl
theorem posts_rt {D : Ends} {d : RI.D} {s : Store} {v : V} (h : PostS K sd W D A H (.rt d s)) (rs : RS K A H s) (r : RV K A H v d) : D.rt v H := h v H A (Nx.refl A H) rs r
end
section
variable {X : Cx} {sd : L2.St → Prop} {W : WX} {B : Tb} {pos : Pos}
def notComp : Expr → Bool
  | .ListComp .. => false
  | .SetComp .. => false
  | .DictComp .. => false
  | _ => true
theorem swaps_of {e : Expr} {t : Option Expr} {l : Nat} {env : PySem.Env} (h : notComp e = true) : swapsWith e t l env = pure false := by
  cases e <;> first | rfl | cases h
theorem sole_of {e t : Expr} {l : Nat} {env : PySem.Env} (h : notComp e = true) : swapsWithSole [t] e l env = pure false := by
  cases e <;> first | rfl | cases h
theorem ss_nil : PSs X [] (tSt X.K sd W (exSs B .nil)) := pss_nil.weak fun D σ H ⟨A, st, ρ, hs, rs, rl, P⟩ => by
  rw [exSs] at P
  exact posts_nx P hs rs rl
def seqF (k : Env → Store → Fl) : Fl → Fl
  | .nx ρ s => k ρ s
  | q => q
theorem exSs_cons (a : S) (r : Ss) (ρ : Env) (s : Store) : exSs B (.cons a r) ρ s = seqF (fun ρ s => exSs B r ρ s) (exS B a ρ s) := by
  rw [exSs]
  cases exS B a ρ s <;> rfl
theorem ss_cons {a : S} {r : Ss} {st : Stmt} {l : List Stmt} (h1 : PS X st (tSt X.K sd W (exS B a))) (h2 : PSs X l (tSt X.K sd W (exSs B r))) : PSs X (st :: l) (tSt X.K sd W (exSs B (.cons a r))) :=
  (pss_cons h1 h2).weak fun D σ H q => by
    obtain ⟨A, st, ρ, hs, rs, rl, P⟩ := q.to fun ρ s => exSs_cons (B := B) a r ρ s
    dsimp only at P
    refine ⟨A, st, ρ, hs, rs, rl, ?_⟩
    cases e : exS B a ρ st with
    | nx ρ1 s1 =>
      rw [e] at P
      exact fun σ' H' A' nx hs' rs' rl' => ⟨A', s1, ρ1, hs', rs', rl', PostS.re P nx⟩
    | rt d s1 => rw [e] at P; exact P
    | bk ρ1 s1 => rw [e] at P; exact P
    | ct ρ1 s1 => rw [e] at P; exact P
    | ex x ρ1 s1 => rw [e] at P; exact P
    | bad => rw [e] at P; exact P
theorem ss_asg {i : Nat} {x : Str} {e : E} {ee : Expr} {p : Pos} (hN : X.N.Nodup) (hi : X.N[i]? = some x) (hx : Loc X.env.scope x ∧ (X.fn x = true ∨ X.env.scope.names.lookup x = some .local)) (hsd : ∀ σ v, sd σ → sd (σ.set i (some v))) (nc : notComp ee = true) (he : PE X ee (tE X.K sd W (ev B e))) :
    PS X (.Assign [.Name x p] ee pos) (tSt X.K sd W (exS B (.asg (.name i) e))) :=
  (ps_set hN hi hx.1 he (swaps_of nc) hx.2).weak fun D σ H q => by
    obtain ⟨A, st, ρ, hs, rs, rl, P⟩ := tSt.fin (R := RV X.K) (m := ev B e) (k := fun d ρ s1 => .nx (ρ.set i (some d)) s1) (q.to fun ρ s => by rw [exS]; rfl)
    refine ⟨A, st, ρ, hs, rs, rl, P.imp fun v H1 ⟨A1, s1, d, ρ1, hs1, rs1, rl1, r, P1⟩ => ?_⟩
    exact posts_nx P1 (hsd σ v hs1) rs1 (rl1.set i r)
theorem ss_seti {o i e : E} {eo ei ee : Expr} {p : Pos} (hu : X.A.units + 150 < cLine) (nc : notComp ee = true) (ho : PE X eo (tE X.K sd W (ev B o))) (hi : PE X ei (tE X.K sd W (ev B i))) (he : PE X ee (tE X.K sd W (ev B e)))
    (ha : ∀ v, assign (.Subscript eo ei p) X.env v = (do
      let ov ← holding [v] (eval eo X.env)
      let iv ← holding [v, ov] (eval ei X.env)
      standAt p
      holding [v, ov, iv] (setItem ov iv v)
      release [v, ov, iv] [])) : PS X (.Assign [.Subscript eo ei p] ee pos) (tSt X.K sd W (exS B (.seti o i e))) :=
  (ps_asg he (pg_sub ho hi (PSet.or (set_dct (by omega)) set_list) ha) (sole_of nc)).weak fun D σ H q => by
    obtain ⟨A, st, ρ, hs, rs, rl, P⟩ := q.to (m' := fun ρ s => fin ρ (ev B e ρ s) fun d s1 => fin ρ (ev B o ρ s1) fun x s2 => fin ρ (ev B i ρ s2) fun y s3 => setiK d x y ρ s3) fun ρ s => by rw [exS]
    refine ⟨A, st, ρ, hs, rs, rl, (PostS.fin (R := RV X.K) P hs rl).imp fun v H1 ⟨A1, s1, d, nx1, rs1, r1, P1⟩ => ?_⟩
    refine ⟨A1, s1, ρ, hs, rs1, rl.mono nx1, (PostS.fin (R := RV X.K) P1 hs (rl.mono nx1)).imp fun x H2 ⟨A2, s2, dx, nx2, rs2, r2, P2⟩ => ?_⟩
    refine ⟨A2, s2, ρ, hs, rs2, (rl.mono nx1).mono nx2, (PostS.fin (R := RV X.K) P2 hs ((rl.mono nx1).mono nx2)).imp fun y H3 ⟨A3, s3, dy, nx3, rs3, r3, P3⟩ => ?_⟩
    have rd := (r1.mono nx2).mono nx3
    have rx := r2.mono nx3
    have rl3 := ((rl.mono nx1).mono nx2).mono nx3
    unfold setiK at P3
    cases z : dputD s3 dx dy d with
    | some s4 =>
      rw [z] at P3
      obtain ⟨a, H4, ea, dp, nx4, rs4⟩ := dput_of rs3 rx r3 rd z
      exact .inl ⟨a, H4, ea, dp, P3 σ H4 A3 nx4 hs rs4 (rl3.mono nx4)⟩
    | none =>
      rw [z] at P3
      dsimp only at P3
      refine .inr ?_
      cases dx with
      | ref n =>
        cases dy with
        | int k =>
          cases rx with
          | @ref _ a ha =>
            cases r3
            dsimp only at P3
            cases q1 : s3[n]? with
            | none => rw [q1] at P3; exact P3.elim
            | some ob =>
              rw [q1] at P3
              cases ob with
              | lst l =>
                dsimp only at P3
                cases q2 : ixN l.length k with
                | none => rw [q2] at P3; exact P3.elim
                | some j =>
                  rw [q2] at P3
                  obtain ⟨xs, h1, rxs⟩ := rs3.at_ n a _ ha q1
                  refine ⟨a, xs, k, j, rfl, rfl, h1, by rw [rxs.length]; exact q2, ?_⟩
                  exact P3 σ _ A3 (Nx.heap (Kp.lst h1)) hs (rs3.setl ha q1 h1 (rxs.set j rd)) (rl3.mono (Nx.heap (Kp.lst h1)))
              | _ => exact P3.elim
        | _ => exact P3.elim
      | _ => exact P3.elim
theorem ss_never {s : Stmt} : PS X s (tSt X.K sd W (exS B .never)) := ps_never.weak fun D σ H ⟨A, st, ρ, hs, rs, rl, P⟩ => by
  rw [exS] at P
  exact P
theorem ss_expr {e : E} {ee : Expr} (nc : notComp ee = true) (he : PE X ee (tE X.K sd W (ev B e))) : PS X (.Expr ee pos) (tSt X.K sd W (exS B (.expr e))) :=
  (ps_expr he (swaps_of nc)).weak fun D σ H q => by
    obtain ⟨A, st, ρ, hs, rs, rl, P⟩ := tSt.fin (R := RV X.K) (m := ev B e) (k := fun d ρ s1 => .nx ρ s1) (q.to fun ρ s => by rw [exS])
    exact ⟨A, st, ρ, hs, rs, rl, P.imp fun v H1 ⟨A1, s1, d, ρ1, hs1, rs1, rl1, r, P1⟩ => posts_nx P1 hs1 rs1 rl1⟩
theorem ss_ret {e : E} {ee : Expr} (he : PE X ee (tE X.K sd W (ev B e))) : PS X (.Return (some ee) pos) (tSt X.K sd W (exS B (.ret e))) :=
  (ps_ret he).weak fun D σ H q => by
    obtain ⟨A, st, ρ, hs, rs, rl, P⟩ := tSt.fin (R := RV X.K) (m := ev B e) (k := fun d ρ s1 => .rt d s1) (q.to fun ρ s => by rw [exS])
    exact ⟨A, st, ρ, hs, rs, rl, P.imp fun v H1 ⟨A1, s1, d, ρ1, hs1, rs1, rl1, r, P1⟩ => posts_rt P1 rs1 r⟩
theorem ss_retN : PS X (.Return none pos) (tSt X.K sd W (exS B .retN)) := ps_retN.weak fun D σ H ⟨A, st, ρ, hs, rs, rl, P⟩ => by
  rw [exS] at P
  exact posts_rt P rs .non
theorem ss_pass : PS X (.Pass pos) (tSt X.K sd W (exS B .pass)) := ps_pass.weak fun D σ H ⟨A, st, ρ, hs, rs, rl, P⟩ => by
  rw [exS] at P
  exact posts_nx P hs rs rl
theorem ss_brk : PS X (.Break pos) (tSt X.K sd W (exS B .brk)) := ps_break.weak fun D σ H ⟨A, st, ρ, hs, rs, rl, P⟩ => by
  rw [exS] at P
  exact P σ H A (Nx.refl A H) hs rs rl
theorem ss_cnt : PS X (.Continue pos) (tSt X.K sd W (exS B .cnt)) := ps_continue.weak fun D σ H ⟨A, st, ρ, hs, rs, rl, P⟩ => by
  rw [exS] at P
  exact P σ H A (Nx.refl A H) hs rs rl
theorem ss_ife {c : E} {a b : Ss} {ec : Expr} {la lb : List Stmt} (hc : PT X ec (tT X.K sd W fun ρ => truM (ev B c ρ))) (ha : PSs X la (tSt X.K sd W (exSs B a))) (hb : PSs X lb (tSt X.K sd W (exSs B b))) : PS X (.If ec la lb pos) (tSt X.K sd W (exS B (.ife c a b))) :=
  (ps_if hc ha hb).weak fun D σ H q => by
    obtain ⟨A, st, ρ, hs, rs, rl, P⟩ := tSt.fin (R := fun _ _ b c => b = c) (m := fun ρ => truM (ev B c ρ)) (k := fun k ρ s1 => if k = true then exSs B a ρ s1 else exSs B b ρ s1) (q.to fun ρ s => by rw [exS])
    refine ⟨A, st, ρ, hs, rs, rl, P.imp fun v H1 ⟨A1, s1, d, ρ1, hs1, rs1, rl1, r, P1⟩ => ?_⟩
    subst r
    cases v with
    | true => exact ⟨A1, s1, ρ1, hs1, rs1, rl1, P1⟩
    | false => exact ⟨A1, s1, ρ1, hs1, rs1, rl1, P1⟩
/-! ### what a loop walks -/
/-- J yields the items of w, as long as w's lists stand -/
def Fol (K : PySem.W.Frag) (A0 : List Addr) (H0 : Hp) (J : It) (w : Walk) : Prop :=
  ∀ (A : List Addr) (H : Hp) (st : Store) (i : Nat), Nx A0 A H0 H → RS K A H st → w.ok st →
    (∀ d, w.items[i]? = some d → J.go i H ∧ ∀ x H', J.yld i H x H' → Same H H' ∧ RV K A H' x d) ∧ (i = w.items.length → J.stop i H)
abbrev tI (K : PySem.W.Frag) (sd : L2.St → Prop) (W : WX) (m : Env → M Walk) : TI := tR K sd W (fun A H (J : It) w => Fol K A H J w) m
theorem fol_list {A : List Addr} {H : Hp} {n : Nat} {a : Addr} {l : List D} (ha : A[n]? = some a) : Fol X.K A H (Itl X.K a) ⟨l, [(n, l)]⟩ := by
  intro A' H' st i nx rs ok
  obtain ⟨xs, sq, r⟩ := lst_sq rs (.ref (nx.at_ ha)) (ok (n, l) (List.mem_singleton.mpr rfl))
  refine ⟨fun d hd => ?_, fun e => ?_⟩
  · obtain ⟨v, e1, rv⟩ := r.get hd
    refine ⟨⟨xs, v, sq, e1⟩, fun x H2 y => ?_⟩
    obtain ⟨eH, y⟩ := y
    subst eH
    have e2 := y xs sq
    rw [e1] at e2
    cases e2
    exact ⟨Same.refl _, rv⟩
  · exact ⟨xs, sq, by rw [r.length, e]; exact Nat.le_refl _⟩
theorem fol_tup {A : List Addr} {H : Hp} {a : Addr} {xs : List V} {l : List D} (sq : SqT X.K H a xs) (r : RVs X.K A H xs l) : Fol X.K A H (Itt X.K a) ⟨l, []⟩ := by
  intro A' H' st i nx rs ok
  have sq' := nx.kp.sqt X.K sq
  have r' := r.mono nx
  refine ⟨fun d hd => ?_, fun e => ?_⟩
  · obtain ⟨v, e1, rv⟩ := r'.get hd
    refine ⟨⟨xs, v, sq', e1⟩, fun x H2 y => ?_⟩
    obtain ⟨eH, y⟩ := y
    subst eH
    have e2 := y xs sq'
    rw [e1] at e2
    cases e2
    exact ⟨Same.refl _, rv⟩
  · exact ⟨xs, sq', by rw [r'.length, e]; exact Nat.le_refl _⟩
theorem fol_str {A : List Addr} {H : Hp} {x : Str} : Fol X.K A H (Its x) ⟨x.cps.toList.map fun c => D.str ⟨#[c]⟩, []⟩ := by
  intro A' H' st i nx rs ok
  refine ⟨fun d hd => ?_, fun e => ?_⟩
  · rw [List.getElem?_map] at hd
    cases q : x.cps.toList[i]? with
    | none => rw [q] at hd; cases hd
    | some c =>
      rw [q] at hd
      cases hd
      have hq : x.cps[i]? = some c := by rw [← Array.getElem?_toList]; exact q
      have hi : i < x.cps.size := (Array.getElem?_eq_some_iff.mp hq).1
      refine ⟨hi, fun y H2 h => ?_⟩
      obtain ⟨eH, c', e1, e2⟩ := h
      subst eH e2
      rw [hq] at e1
      cases e1
      exact ⟨Same.refl _, .str _⟩
  · have e : i = x.cps.size := by simpa using e
    exact Nat.le_of_eq e.symm
theorem fol_rng {A : List Addr} {H : Hp} {lo : Int} {n : Nat} : Fol X.K A H (Itr lo n) ⟨(List.range n).map fun k => D.int (lo + (k : Nat)), []⟩ := by
  intro A' H' st i nx rs ok
  refine ⟨fun d hd => ?_, fun e => ?_⟩
  · have hi : i < n := by
      have := (List.getElem?_eq_some_iff.mp hd).1
      simpa using this
    refine ⟨hi, fun x H2 y => ?_⟩
    obtain ⟨eH, y⟩ := y
    subst eH y
    have e1 : d = .int (lo + (i : Nat)) := by
      simp only [List.getElem?_map, List.getElem?_range hi, Option.map_some, Option.some.injEq] at hd
      exact hd.symm
    subst e1
    exact ⟨Same.refl _, .int _⟩
  · have e' : i = n := by simpa using e
    exact Nat.le_of_eq e'.symm
/-- where a list or a tuple lies, as long as it stands -/
theorem src_at {A : List Addr} {H : Hp} {s : Store} {v : V} {d : D} {l : List D} {h : List (Nat × List D)} (r : RV X.K A H v d) (rs : RS X.K A H s) (e : srcOf s d = some (l, h)) :
    ∃ (k : Bool) (a : Addr) (xs : List V), v = .ref a ∧ SqA k X.K H a xs ∧ ∀ (A' : List Addr) (H' : Hp) (s' : Store), Nx A A' H H' → RS X.K A' H' s' → (∀ p ∈ h, lstOf s' (.ref p.1) = some p.2) → ∃ xs', SqA k X.K H' a xs' ∧ RVs X.K A' H' xs' l := by
  cases d with
  | tup m =>
    cases e
    cases r with
    | @tup a xs _ sq _ rx => exact ⟨false, a, xs, rfl, sq, fun A' H' s' nx _ _ => ⟨xs, nx.kp.sqt X.K sq, rx.mono nx⟩⟩
  | ref n =>
    cases r with
    | @ref _ a ha =>
      have e : (lstOf s (.ref n)).map (fun l => (l, [(n, l)])) = some (l, h) := e
      cases e1 : lstOf s (.ref n) with
      | none => rw [e1] at e; cases e
      | some m =>
        rw [e1] at e
        cases e
        obtain ⟨xs, sq, rx⟩ := lst_sq rs (.ref ha) e1
        refine ⟨true, a, xs, rfl, sq, fun A' H' s' nx rs' q => ?_⟩
        exact lst_sq rs' (.ref (nx.at_ ha)) (q (n, l) (List.mem_singleton.mpr rfl))
  | _ => cases e
theorem fol_pair {A : List Addr} {H : Hp} {k k' : Bool} {a b : Addr} {l m : List D} {h h' : List (Nat × List D)}
    (f : ∀ (A' : List Addr) (H' : Hp) (s' : Store), Nx A A' H H' → RS X.K A' H' s' → (∀ p ∈ h, lstOf s' (.ref p.1) = some p.2) → ∃ xs', SqA k X.K H' a xs' ∧ RVs X.K A' H' xs' l)
    (g : ∀ (A' : List Addr) (H' : Hp) (s' : Store), Nx A A' H H' → RS X.K A' H' s' → (∀ p ∈ h', lstOf s' (.ref p.1) = some p.2) → ∃ xs', SqA k' X.K H' b xs' ∧ RVs X.K A' H' xs' m) :
    Fol X.K A H (ItP X.K k k' a b) ⟨List.zipWith (fun a b => D.tup [a, b]) l m, h ++ h'⟩ := by
  intro A' H' st i nx rs ok
  obtain ⟨xs, sx, rx⟩ := f A' H' st nx rs fun p hp => ok p (List.mem_append_left _ hp)
  obtain ⟨ys, sy, ry⟩ := g A' H' st nx rs fun p hp => ok p (List.mem_append_right _ hp)
  refine ⟨fun d hd => ?_, fun e => ?_⟩
  · obtain ⟨x, y, ex, ey, rfl⟩ : ∃ x y, l[i]? = some x ∧ m[i]? = some y ∧ d = .tup [x, y] := by
      rw [List.getElem?_zipWith] at hd
      cases e1 : l[i]? with
      | none => rw [e1] at hd; cases hd
      | some x =>
        cases e2 : m[i]? with
        | none => rw [e1, e2] at hd; cases hd
        | some y =>
          rw [e1, e2] at hd
          exact ⟨x, y, rfl, rfl, (Option.some.inj hd).symm⟩
    obtain ⟨u, eu, ru⟩ := rx.get ex
    obtain ⟨v, ev, rv⟩ := ry.get ey
    refine ⟨⟨xs, ys, u, v, sx, sy, eu, ev⟩, fun z H2 q => ?_⟩
    obtain ⟨T, u', v', rfl, hT, rfl, q1, q2⟩ := q
    have e1 := q1 xs sx
    rw [eu] at e1
    cases e1
    have e2 := q2 ys sy
    rw [ev] at e2
    cases e2
    have sm : Same H' (upd H' T (.tup [u, v])) := same_new hT
    have nx2 : Nx A' A' H' (upd H' T (.tup [u, v])) := ⟨⟨[], by simp⟩, same_kp sm⟩
    exact ⟨sm, .tup (SqT.of upd_same) (.inl upd_same) (.cons (ru.mono nx2) (.cons (rv.mono nx2) .nil))⟩
  · have e : i = min l.length m.length := by simpa using e
    have l1 := rx.length
    have l2 := ry.length
    exact ⟨xs, ys, sx, sy, by omega, by omega, by omega⟩
end
end RI
set_option maxRecDepth 100000
set_option maxHeartbeats 4000000
/-! RJ2: targets: names, tuples of targets. -/
namespace RI
open PySem L2 PyProof.Rows
variable [Xs]
theorem asgTs_len : ∀ {ts : Ts} {ds : List D} {ρ ρ' : Env} {s : Store}, asgTs ts ds ρ s = some ρ' → ds.length = ts.len
  | .nil, [], _, _, _, _ => rfl
  | .nil, _ :: _, _, _, _, h => by simp [asgTs] at h
  | .cons _ _, [], _, _, _, h => by simp [asgTs] at h
  | .cons t ts, d :: ds, ρ, ρ', s, h => by
    rw [asgTs] at h
    cases e : asgT t d ρ s with
    | none => rw [e] at h; cases h
    | some ρ1 =>
      rw [e] at h
      exact congrArg Nat.succ (asgTs_len (show asgTs ts ds ρ1 s = some ρ' from h))
def tG (K : PySem.W.Frag) (sd : L2.St → Prop) (t : T) : TG := fun v σ H Q => ∃ A st ρ d ρ', sd σ ∧ RS K A H st ∧ RSl K A H σ ρ ∧ RV K A H v d ∧ asgT t d ρ st = some ρ' ∧ ∀ σ', sd σ' → RSl K A H σ' ρ' → Q σ' H
def tGs (K : PySem.W.Frag) (sd : L2.St → Prop) (ts : Ts) : TGs := fun vs σ H Q => ∃ A st ρ ds ρ', sd σ ∧ RS K A H st ∧ RSl K A H σ ρ ∧ RVs K A H vs ds ∧ asgTs ts ds ρ st = some ρ' ∧ ∀ σ', sd σ' → RSl K A H σ' ρ' → Q σ' H
section
variable {X : Cx} {sd : L2.St → Prop} {pos : Pos}
theorem each_len {env : PySem.Env} : ∀ {es : List Expr}, (assignEach es env).length = es.length
  | [] => rfl
  | e :: es => by
    cases e <;> exact congrArg Nat.succ (each_len (es := es))
theorem each_plain {env : PySem.Env} : ∀ {es : List Expr}, es.all notStar = true → (assignEach es env).findIdx? (·.1) = none
  | [], _ => rfl
  | e :: es, h => by
    rw [List.all_cons, Bool.and_eq_true] at h
    have ih := each_plain (env := env) h.2
    have e1 : assignEach (e :: es) env = (false, assign e env) :: assignEach es env := by
      have := h.1
      cases e <;> first | rfl | cases this
    rw [e1, List.findIdx?_cons, ih]
    rfl
theorem each_cons {env : PySem.Env} {e : Expr} {es : List Expr} (h : notStar e = true) : (assignEach (e :: es) env).map (·.2) = assign e env :: (assignEach es env).map (·.2) := by
  cases e <;> first | rfl | cases h
theorem sg_name {i : Nat} {x : Str} (hN : X.N.Nodup) (hi : X.N[i]? = some x) (hx : Loc X.env.scope x ∧ (X.fn x = true ∨ X.env.scope.names.lookup x = some .local)) (hsd : ∀ σ v, sd σ → sd (σ.set i (some v))) : PG X (.Name x pos) (tG X.K sd (.name i)) :=
  ⟨fun pins s σ H v u Q I r ⟨A, st, ρ, d, ρ', hs, rs, rl, rv, e, q⟩ => (pg_name hN hi hx.1 hx.2).run pins s σ H v u Q I r (by
    rw [asgT] at e
    cases e
    exact q _ (hsd _ _ hs) (rl.set i rv))⟩
theorem sg_nil : PGs X [] (tGs X.K sd .nil) :=
  ⟨fun pins s σ H vs us Q I r ⟨A, st, ρ, ds, ρ', hs, rs, rl, rv, e, q⟩ => pgs_nil.run pins s σ H vs us Q I r (by
    cases ds with
    | nil =>
      cases rv
      rw [asgTs] at e
      cases e
      exact ⟨rfl, q σ hs rl⟩
    | cons d ds => simp [asgTs] at e)⟩
theorem sg_cons {e : Expr} {es : List Expr} {t : T} {ts : Ts} (hl : notStar e = true) (h : PG X e (tG X.K sd t)) (g : PGs X es (tGs X.K sd ts)) : PGs X (e :: es) (tGs X.K sd (.cons t ts)) :=
  ⟨fun pins s σ H vs us Q I r ⟨A, st, ρ, ds, ρ', hs, rs, rl, rv, e, q⟩ => (pgs_cons h g (each_cons hl)).run pins s σ H vs us Q I r (by
    cases ds with
    | nil => simp [asgTs] at e
    | cons d ds =>
      cases rv with
      | cons r1 r2 =>
        rw [asgTs] at e
        cases e1 : asgT t d ρ st with
        | none => rw [e1] at e; cases e
        | some ρ1 =>
          rw [e1] at e
          exact ⟨_, _, rfl, A, st, ρ, d, ρ1, hs, rs, rl, r1, e1, fun σ1 hs1 rl1 => ⟨A, st, ρ1, ds, ρ', hs1, rs, rl1, r2, e, q⟩⟩)⟩
theorem sg_tup {es : List Expr} {k : Nat} {ts : Ts} (hc : X.calm = true) (hl : es.all notStar = true) (hn : es.length = ts.len) (h : PGs X es (tGs X.K sd ts)) : PG X (.Tuple es k pos) (tG X.K sd (.tup ts)) := by
  refine ⟨fun pins s σ H v u Q I r ⟨A, st, ρ, d, ρ', hs, rs, rl, rv, e, q⟩ => ?_⟩
  have e' : ((seqOf st d).bind fun l => asgTs ts l ρ st) = some ρ' := by rw [asgT] at e; exact e
  cases e1 : seqOf st d with
  | none => rw [e1] at e'; cases e'
  | some l =>
    rw [e1] at e'
    have e2 : asgTs ts l ρ st = some ρ' := e'
    have hlen := asgTs_len e2
    cases d with
    | tup l' =>
      cases e1
      cases rv with
      | tup sq _ rr => exact (pg_tup (n := es.length) hc h each_len (each_plain hl)).run pins s σ H _ u Q I r ⟨_, _, rfl, sq, by rw [rr.length, hlen, hn], A, st, ρ, l, ρ', hs, rs, rl, rr, e2, q⟩
    | ref n =>
      have e3 : lstOf st (.ref n) = some l := e1
      cases rv with
      | ref ea =>
        obtain ⟨xs, sq, rr⟩ := lst_sq rs (RV.ref ea) e3
        exact (pg_lst (n := es.length) hc h each_len (each_plain hl)).run pins s σ H _ u Q I r ⟨_, xs, rfl, sq, by rw [rr.length, hlen, hn], A, st, ρ, l, ρ', hs, rs, rl, rr, e2, q⟩
    | non => cases e1
    | bl _ => cases e1
    | int _ => cases e1
    | str _ => cases e1
end
end RI
set_option maxRecDepth 100000
set_option maxHeartbeats 4000000
/-! RI1: what a loop walks. -/
namespace RI
open PySem L2 PyProof.Rows
variable [Xs]
section
variable {X : Cx} {sd : L2.St → Prop} {W : WX} {B : Tb} {pos : Pos} {tg : Expr}
/-- a list or a tuple, walked: which of them is known where it is walked -/
theorem pi_any {l : Expr} {tl : TE} (hl : PE X l tl) : PI X tg l (fun σ H R => tl σ H fun x H1 => (∃ z, x = .str z ∧ R (Its z) H1) ∨ ∃ a, x = .ref a ∧ (((∃ xs, SqL X.K H1 a xs) ∧ R (Itl X.K a) H1) ∨ ((∃ xs, SqT X.K H1 a xs) ∧ R (Itt X.K a) H1))) := by
  refine ⟨fun pins s σ H R I h => thn (hl.run pins s σ H _ I h) fun v t ⟨x, G, J, rr, q⟩ => ?_⟩
  rcases q with ⟨z, ex, q⟩ | ⟨a, ex, q⟩
  · subst ex
    obtain ⟨tk, rfl⟩ := rr
    cases ha : z.cps.all (· < 128)
    · exact wpAny_pyIter_wide ha (pi_one (tk := t.toks) J _ (turn_str _ z tk "str_iterator" (.inr rfl)) ⟨_, Heap.get?_push_size _ rfl, rfl, rfl⟩ q)
    · exact wpAny_pyIter_ascii ha (pi_one (tk := t.toks) J _ (turn_str _ z tk "str_ascii_iterator" (.inl rfl)) ⟨_, Heap.get?_push_size _ rfl, rfl, rfl⟩ q)
  subst ex
  cases rr
  have own : ∀ b ∈ [t.heap.objs.size], FpOk X pins G b := fun b hb => by
    cases List.mem_singleton.mp hb
    exact J.fpOk (Nat.le_refl _) (J.hok.fresh (Nat.le_refl _))
  rcases q with ⟨⟨xs, sq⟩, q⟩ | ⟨⟨xs, sq⟩, q⟩
  · obtain ⟨us, vs, pl, _⟩ := J.list sq
    exact wpAny_pyIter_list pl.isList ⟨t.heap.objs.size, [t.heap.objs.size], _, _, G, rfl, J.kept (t' := t.toks) (fun b o e => Heap.get?_push_of_some _ e), turn_list a _, ⟨_, Heap.get?_push_size _ rfl, rfl, rfl⟩, own, q⟩
  · obtain ⟨us, vs, pl, _⟩ := J.tuple sq
    exact wpAny_pyIter_tuple (show t.heap.IsTuple a us.toArray from pl) ⟨t.heap.objs.size, [t.heap.objs.size], _, _, G, rfl, J.kept (t' := t.toks) (fun b o e => Heap.get?_push_of_some _ e), turn_tuple a _, ⟨_, Heap.get?_push_size _ rfl, rfl, rfl⟩, own, q⟩
theorem si_seq {e : E} {ee : Expr} (he : PE X ee (tE X.K sd W (ev B e))) : PI X tg ee (tI X.K sd W (evI B (.seq e))) :=
  (pi_any he).weak fun σ H R q => by
    obtain ⟨A, st, ρ, hs, rs, rl, P⟩ := tR.bnd (R1 := RV X.K) (m := ev B e) (f := fun x _ => seqK x) (q.to fun ρ => by rw [evI])
    refine ⟨A, st, ρ, hs, rs, rl, P.imp fun x H1 ⟨A1, s1, d, ρ1, hs1, rs1, rl1, r, P1⟩ => ?_⟩
    unfold seqK at P1
    cases d with
    | tup l =>
      cases r with
      | @tup a xs _ sq _ rx => exact .inr ⟨a, rfl, .inr ⟨⟨xs, sq⟩, P1 _ H1 A1 (Nx.refl _ _) rs1 (fol_tup sq rx)⟩⟩
    | str z =>
      cases r
      exact .inl ⟨z, rfl, P1 _ H1 A1 (Nx.refl _ _) rs1 fol_str⟩
    | ref n =>
      cases r with
      | @ref _ a ha =>
        have P1' : Post X.K (fun A H (J : It) w => Fol X.K A H J w) A1 H1 (fun c d H' => W c d σ H') R (ofO ((lstOf s1 (.ref n)).map fun l => ⟨l, [(n, l)]⟩) s1) := P1
        cases e1 : lstOf s1 (.ref n) with
        | none => rw [e1] at P1'; exact P1'.elim
        | some l =>
          rw [e1] at P1'
          obtain ⟨xs, sq, rx⟩ := lst_sq rs1 (.ref ha) e1
          exact .inr ⟨a, rfl, .inl ⟨⟨xs, sq⟩, P1' _ H1 A1 (Nx.refl _ _) rs1 (fol_list ha)⟩⟩
    | _ => exact P1.elim
theorem boot_rng : bootBuiltins ("range" : Str) = some (.type "range") := boot_range
theorem si_rng1 {e : E} {ee : Expr} {p : Pos} (h1 : X.mg "range" = none) (g1 : Gl X "range") (hl : notStar ee = true) (he : PE X ee (tE X.K sd W (ev B e))) : PI X tg (.Call (.Name "range" p) [ee] [] pos) (tI X.K sd W (evI B (.rng1 e))) :=
  (pi_range1 g1 h1 (sa_cons hl he sa_nil) (star_cons hl)).weak fun σ H R q => by
    obtain ⟨A, st, ρ, hs, rs, rl, P⟩ := tR.bnd (R1 := RVs X.K) (m := evs B (.cons e .nil)) (f := fun ds _ => match ds with
      | [d] => rng1K d
      | _ => badM) (q.to (m' := fun ρ => bnd (evs B (.cons e .nil) ρ) fun ds => match ds with
      | [d] => rng1K d
      | _ => badM) fun ρ => by rw [evI, evs, bnd_assoc]; rfl)
    refine ⟨A, st, ρ, hs, rs, rl, P.imp fun vs H1 ⟨A1, s1, ds, ρ1, hs1, rs1, rl1, r, P1⟩ => ?_⟩
    match ds, r, P1 with
    | [], _, P1 => exact P1.elim
    | _ :: _ :: _, _, P1 => exact P1.elim
    | [d], r, P1 =>
      obtain ⟨v, rfl, rv⟩ := rvs1 r
      cases d with
      | int j =>
        cases rv
        have P1' : Post X.K (fun A H (J : It) w => Fol X.K A H J w) A1 H1 (fun c d H' => W c d σ H') R (ofO (rngD 0 j) s1) := P1
        by_cases c : -(2 ^ 62) ≤ (0 : Int) ∧ (0 : Int) < 2 ^ 62 ∧ -(2 ^ 62) ≤ j ∧ j < 2 ^ 62
        · unfold rngD at P1'
          rw [if_pos c, Int.sub_zero] at P1'
          exact ⟨j, rfl, c.2.2.1, c.2.2.2, P1' _ H1 A1 (Nx.refl _ _) rs1 (fol_rng (n := j.toNat))⟩
        · unfold rngD at P1'
          rw [if_neg c] at P1'
          exact P1'.elim
      | _ => exact P1.elim
theorem si_zip {a b : E} {ea eb : Expr} {p : Pos} {elts : List Expr} {kk : Nat} {tpos : Pos} (h1 : X.mg "zip" = none) (g1 : Gl X "zip") (la : notStar ea = true) (lb : notStar eb = true) (ha : PE X ea (tE X.K sd W (ev B a))) (hb : PE X eb (tE X.K sd W (ev B b))) :
    PI X (.Tuple elts kk tpos) (.Call (.Name "zip" p) [ea, eb] [] pos) (tI X.K sd W (evI B (.zip a b))) :=
  (pi_pair g1 h1 (sa_cons la ha (sa_cons lb hb sa_nil)) (star_cons la) (star_any (by simp [lb]))).weak fun σ H R q => by
    obtain ⟨A, st, ρ, hs, rs, rl, P⟩ := tR.bnd (R1 := RVs X.K) (m := evs B (.cons a (.cons b .nil))) (f := fun ds _ => match ds with
      | [d, e] => zipK d e
      | _ => badM) (q.to (m' := fun ρ => bnd (evs B (.cons a (.cons b .nil)) ρ) fun ds => match ds with
      | [d, e] => zipK d e
      | _ => badM) fun ρ => by
        rw [evI, evs, bnd_assoc]
        congr 1
        funext x
        rw [evs, bnd_assoc, bnd_assoc, evs]
        rfl)
    refine ⟨A, st, ρ, hs, rs, rl, P.imp fun vs H1 ⟨A1, s1, ds, ρ1, hs1, rs1, rl1, r, P1⟩ => ?_⟩
    match ds, r, P1 with
    | [], _, P1 => exact P1.elim
    | [_], _, P1 => exact P1.elim
    | _ :: _ :: _ :: _, _, P1 => exact P1.elim
    | [d, e], r, P1 =>
      obtain ⟨v, w, rfl, rv, rw_⟩ := rvs2 r
      have P2 : Post X.K (fun A H (J : It) w => Fol X.K A H J w) A1 H1 (fun c d H' => W c d σ H') R (zipK d e s1) := P1
      unfold zipK at P2
      cases e1 : srcOf s1 d with
      | none => rw [e1] at P2; exact P2.elim
      | some p =>
        cases e2 : srcOf s1 e with
        | none => rw [e1, e2] at P2; exact P2.elim
        | some p' =>
          rw [e1, e2] at P2
          obtain ⟨k, a', xs, rfl, sx, fx⟩ := src_at rv rs1 (l := p.1) (h := p.2) e1
          obtain ⟨k', b', ys, rfl, sy, fy⟩ := src_at rw_ rs1 (l := p'.1) (h := p'.2) e2
          exact ⟨a', b', k, k', xs, ys, rfl, sx, sy, P2 _ H1 A1 (Nx.refl _ _) rs1 (fol_pair fx fy)⟩
end
end RI
set_option maxRecDepth 100000
set_option maxHeartbeats 4000000
/-! RK2: list comprehensions. -/
namespace RI
open PySem L2 PyProof.Rows
variable [Xs]
/-- nothing leaves -/
def W0 : WX := fun _ _ _ _ => False
/-- in a comprehension: the slots of others stay -/
def sdB (n : Nat) (σ0 : L2.St) (vs : List Nat) : L2.St → Prop := fun σ => σ.length = n ∧ L2.wipe σ vs = L2.wipe σ0 vs
theorem wipe_at : ∀ (vs : List Nat) (σ : L2.St) (i : Nat), (L2.wipe σ vs)[i]? = if i ∈ vs ∧ i < σ.length then some none else σ[i]?
  | [], σ, i => by
    rw [if_neg (fun h => by cases h.1)]
    rfl
  | v :: vs, σ, i => by
    unfold L2.wipe
    by_cases e : v = i
    · subst e
      by_cases hl : v < σ.length
      · rw [List.getElem?_set_self (by rw [L2.wipe_length]; exact hl), if_pos ⟨List.mem_cons_self, hl⟩]
      · rw [if_neg (fun h => hl h.2), List.getElem?_eq_none (by rw [List.length_set, L2.wipe_length]; omega), List.getElem?_eq_none (by omega)]
    · rw [List.getElem?_set_ne e, wipe_at vs σ i]
      by_cases h : i ∈ vs ∧ i < σ.length
      · rw [if_pos h, if_pos ⟨List.mem_cons_of_mem _ h.1, h.2⟩]
      · rw [if_neg h, if_neg (fun q => h ⟨(List.mem_cons.mp q.1).resolve_left (fun z => e z.symm), q.2⟩)]
theorem wipe_wipe (vs : List Nat) (σ : L2.St) : L2.wipe (L2.wipe σ vs) vs = L2.wipe σ vs := by
  apply List.ext_getElem?
  intro i
  rw [wipe_at, L2.wipe_length, wipe_at]
  by_cases h : i ∈ vs ∧ i < σ.length
  · rw [if_pos h, if_pos h]
  · rw [if_neg h, if_neg h]
theorem wipe_set {vs : List Nat} {σ : L2.St} {i : Nat} {o : Option V} (h : i ∈ vs) : L2.wipe (σ.set i o) vs = L2.wipe σ vs := by
  apply List.ext_getElem?
  intro j
  rw [wipe_at, wipe_at, List.length_set]
  by_cases q : j ∈ vs ∧ j < σ.length
  · rw [if_pos q, if_pos q]
  · rw [if_neg q, if_neg q]
    by_cases e : i = j
    · subst e
      have hl : ¬ i < σ.length := fun z => q ⟨h, z⟩
      rw [List.getElem?_eq_none (by rw [List.length_set]; omega), List.getElem?_eq_none (by omega)]
    · rw [List.getElem?_set_ne e]
theorem sdB_set {n : Nat} {σ0 : L2.St} {vs : List Nat} {i : Nat} (h : i ∈ vs) (σ : L2.St) (v : Option V) (hs : sdB n σ0 vs σ) : sdB n σ0 vs (σ.set i v) := ⟨by rw [List.length_set]; exact hs.1, by rw [wipe_set h]; exact hs.2⟩
/-- what stands behind a comprehension's rest -/
def PostL (K : PySem.W.Frag) (D : Addr) (Q : VK) (A : List Addr) (H : Hp) : Res Unit → Prop
  | .ok _ s => ∀ H' A', Nx A A' H H' → RS K A' H' s → Q (.ref D) H'
  | _ => False
theorem PostL.re {K : PySem.W.Frag} {D : Addr} {Q : VK} {A A' : List Addr} {H H' : Hp} {r : Res Unit} (h : PostL K D Q A H r) (x : Nx A A' H H') : PostL K D Q A' H' r := by
  cases r with
  | ok u s => exact fun H2 A2 y rs => h H2 A2 (x.trans y) rs
  | ex _ _ => exact h
  | bad => exact h
section
variable {X : Cx} {sd : L2.St → Prop} {W : WX} {B : Tb} {pos : Pos}
theorem lc_td {e : E} {t : T} {it : I} {cond : Es} {n : Nat} {vs : List Nat} {σ : L2.St} {H : Hp} {Q : VK} (hn : ∀ σ, sd σ → σ.length = n) (q : tE X.K sd W (ev B (.lc e t it cond vs)) σ H Q) :
    tLc (tI X.K sd W (evI B it)) (tG X.K (sdB n σ vs) t) (tT X.K (sdB n σ vs) W0 fun ρ => evC B cond ρ) (tE X.K (sdB n σ vs) W0 (ev B e)) vs σ H Q := by
  obtain ⟨A, st, ρ, hs, rs, rl, P⟩ := tR.bnd (R1 := fun A H (J : It) w => Fol X.K A H J w) (m := evI B it) (f := fun w ρ => lcK t (fun ρ' => evC B cond ρ') (fun ρ' => ev B e ρ') vs ρ w) (tR.to q fun ρ => by rw [ev])
  refine ⟨A, st, ρ, hs, rs, rl, P.imp fun J H1 ⟨A1, s1, w, ρ1, hs1, rs1, rl1, fol, P1⟩ => fun D hD => ?_⟩
  have len1 := hn σ hs1
  -- what the rest of the loop is to bring
  have P2 : PostL X.K D Q (A1 ++ [D]) (upd H1 D (.lst [])) (lcL w t (fun ρ' => evC B cond ρ') (fun ρ' => ev B e ρ') vs ρ1 s1.length w.items (s1 ++ [.lst []])) := by
    unfold lcK at P1
    cases z : lcL w t (fun ρ' => evC B cond ρ') (fun ρ' => ev B e ρ') vs ρ1 s1.length w.items (s1 ++ [.lst []]) with
    | ok u s' =>
      rw [z] at P1
      intro H' A' nx rs'
      exact P1 (.ref D) H' A' ((Nx.new hD).trans nx) rs' (RV.ref (nx.at_ (at_last rs1 D)))
    | ex x s' => rw [z] at P1; exact P1.elim
    | bad => rw [z] at P1; exact P1.elim
  refine ⟨fun i m H => m = w.items.length - i ∧ i ≤ w.items.length ∧ ∃ A2 s2, Nx A1 A2 H1 H ∧ RS X.K A2 H s2 ∧ A2[s1.length]? = some D ∧ PostL X.K D Q A2 H (lcL w t (fun ρ' => evC B cond ρ') (fun ρ' => ev B e ρ') vs ρ1 s1.length (w.items.drop i) s2),
    ⟨w.items.length, by simp, Nat.zero_le _, A1 ++ [D], s1 ++ [O.lst []], Nx.new hD, rs1.new (x := O.lst []) hD rfl ⟨[], upd_same, .nil⟩, at_last rs1 D, P2⟩, ?_⟩
  clear P P1 P2 q
  rintro i m H2 ⟨rfl, hi, A2, s2, nx2, rs2, at2, P2⟩
  by_cases hlt : i < w.items.length
  · obtain ⟨d, hd⟩ : ∃ d, w.items[i]? = some d := ⟨w.items[i], by simp [hlt]⟩
    have hdrop : w.items.drop i = d :: w.items.drop (i + 1) := by
      rw [List.drop_eq_getElem_cons hlt]
      congr
      exact Option.some.inj ((List.getElem?_eq_getElem hlt).symm.trans hd)
    rw [hdrop, lcL] at P2
    dsimp only at P2
    by_cases okw : w.ok s2
    · rw [if_pos okw] at P2
      obtain ⟨go, yl⟩ := (fol A2 H2 s2 i nx2 rs2 okw).1 d hd
      refine .inr ⟨go, fun H' => ∃ A3 s3, Nx A1 A3 H1 H' ∧ RS X.K A3 H' s3 ∧ A3[s1.length]? = some D ∧ PostL X.K D Q A3 H' (lcL w t (fun ρ' => evC B cond ρ') (fun ρ' => ev B e ρ') vs ρ1 s1.length (w.items.drop (i + 1)) s3),
        fun H' ⟨A3, s3, a, b, c, d⟩ => ⟨w.items.length - (i + 1), by omega, rfl, hlt, A3, s3, a, b, c, d⟩, fun y H3 hy => ?_⟩
      obtain ⟨sm, rv⟩ := yl y H3 hy
      have nx3 : Nx A2 A2 H2 H3 := Nx.heap (same_kp sm)
      have rs3 := rs2.same sm
      have nx13 := nx2.trans nx3
      cases e1 : asgT t d (wipeD ρ1 vs) s2 with
      | none => rw [e1] at P2; exact P2.elim
      | some ρ2 =>
        rw [e1] at P2
        dsimp only at P2
        have P3 := PostL.re P2 nx3
        refine ⟨A2, s2, wipeD ρ1 vs, d, ρ2, ⟨by rw [L2.wipe_length]; exact len1, wipe_wipe vs σ⟩, rs3, (rl1.mono nx13).wipe vs, rv, e1, fun σ2 hs2 rl2 => ⟨hs2.2, A2, s2, ρ2, hs2, rs3, rl2, ?_⟩⟩
        show Post X.K (fun _ _ b c => b = c) A2 H3 (fun c d H' => W0 c d σ2 H') _ (evC B cond ρ2 s2)
        cases e2 : evC B cond ρ2 s2 with
        | ex x s' => rw [e2] at P3; exact P3.elim
        | bad => rw [e2] at P3; exact P3.elim
        | ok b s3 =>
          rw [e2] at P3
          intro b' H4 A4 nx4 rs4 eb
          subst eb
          cases b' with
          | false =>
            dsimp only at P3
            rw [if_neg Bool.false_ne_true]
            exact ⟨A4, s3, nx13.trans nx4, rs4, nx4.at_ at2, PostL.re P3 nx4⟩
          | true =>
            dsimp only at P3
            rw [if_pos rfl]
            refine ⟨A4, s3, ρ2, hs2, rs4, rl2.mono nx4, ?_⟩
            show Post X.K (RV X.K) A4 H4 (fun c d H' => W0 c d σ2 H') _ (ev B e ρ2 s3)
            cases e3 : ev B e ρ2 s3 with
            | ex x s' => rw [e3] at P3; exact P3.elim
            | bad => rw [e3] at P3; exact P3.elim
            | ok x s4 =>
              rw [e3] at P3
              dsimp only at P3
              intro v H5 A5 nx5 rs5 rvx
              have at5 := nx5.at_ (nx4.at_ at2)
              cases e4 : s4[s1.length]? with
              | none => rw [e4] at P3; exact P3.elim
              | some o =>
                cases o with
                | lst acc =>
                  rw [e4] at P3
                  dsimp only at P3
                  by_cases hm : acc.length ≤ most
                  · rw [if_pos hm] at P3
                    obtain ⟨xs, hx, rx⟩ := rs5.at_ _ _ _ at5 e4
                    have kp : Nx A5 A5 H5 (upd H5 D (.lst (xs ++ [v]))) := Nx.heap (Kp.lst hx)
                    refine ⟨xs, hx, ?_, A5, _, ((nx13.trans nx4).trans nx5).trans kp, rs5.setl at5 e4 hx (rx.append (.cons rvx .nil)), at5, PostL.re P3 ((nx4.trans nx5).trans kp)⟩
                    rw [rx.length]
                    exact lt_line hm
                  · rw [if_neg hm] at P3
                    exact P3.elim
                | ro _ => rw [e4] at P3; exact P3.elim
                | dk _ => rw [e4] at P3; exact P3.elim
                | dt _ => rw [e4] at P3; exact P3.elim
                | ins _ _ => rw [e4] at P3; exact P3.elim
    · rw [if_neg okw] at P2
      exact P2.elim
  · have e0 : i = w.items.length := by omega
    subst e0
    rw [List.drop_length, lcL] at P2
    dsimp only at P2
    by_cases okw : w.ok s2
    · rw [if_pos okw] at P2
      exact .inl ⟨(fol A2 H2 s2 _ nx2 rs2 okw).2 rfl, P2 H2 A2 (Nx.refl _ _) rs2⟩
    · rw [if_neg okw] at P2
      exact P2.elim
theorem se_lc {scope : Scope} {own : List (Str × Nat)} {tg iter elt : Expr} {ifs : List Expr} {e : E} {t : T} {it : I} {cond : Es} {n : Nat} (hc : X.calm = true) (hN : X.N.Nodup) (ok : BlkOk X.N X.env.scope scope own) (hn : ∀ σ, sd σ → σ.length = n)
    (hI : PI X tg iter (tI X.K sd W (evI B it))) (hf : ∀ x, foldedSetIterable iter X.env x = pure x)
    (hg : ∀ (σ0 : L2.St) (s : Shared) (H : Hp) (C : Addr) (cl : List (Str × Addr)) (fp : List Addr), PG (X.blk s H scope (compEnvC scope cl C X.env) fp) tg (tG X.K (sdB n σ0 (own.map (·.2))) t))
    (ht : ∀ (σ0 : L2.St) (s : Shared) (H : Hp) (C : Addr) (cl : List (Str × Addr)) (fp : List Addr), PTs (X.blk s H scope (compEnvC scope cl C X.env) fp) ifs (tT X.K (sdB n σ0 (own.map (·.2))) W0 fun ρ => evC B cond ρ))
    (he : ∀ (σ0 : L2.St) (s : Shared) (H : Hp) (C : Addr) (cl : List (Str × Addr)) (fp : List Addr), PE (X.blk s H scope (compEnvC scope cl C X.env) fp) elt (tE X.K (sdB n σ0 (own.map (·.2))) W0 (ev B e))) :
    PE X (.ListComp elt [⟨tg, iter, ifs, 0⟩] scope pos) (tE X.K sd W (ev B (.lc e t it cond (own.map (·.2))))) := by
  refine ⟨fun pins s σ H Q I q => (pe_lc hc hN hI ok (hg σ) (ht σ) (he σ) hf).run pins s σ H Q I (lc_td hn q)⟩
/-- name = [..] on one line -/
theorem ss_setLc {scope : Scope} {own : List (Str × Nat)} {tg iter elt : Expr} {ifs : List Expr} {e : E} {t : T} {it : I} {cond : Es} {n i : Nat} {y : Str} {py spos : Pos} (hc : X.calm = true) (hN : X.N.Nodup) (hy : X.N[i]? = some y) (hyl : X.env.scope.names.lookup y = some .local)
    (hsw : swapsWith (.ListComp elt [⟨tg, iter, ifs, 0⟩] scope pos) (some (.Name y py)) spos.line X.env = pure true) (ok : BlkOk X.N X.env.scope scope own) (hn : ∀ σ, sd σ → σ.length = n) (hsd : ∀ σ v, sd σ → sd (σ.set i (some v)))
    (hI : PI X tg iter (tI X.K sd W (evI B it))) (hf : ∀ x, foldedSetIterable iter X.env x = pure x)
    (hg : ∀ (σ0 : L2.St) (s : Shared) (H : Hp) (C : Addr) (cl : List (Str × Addr)) (fp : List Addr), PG (X.blk s H scope (compEnvC scope cl C X.env) fp) tg (tG X.K (sdB n σ0 (own.map (·.2))) t))
    (ht : ∀ (σ0 : L2.St) (s : Shared) (H : Hp) (C : Addr) (cl : List (Str × Addr)) (fp : List Addr), PTs (X.blk s H scope (compEnvC scope cl C X.env) fp) ifs (tT X.K (sdB n σ0 (own.map (·.2))) W0 fun ρ => evC B cond ρ))
    (he : ∀ (σ0 : L2.St) (s : Shared) (H : Hp) (C : Addr) (cl : List (Str × Addr)) (fp : List Addr), PE (X.blk s H scope (compEnvC scope cl C X.env) fp) elt (tE X.K (sdB n σ0 (own.map (·.2))) W0 (ev B e))) :
    PS X (.Assign [.Name y py] (.ListComp elt [⟨tg, iter, ifs, 0⟩] scope pos) spos) (tSt X.K sd W (exS B (.asg (.name i) (.lc e t it cond (own.map (·.2)))))) := by
  refine ⟨fun pins s σ H D I q => (ps_setLc hc hN hy hyl hsw hI ok (hg σ) (ht σ) (he σ) hf).run pins s σ H D I (lc_td hn ?_)⟩
  obtain ⟨A, st, ρ, hs, rs, rl, P⟩ := tSt.fin (R := RV X.K) (m := ev B (.lc e t it cond (own.map (·.2)))) (k := fun d ρ s1 => .nx (ρ.set i (some d)) s1) (q.to fun ρ s => by rw [exS]; rfl)
  refine ⟨A, st, ρ, hs, rs, rl, P.imp fun v H1 ⟨A1, s1, d, ρ1, hs1, rs1, rl1, r, P1⟩ => ?_⟩
  exact posts_nx P1 (hsd σ v hs1) rs1 (rl1.set i r)
end
end RI
set_option maxRecDepth 100000
set_option maxHeartbeats 4000000
/-! RH: what the checker of expressions lets through keeps what the machine does. -/
namespace RI
open PySem L2 PyProof.Rows
variable [Xs]
/-- a class whose instances the program raises, made without arguments -/
structure ExAt (X : Cx) (y : Str) : Prop where
  gl : X.mg y = some (.ref (He.ga X.K y))
  ex : PySem.W.excIn X.K (He.ga X.K y) He.veBase "ValueError.__new__" = true
  kp : PySem.W.keepIn X.K (.ref (He.ga X.K y)) = true
  rs : Raises X (.ref (He.ga X.K y))
/-- a class by its name: which of the program's exceptions are its instances -/
def ClsAt (X : Cx) (t : Str) : Prop := ∃ (u : Value) (v : V), ClsV v u ∧ RelV v u ∧ (X.mg t = some u ∨ (X.mg t = none ∧ bootBuiltins t = some u ∧ t ≠ "__name__")) ∧
  ∀ y ∈ Xs.names, PySem.W.kitOne X.K (.ref (He.ga X.K y)) u = some (Xs.sub y t) ∧ PySem.W.exmOne X.K (.ref (He.ga X.K y)) u = some (Xs.sub y t)
structure Cok (X : Cx) (c : Ck) (B : Tb) (W : WX) (sd : L2.St → Prop) : Prop where
  hN : X.N = c.N
  nd : c.N.Nodup
  vis : ∀ x, visB c.sc x = true → Vis X.env.scope x
  loc : ∀ x, locT c x = true → Loc X.env.scope x ∧ (X.fn x = true ∨ X.env.scope.names.lookup x = some .local)
  gl : ∀ x, glB c.sc x = true → Gl X x
  hu : X.A.units + 150 < cLine
  calm : coldB c.md = true → X.calm = true
  takes : coldB c.md = true → Takes X W
  call : coldB c.md = true → ∀ x n, (x, n) ∈ c.calls → FnAt X.prog X.w X.K X.mg X.base X.A (B.call x) x n
  callk : coldB c.md = true → ∀ x n ks, (x, n, ks) ∈ c.callks → FnAtK X.prog X.w X.K X.mg X.base X.A (B.callk x ks) x n ks
  bis : ∀ f ∈ c.bis, BiAt X f
  isi : c.isi = true → X.mg "isinstance" = none ∧ ∀ t : Ty, X.mg t.snm = none
  sub : B.sub = Xs.sub
  glob : ∀ x d, Xs.consts.lookup x = some d → B.gl x = some d ∧ ∃ (u : Value) (v : V), X.mg x = some u ∧ RelV v u ∧ ∀ A H, RV X.K A H v d
  cds : ∀ x l, Xs.cds.lookup x = some l → KdAt X x l
  sc : X.env.scope = c.sc
  set : ∀ j, slotB c j = true → ∀ (σ : L2.St) (v : Option V), sd σ → sd (σ.set j v)
  len : ∀ σ : L2.St, sd σ → σ.length = c.N.length
  lcl : ∀ x, lclB c.sc x = true → X.env.kindOf x = some .local
  passes : coldB c.md = true → PassesOwn (model X.prog X.w) X.A X.env X.xe
  stk : c.tr = true → coldB c.md = true → X.stack = X.env :: X.outer ∧ X.env.frame = some X.env.locals
  raises : ∀ y ∈ c.raises, ExAt X y ∧ y ∈ Xs.names
  rng : c.rng = true → X.mg "range" = none
  zip : c.rng = true → X.mg "zip" = none
  cls : ∀ t ∈ c.exis, ClsAt X t
  exc : ∀ y ∈ Xs.names, ExcC X.K (He.ga X.K y)
  hot : ∀ e i, c.md = .hot (some (e, i)) → ∃ x, B.exn = some x ∧ ∀ t ∈ c.exis, x.fs = [] → ExIs X sd i t (B.sub x.cls t)
def isBoolE : Expr → Bool
  | .BoolOp .. => true
  | _ => false
structure Snd (X : Cx) (B : Tb) (W : WX) (sd : L2.St → Prop) (ir : E) (e : Expr) : Prop where
  pe : PE X e (tE X.K sd W (ev B ir))
  pt : tok ir = true → PT X e (tT X.K sd W fun ρ => truM (ev B ir ρ))
  pw : tok ir = true → isBoolE e = true → PW X e (tT X.K sd W fun ρ => truM (ev B ir ρ))
theorem okNm_of {x : Str} (h : okNm x = true) : (x == ("__debug__" : Str)) = false ∧ (x == ("__classdict__" : Str)) = false ∧ x ≠ "__name__" := by
  unfold okNm at h
  simp only [Bool.and_eq_true, Bool.not_eq_true'] at h
  exact ⟨h.1, h.2.1, beq_eq_false_iff_ne.mp h.2.2⟩
theorem notSet_in {e : Expr} {op : CmpOp} (h : notSet e = true) : behindInMarks op e = false := by
  cases e <;> first | rfl | cases h
theorem plainIx_of {e : Expr} (h : plainIxB e = true) : PlainIx e := by
  cases e <;> first | (intro o i; rfl) | cases h
theorem base_of {X : Cx} {e : Expr} {m : Str} (h : keyBase e = true) : attributeBase e m X.env (eval e X.env) = eval e X.env := by
  cases e <;> first | rfl | cases h
section
variable {X : Cx} {c : Ck} {sd : L2.St → Prop} {W : WX} {B : Tb}
/-- an expression whose test is its value's truth -/
theorem Snd.of {ir : E} {e : Expr} (h : PE X e (tE X.K sd W (ev B ir))) (he : ∀ whole, isTrue e X.env whole = (do let v ← whole; standAt e.pos; holding [v] (truthy v))) (nb : isBoolE e = false) : Snd X B W sd ir e :=
  ⟨h, fun _ => st_val h he, fun _ q => by rw [nb] at q; cases q⟩
theorem and3 {a b : Bool} (h : (a && b) = true) : a = true ∧ b = true := Bool.and_eq_true_iff.mp h
theorem snd_and {a b : E} {x y : Expr} {rest : List Expr} {pos : Pos} (ha : Snd X B W sd a x) (hb : match rest with
    | [] => Snd X B W sd b y
    | _ => Snd X B W sd b (.BoolOp .And (y :: rest) pos)) : Snd X B W sd (.and a b) (.BoolOp .And (x :: y :: rest) pos) := by
  have pw : tok (.and a b) = true → PW X (.BoolOp .And (x :: y :: rest) pos) (tT X.K sd W fun ρ => truM (ev B (.and a b) ρ)) := fun t => by
    obtain ⟨t1, t2⟩ := and3 (show (tok a && tok b) = true from t)
    refine st_and (ha.pt t1) ?_
    cases rest with
    | nil => exact pw_and1 (hb.pt t2)
    | cons z r => exact hb.pw t2 rfl
  refine ⟨?_, fun t => (pw t).pt, fun t _ => pw t⟩
  refine se_andV ha.pe ?_
  cases rest with
  | nil => exact se_one hb.pe
  | cons z r => exact hb.pe
theorem snd_or {a b : E} {x y : Expr} {rest : List Expr} {pos : Pos} (ha : Snd X B W sd a x) (hb : match rest with
    | [] => Snd X B W sd b y
    | _ => Snd X B W sd b (.BoolOp .Or (y :: rest) pos)) : Snd X B W sd (.or a b) (.BoolOp .Or (x :: y :: rest) pos) := by
  have pw : tok (.or a b) = true → PW X (.BoolOp .Or (x :: y :: rest) pos) (tT X.K sd W fun ρ => truM (ev B (.or a b) ρ)) := fun t => by
    obtain ⟨t1, t2⟩ := and3 (show (tok a && tok b) = true from t)
    refine st_or (ha.pt t1) ?_
    cases rest with
    | nil => exact pw_or1 (hb.pt t2)
    | cons z r => exact hb.pw t2 rfl
  refine ⟨?_, fun t => (pw t).pt, fun t _ => pw t⟩
  refine se_orV ha.pe ?_
  cases rest with
  | nil => exact se_one hb.pe
  | cons z r => exact hb.pe
variable (C : Cok X c B W sd)
include C
theorem sndVar {i : Nat} {x : Str} {pos : Pos} (h1 : visB c.sc x = true) (h2 : c.N[i]? = some x) (h3 : okNm x = true) : PE X (.Name x pos) (tVar i) :=
  pe_var (by rw [C.hN]; exact h2) (C.vis x h1) (okNm_of h3).1 (okNm_of h3).2.1
end
theorem visB_of {sc : Scope} {x : Str} (h : visB sc x = true) : Vis sc x := by
  unfold visB at h
  unfold Vis
  split at h <;> simp_all
theorem locB_of {sc : Scope} {x : Str} (h : locB sc x = true) : L2.Loc sc x := by
  unfold locB at h
  unfold L2.Loc
  split at h <;> simp_all
theorem glB_of {sc : Scope} {x : Str} (h : glB sc x = true) : sc.names.lookup x = some .globalImplicit := by
  unfold glB at h
  split at h <;> simp_all
theorem lclB_of {sc : Scope} {x : Str} (h : lclB sc x = true) : sc.names.lookup x = some .local := by
  unfold lclB at h
  split at h <;> simp_all
theorem folded_of {e : Expr} {env : PySem.Env} {x : Value} (h : notSet e = true) : foldedSetIterable e env x = pure x := by
  cases e <;> first | rfl | cases h
theorem ownL_snd (N : List Str) (own : List Nat) : (ownL N own).map (·.2) = own := by
  unfold ownL
  rw [List.map_map]
  exact List.map_id' own
/-- the context of a comprehension's block -/
theorem Cok.blk {X : Cx} {c : Ck} {B : Tb} {W : WX} {sd : L2.St → Prop} (C : Cok X c B W sd) (h1 : coldB c.md = true) {scope : Scope} {own : List Nat} {σ0 : L2.St} {s : Shared} {H : Hp} {D : Addr} {cl : List (Str × Addr)} {fp : List Addr} :
    Cok (X.blk s H scope (compEnvC scope cl D X.env) fp) (blkCk c scope own) B W0 (sdB c.N.length σ0 own) :=
  have es : (X.blk s H scope (compEnvC scope cl D X.env) fp).env.scope = (blkCk c scope own).sc := by
    show relabel scope X.env = blkSc c.sc scope
    rw [← C.sc]
    rfl
  {
  hN := C.hN
  nd := C.nd
  vis := fun x h => by rw [es]; exact visB_of h
  loc := fun x h => by
    have q : (blkSc c.sc scope).names.lookup x = some .local := lclB_of (show lclB (blkSc c.sc scope) x = true from h)
    rw [es]
    exact ⟨.inl q, .inr q⟩
  gl := fun x h => by unfold Gl Env.kindOf; rw [es]; exact glB_of h
  hu := C.hu
  calm := fun _ => C.calm h1
  takes := fun _ u s' ⟨_, _, _, _, _, _, _, _, _, _, _, _, _, _, _, _, w⟩ => False.elim w
  call := fun _ => C.call h1
  callk := fun _ => C.callk h1
  bis := C.bis
  isi := C.isi
  sub := C.sub
  glob := C.glob
  cds := C.cds
  sc := es
  set := fun j hj σ v hs => sdB_set (of_decide_eq_true (and3 (show (slotOk c.md j && decide (j ∈ own)) = true from hj)).2) σ v hs
  len := fun σ hs => hs.1
  lcl := fun x h => by unfold Env.kindOf; rw [es]; exact lclB_of h
  passes := fun _ => PassesOwn.never
  stk := fun h => by cases h
  raises := fun y hy => let ⟨⟨a, b, d, e⟩, f⟩ := C.raises y hy; ⟨⟨a, b, d, e⟩, f⟩
  rng := C.rng
  zip := C.zip
  cls := C.cls
  exc := C.exc
  hot := fun e i h => by
    have h : c.md = .hot (some (e, i)) := h
    rw [h] at h1
    cases h1 }
section
variable {B : Tb}
mutual
theorem xE : ∀ (ir : E) (X : Cx) (c : Ck) (W : WX) (sd : L2.St → Prop), Cok X c B W sd → ∀ (e : Expr), ckE c ir e = true → Snd X B W sd ir e
  | .c d, X, c, W, sd, C, e, h => by
    cases d <;> cases e <;> first
      | (simp [ckE] at h; done)
      | (rename_i k _ _; cases k <;> first
          | exact .of (se_c pe_non fun _ _ => .non) (fun _ => rfl) rfl
          | (simp only [ckE, beq_iff_eq] at h; subst h; exact .of (se_c pe_bl fun _ _ => .bl _) (fun _ => rfl) rfl)
          | (simp only [ckE, beq_iff_eq] at h; subst h; exact .of (se_c pe_int fun _ _ => .int _) (fun _ => rfl) rfl)
          | (simp only [ckE, decide_eq_true_eq] at h; subst h; exact .of (se_c pe_str fun _ _ => .str _) (fun _ => rfl) rfl)
          | (simp [ckE] at h; done))
  | .var i, X, c, W, sd, C, e, h => by
    cases e <;> first
      | (simp [ckE] at h; done)
      | (rw [ckE] at h
         obtain ⟨h1, h3⟩ := and3 h
         obtain ⟨h1, h2⟩ := and3 h1
         exact .of (se_var (sndVar C h1 (of_decide_eq_true h2) h3)) (fun _ => rfl) rfl)
  | .glob x, X, c, W, sd, C, e, h => by
    cases e <;> first
      | (simp [ckE] at h; done)
      | (rw [ckE] at h
         obtain ⟨h, h4⟩ := and3 h
         obtain ⟨h, h3⟩ := and3 h
         obtain ⟨h1, h2⟩ := and3 h
         have e1 := of_decide_eq_true h1
         subst e1
         obtain ⟨d, hd⟩ := Option.isSome_iff_exists.mp h4
         obtain ⟨g1, u, v, g2, g3, g4⟩ := C.glob _ _ hd
         exact .of (se_glob (pe_glob (C.gl _ h2) g2 g3 (okNm_of h3).1) g1 g4) (fun _ => rfl) rfl)
  | .tup es, X, c, W, sd, C, e, h => by
    cases e <;> first
      | (simp [ckE] at h; done)
      | (rw [ckE] at h
         exact .of (se_tup (xEs es X c W sd C _ h)) (fun _ => rfl) rfl)
  | .lst es, X, c, W, sd, C, e, h => by
    cases e <;> first
      | (simp [ckE] at h; done)
      | (rw [ckE] at h
         exact .of (se_lst (xEs es X c W sd C _ h)) (fun _ => rfl) rfl)
  | .dic0 tt, X, c, W, sd, C, e, h => by
    cases e <;> first
      | (simp [ckE] at h; done)
      | (rename_i ks ws pos
         rw [ckE] at h
         obtain ⟨h1, h2⟩ := and3 h
         have e1 : ks = [] := by simpa using h1
         have e2 : ws = [] := by simpa using h2
         subst e1 e2
         exact .of se_dic0 (fun _ => rfl) rfl)
  | .dic es, X, c, W, sd, C, e, h => by
    cases e <;> first
      | (simp [ckE] at h; done)
      | (rename_i ks ws pos
         rw [ckE] at h
         obtain ⟨h1, h3⟩ := and3 h
         obtain ⟨h1, h2⟩ := and3 h1
         have n0 : ks ≠ [] := by
           intro z
           subst z
           cases h1
         exact .of (se_dic (xP es X c W sd C ks ws pos h3) n0 (of_decide_eq_true h2)) (fun _ => rfl) rfl)
  | .bin op a b, X, c, W, sd, C, e, h => by
    cases e <;> first
      | (simp [ckE] at h; done)
      | (rw [ckE] at h
         obtain ⟨h1, h3⟩ := and3 h
         obtain ⟨h1, h2⟩ := and3 h1
         have e1 := of_decide_eq_true h1
         subst e1
         exact .of (se_bin (xE a X c W sd C _ h2).pe (xE b X c W sd C _ h3).pe) (fun _ => rfl) rfl)
  | .neg a, X, c, W, sd, C, e, h => by
    cases e <;> first
      | (simp [ckE] at h; done)
      | (rename_i op x pos
         cases op <;> first
           | (simp [ckE] at h; done)
           | (rw [ckE] at h
              exact .of (se_neg (xE a X c W sd C _ h).pe) (fun _ => rfl) rfl))
  | .cmp op a b, X, c, W, sd, C, e, h => by
    cases e <;> first
      | (simp [ckE] at h; done)
      | (rename_i x ops ys pos
         match ops, ys, h with
         | [op'], [y], h =>
           rw [ckE] at h
           obtain ⟨h1, h4⟩ := and3 h
           obtain ⟨h1, h3⟩ := and3 h1
           obtain ⟨h1, h2⟩ := and3 h1
           have e1 := of_decide_eq_true h1
           subst e1
           exact ⟨se_cmp C.hu (notSet_in h2) (xE a X c W sd C _ h3).pe (xE b X c W sd C _ h4).pe, fun _ => st_cmp C.hu (notSet_in h2) (xE a X c W sd C _ h3).pe (xE b X c W sd C _ h4).pe, fun _ q => by cases q⟩
         | [], _, h => simp [ckE] at h
         | _ :: _ :: _, _, h => simp [ckE] at h
         | [_], [], h => simp [ckE] at h
         | [_], _ :: _ :: _, h => simp [ckE] at h)
  | .kin n a x, X, c, W, sd, C, e, h => by
    cases e <;> first
      | (simp [ckE] at h; done)
      | (rename_i y ops ys pos
         match ops, ys, h with
         | [op], [y0], h =>
           cases y0 <;> first
             | (simp [ckE] at h; done)
             | (rw [ckE] at h
                obtain ⟨h, h6⟩ := and3 h
                obtain ⟨h, h5⟩ := and3 h
                obtain ⟨h, h4⟩ := and3 h
                obtain ⟨h, h3⟩ := and3 h
                obtain ⟨h1, h2⟩ := and3 h
                have e1 := of_decide_eq_true h1
                have e2 := of_decide_eq_true h2
                subst e1 e2
                obtain ⟨l, hl⟩ := Option.isSome_iff_exists.mp h5
                exact ⟨se_kin hl (C.cds _ _ hl) (C.gl _ h3) (okNm_of h4).1 (xE a X c W sd C _ h6).pe, fun _ => st_kin hl (C.cds _ _ hl) (C.gl _ h3) (okNm_of h4).1 (xE a X c W sd C _ h6).pe, fun _ q => by cases q⟩)
         | [], _, h => simp [ckE] at h
         | _ :: _ :: _, _, h => simp [ckE] at h
         | [_], [], h => simp [ckE] at h
         | [_], y0 :: _ :: _, h => cases y0 <;> simp [ckE] at h)
  | .kix x a, X, c, W, sd, C, e, h => by
    cases e <;> first
      | (simp [ckE] at h; done)
      | (rename_i o y pos
         cases o <;> first
           | (simp [ckE] at h; done)
           | (rw [ckE] at h
              obtain ⟨h, h6⟩ := and3 h
              obtain ⟨h, h5⟩ := and3 h
              obtain ⟨h, h4⟩ := and3 h
              obtain ⟨h, h3⟩ := and3 h
              obtain ⟨h1, h2⟩ := and3 h
              have e2 := of_decide_eq_true h2
              subst e2
              obtain ⟨l, hl⟩ := Option.isSome_iff_exists.mp h5
              exact .of (se_kix hl (C.cds _ _ hl) (C.gl _ h3) (okNm_of h4).1 (plainIx_of h1) (xE a X c W sd C _ h6).pe) (fun _ => rfl) rfl))
  | .chn op op2 a b d, X, c, W, sd, C, e, h => by
    cases e <;> first
      | (simp [ckE] at h; done)
      | (rename_i x ops ys pos
         match ops, ys, h with
         | [op', op2'], [y, z], h =>
           rw [ckE] at h
           obtain ⟨h, h6⟩ := and3 h
           obtain ⟨h, h5⟩ := and3 h
           obtain ⟨h, h4⟩ := and3 h
           obtain ⟨h, h3⟩ := and3 h
           obtain ⟨h1, h2⟩ := and3 h
           have e1 := of_decide_eq_true h1
           have e2 := of_decide_eq_true h2
           subst e1 e2
           have hm : lastMarks [op, op2] [y, z] = false := by simpa using h3
           exact ⟨se_chn C.hu hm (xE a X c W sd C _ h4).pe (xE b X c W sd C _ h5).pe (xE d X c W sd C _ h6).pe, fun _ => st_chn C.hu hm (xE a X c W sd C _ h4).pe (xE b X c W sd C _ h5).pe (xE d X c W sd C _ h6).pe, fun _ q => by cases q⟩
         | [], _, h => simp [ckE] at h
         | [_], _, h => simp [ckE] at h
         | _ :: _ :: _ :: _, _, h => simp [ckE] at h
         | [_, _], [], h => simp [ckE] at h
         | [_, _], [_], h => simp [ckE] at h
         | [_, _], _ :: _ :: _ :: _, h => simp [ckE] at h)
  | .and a b, X, c, W, sd, C, e, h => by
    cases e <;> first
      | (simp [ckE] at h; done)
      | (rename_i op vs pos
         match op, vs, h with
         | .And, [x, y], h =>
           rw [ckE] at h
           obtain ⟨h1, h2⟩ := and3 h
           exact snd_and (rest := []) (xE a X c W sd C _ h1) (xE b X c W sd C _ h2)
         | .And, x :: y :: z :: r, h =>
           have h : (ckE c a x && ckE c b (.BoolOp .And (y :: z :: r) pos)) = true := by
             rw [ckE] at h
             exact h
             intro q
             cases q
           obtain ⟨h1, h2⟩ := and3 h
           exact snd_and (rest := z :: r) (xE a X c W sd C _ h1) (xE b X c W sd C _ h2)
         | .And, [], h => simp [ckE] at h
         | .And, [_], h => simp [ckE] at h
         | .Or, _, h => simp [ckE] at h)
  | .or a b, X, c, W, sd, C, e, h => by
    cases e <;> first
      | (simp [ckE] at h; done)
      | (rename_i op vs pos
         match op, vs, h with
         | .Or, [x, y], h =>
           rw [ckE] at h
           obtain ⟨h1, h2⟩ := and3 h
           exact snd_or (rest := []) (xE a X c W sd C _ h1) (xE b X c W sd C _ h2)
         | .Or, x :: y :: z :: r, h =>
           have h : (ckE c a x && ckE c b (.BoolOp .Or (y :: z :: r) pos)) = true := by
             rw [ckE] at h
             exact h
             intro q
             cases q
           obtain ⟨h1, h2⟩ := and3 h
           exact snd_or (rest := z :: r) (xE a X c W sd C _ h1) (xE b X c W sd C _ h2)
         | .Or, [], h => simp [ckE] at h
         | .Or, [_], h => simp [ckE] at h
         | .And, _, h => simp [ckE] at h)
  | .not a, X, c, W, sd, C, e, h => by
    cases e <;> first
      | (simp [ckE] at h; done)
      | (rename_i op x pos
         cases op <;> first
           | (simp [ckE] at h; done)
           | (rw [ckE] at h
              exact ⟨se_not (xE a X c W sd C _ h).pe, fun t => st_not ((xE a X c W sd C _ h).pt t), fun _ q => by cases q⟩))
  | .ite k a b, X, c, W, sd, C, e, h => by
    cases e <;> first
      | (simp [ckE] at h; done)
      | (rw [ckE] at h
         obtain ⟨h1, h4⟩ := and3 h
         obtain ⟨h1, h3⟩ := and3 h1
         obtain ⟨h1, h2⟩ := and3 h1
         exact ⟨se_ite ((xE k X c W sd C _ h2).pt h1) (xE a X c W sd C _ h3).pe (xE b X c W sd C _ h4).pe, fun t => (by cases t), fun t _ => (by cases t)⟩)
  | .ix a b, X, c, W, sd, C, e, h => by
    cases e <;> first
      | (simp [ckE] at h; done)
      | (rw [ckE] at h
         obtain ⟨h1, h3⟩ := and3 h
         obtain ⟨h1, h2⟩ := and3 h1
         exact .of (se_ix C.hu (plainIx_of h1) (xE a X c W sd C _ h2).pe (xE b X c W sd C _ h3).pe) (fun _ => rfl) rfl)
  | .sl a lo hi, X, c, W, sd, C, e, h => by
    cases e <;> first
      | (simp [ckE] at h; done)
      | (rename_i x y pos
         cases y <;> first
           | (simp [ckE] at h; done)
           | (rename_i el eh st p2
              cases st with
              | some _ => simp [ckE] at h
              | none =>
                rw [ckE] at h
                obtain ⟨h, h3⟩ := and3 h
                obtain ⟨h1, h2⟩ := and3 h
                exact .of (se_sl (xE a X c W sd C _ h1).pe (xO lo X c W sd C _ h2) (xO hi X c W sd C _ h3)) (fun _ => rfl) rfl))
  | .call f es, X, c, W, sd, C, e, h => by
    cases e <;> first
      | (simp [ckE] at h; done)
      | (rename_i fn l kws pos
         cases fn <;> first
           | (simp [ckE] at h; done)
           | (cases kws with
              | cons _ _ => simp [ckE] at h
              | nil =>
                rename_i x p
                rw [ckE] at h
                obtain ⟨h, h7⟩ := and3 h
                obtain ⟨h, h6⟩ := and3 h
                obtain ⟨h, h5⟩ := and3 h
                obtain ⟨h, h4⟩ := and3 h
                obtain ⟨h, h3⟩ := and3 h
                obtain ⟨h1, h2⟩ := and3 h
                have e1 := of_decide_eq_true h2
                subst e1
                have oc := (C.call h1 _ _ (of_decide_eq_true h6)).own (C.takes h1)
                cases l with
                | nil =>
                  cases es with
                  | nil => exact .of (se_call0 oc (C.gl _ h3) (okNm_of h4).1) (fun _ => rfl) rfl
                  | cons _ _ => simp [ckEs] at h7
                | cons y l => exact .of (se_call oc (C.gl _ h3) (okNm_of h4).1 h5 (xEs es X c W sd C _ h7)) (fun _ => rfl) rfl))
  | .callk f es ks kes, X, c, W, sd, C, e, h => by
    cases e <;> first
      | (simp [ckE] at h; done)
      | (rename_i fn l kws pos
         cases fn <;> first
           | (simp [ckE] at h; done)
           | (rename_i x p
              rw [ckE] at h
              obtain ⟨h, h11⟩ := and3 h
              obtain ⟨h, h10⟩ := and3 h
              obtain ⟨h, h9⟩ := and3 h
              obtain ⟨h, h8⟩ := and3 h
              obtain ⟨h, h7⟩ := and3 h
              obtain ⟨h, h6⟩ := and3 h
              obtain ⟨h, h5⟩ := and3 h
              obtain ⟨h, h4⟩ := and3 h
              obtain ⟨h, h3⟩ := and3 h
              obtain ⟨h1, h2⟩ := and3 h
              have e1 := of_decide_eq_true h2
              subst e1
              have oc := (C.callk h1 _ _ _ (of_decide_eq_true h9)).own (C.takes h1)
              cases l with
              | nil => cases h6
              | cons y l => exact .of (se_callk oc (of_decide_eq_true h7) (of_decide_eq_true h8) (C.gl _ h3) (okNm_of h4).1 h5 (xEs es X c W sd C _ h10) (xK kes X c W sd C _ h11)) (fun _ => rfl) rfl))
  | .bi f es, X, c, W, sd, C, e, h => by
    cases e <;> first
      | (simp [ckE] at h; done)
      | (rename_i fn l kws pos
         cases fn <;> first
           | (simp [ckE] at h; done)
           | (cases kws with
              | cons _ _ => simp [ckE] at h
              | nil =>
                rename_i x p
                rw [ckE] at h
                obtain ⟨h, h6⟩ := and3 h
                obtain ⟨h, h5⟩ := and3 h
                obtain ⟨h, h4⟩ := and3 h
                obtain ⟨h, h3⟩ := and3 h
                obtain ⟨h, h2⟩ := and3 h
                obtain ⟨h0, h1⟩ := and3 h
                have e1 := of_decide_eq_true h1
                subst e1
                cases l with
                | nil => cases h4
                | cons y l => exact .of (se_bi (C.calm h0) (C.bis f (of_decide_eq_true h5)) (C.gl _ h2) h3 (xEs es X c W sd C _ h6)) (fun _ => rfl) rfl))
  | .meth a m es, X, c, W, sd, C, e, h => by
    cases e <;> first
        | (simp [ckE] at h; done)
        | (rename_i fn l kws pos
           cases fn <;> first
             | (simp [ckE] at h; done)
             | (cases kws with
                | cons _ _ => simp [ckE] at h
                | nil =>
                  rename_i x mn ap
                  rw [ckE] at h
                  obtain ⟨h, h8⟩ := and3 h
                  obtain ⟨h, h7⟩ := and3 h
                  obtain ⟨h, h6⟩ := and3 h
                  obtain ⟨h, h5⟩ := and3 h
                  obtain ⟨h, h4⟩ := and3 h
                  obtain ⟨h, h3⟩ := and3 h
                  obtain ⟨h1, h2⟩ := and3 h
                  have e1 := of_decide_eq_true h1
                  subst e1
                  exact .of (se_meth C.hu (base_of h3) h2 h4 (of_decide_eq_true h5) (fun z => by
                    subst z
                    cases es with
                    | nil => rfl
                    | cons _ _ => cases of_decide_eq_true h6) (xE a X c W sd C _ h7).pe (xEs es X c W sd C _ h8)) (fun _ => rfl) rfl))
  | .isis a ts, X, c, W, sd, C, e, h => by
    cases e <;> first
      | (simp [ckE] at h; done)
      | (rename_i fn l kws pos
         cases fn <;> first
           | (simp [ckE] at h; done)
           | (rename_i x p
              match l, kws, h with
              | [y, z], [], h =>
                cases z <;> first
                  | (simp [ckE] at h; done)
                  | (rename_i tl k2 p2
                     rw [ckE] at h
                     obtain ⟨h, h9⟩ := and3 h
                     obtain ⟨h, h8⟩ := and3 h
                     obtain ⟨h, h7⟩ := and3 h
                     obtain ⟨h, h6⟩ := and3 h
                     obtain ⟨h, h5⟩ := and3 h
                     obtain ⟨h, h4⟩ := and3 h
                     obtain ⟨h, h3⟩ := and3 h
                     obtain ⟨h1, h2⟩ := and3 h
                     have e1 := of_decide_eq_true h2
                     subst e1
                     obtain ⟨m1, m2⟩ := C.isi h1
                     exact .of (se_isis m1 (C.gl _ h3) m2 (fun t ht => by
                       have q := List.all_eq_true.mp h4 t (mem_allTy t)
                       rcases Bool.or_eq_true_iff.mp q with q | q
                       · exact C.gl _ q
                       · rw [List.contains_iff_mem.mpr ht] at q
                         cases q) h5 (fun z => by subst z; cases h6) (of_decide_eq_true h7) h8 (xE a X c W sd C _ h9).pe) (fun _ => rfl) rfl)
              | [y, z], _ :: _, h => cases z <;> (simp [ckE] at h)
              | [], _, h => simp [ckE] at h
              | [_], _, h => simp [ckE] at h
              | _ :: _ :: _ :: _, _, h => simp [ckE] at h))
  | .isi a t, X, c, W, sd, C, e, h => by
    cases e <;> first
      | (simp [ckE] at h; done)
      | (rename_i fn l kws pos
         cases fn <;> first
           | (simp [ckE] at h; done)
           | (rename_i x p
              match l, kws, h with
              | [y, z], [], h =>
                cases z <;> first
                  | (simp [ckE] at h; done)
                  | (rename_i z p2
                     rw [ckE] at h
                     obtain ⟨h, h7⟩ := and3 h
                     obtain ⟨h, h6⟩ := and3 h
                     obtain ⟨h, h5⟩ := and3 h
                     obtain ⟨h, h4⟩ := and3 h
                     obtain ⟨h, h3⟩ := and3 h
                     obtain ⟨h1, h2⟩ := and3 h
                     have e1 := of_decide_eq_true h2
                     have e2 := of_decide_eq_true h3
                     subst e1 e2
                     obtain ⟨m1, m2⟩ := C.isi h1
                     exact .of (se_isi m1 (C.gl _ h4) (m2 t) (C.gl _ h5) h6 (xE a X c W sd C _ h7).pe) (fun _ => rfl) rfl)
              | [y, z], _ :: _, h => cases z <;> (simp [ckE] at h)
              | [], _, h => simp [ckE] at h
              | [_], _, h => simp [ckE] at h
              | _ :: _ :: _ :: _, _, h => simp [ckE] at h))
  | .lc e t it cond own, X, c, W, sd, C, x, h => by
    rw [ckE] at h
    obtain ⟨⟨elt, tg, iter, ifs, scope⟩, q, g⟩ := onV_of h
    obtain ⟨p, rfl⟩ := lcV_of q
    dsimp only at g
    obtain ⟨g, h6⟩ := and3 g
    obtain ⟨g, h5⟩ := and3 g
    obtain ⟨g, h4⟩ := and3 g
    obtain ⟨g, h3⟩ := and3 g
    obtain ⟨h1, h2⟩ := and3 g
    obtain ⟨i1, i2⟩ := xI it X c W sd C tg iter h3
    have eo := ownL_snd c.N own
    have lc := se_lc (X := X) (sd := sd) (W := W) (B := B) (pos := p) (own := ownL c.N own) (n := c.N.length) (C.calm h1) (by rw [C.hN]; exact C.nd) (by rw [C.hN, C.sc]; exact blkOk_by h2) C.len i1 i2
      (fun σ0 s H D cl fp => by rw [eo]; exact xT t _ _ _ _ (C.blk h1) tg h4) (fun σ0 s H D cl fp => by rw [eo]; exact xC cond _ _ _ _ (C.blk h1) ifs h5) (fun σ0 s H D cl fp => by rw [eo]; exact (xE e _ _ _ _ (C.blk h1) elt h6).pe)
    rw [eo] at lc
    exact .of lc (fun _ => rfl) rfl
  | .exis t, X, c, W, sd, C, e, h => by
    cases e <;> first
      | (simp [ckE] at h; done)
      | (rename_i fn l kws pos
         cases fn <;> first
           | (simp [ckE] at h; done)
           | (rename_i x p
              match l, kws, h with
              | [y, z], [], h =>
                cases y <;> first
                  | (simp [ckE] at h; done)
                  | (cases z <;> first
                      | (simp [ckE] at h; done)
                      | (rename_i n p1 z p2
                         rw [ckE] at h
                         split at h
                         · rename_i e i em
                           obtain ⟨h, h11⟩ := and3 h
                           obtain ⟨h, h10⟩ := and3 h
                           obtain ⟨h, h9⟩ := and3 h
                           obtain ⟨h, h8⟩ := and3 h
                           obtain ⟨h, h7⟩ := and3 h
                           obtain ⟨h, h6⟩ := and3 h
                           obtain ⟨h, h5⟩ := and3 h
                           obtain ⟨h, h4⟩ := and3 h
                           obtain ⟨h, h3⟩ := and3 h
                           obtain ⟨h1, h2⟩ := and3 h
                           have e1 := of_decide_eq_true h2
                           have e2 := of_decide_eq_true h3
                           have e3 := of_decide_eq_true h4
                           subst e1 e2 e3
                           obtain ⟨x, hx, hq⟩ := C.hot _ _ em
                           exact .of (se_exis hx (hq _ (of_decide_eq_true h11)) (C.isi h1).1 (C.gl _ h8) (sndVar C h5 (of_decide_eq_true h6) h7) (C.gl _ h9) (okNm_of h10).1) (fun _ => rfl) rfl
                         · cases h))
              | [_, _], _ :: _, h => simp [ckE] at h
              | [], _, h => simp [ckE] at h
              | [_], _, h => simp [ckE] at h
              | _ :: _ :: _ :: _, _, h => simp [ckE] at h))
  | .exfld f, X, c, W, sd, C, e, h => by cases e <;> simp [ckE] at h
theorem xO : ∀ (ir : Es) (X : Cx) (c : Ck) (W : WX) (sd : L2.St → Prop), Cok X c B W sd → ∀ (o : Option Expr), ckO c ir o = true → PO X o (tO X.K sd W fun ρ => bnd (evs B ir ρ) partK)
  | .nil, X, c, W, sd, C, o, h => by
    cases o with
    | none => exact so_none
    | some _ => simp [ckO] at h
  | .cons e .nil, X, c, W, sd, C, o, h => by
    cases o with
    | none => simp [ckO] at h
    | some x =>
      rw [ckO] at h
      exact so_some (xE e X c W sd C x h).pe
  | .cons _ (.cons _ _), X, c, W, sd, C, o, h => by cases o <;> simp [ckO] at h
theorem xEs : ∀ (es : Es) (X : Cx) (c : Ck) (W : WX) (sd : L2.St → Prop), Cok X c B W sd → ∀ (l : List Expr), ckEs c es l = true → PA X l (tEs X.K sd W (evs B es))
  | .nil, X, c, W, sd, C, l, h => by
    cases l with
    | nil => exact sa_nil
    | cons _ _ => simp [ckEs] at h
  | .cons e es, X, c, W, sd, C, l, h => by
    cases l with
    | nil => simp [ckEs] at h
    | cons x l =>
      rw [ckEs] at h
      obtain ⟨h, h3⟩ := and3 h
      obtain ⟨h1, h2⟩ := and3 h
      exact sa_cons h1 (xE e X c W sd C _ h2).pe (xEs es X c W sd C _ h3)
theorem xK : ∀ (es : Es) (X : Cx) (c : Ck) (W : WX) (sd : L2.St → Prop), Cok X c B W sd → ∀ (l : List Keyword), ckK c es l = true → PK X l (tEs X.K sd W (evs B es))
  | .nil, X, c, W, sd, C, l, h => by
    cases l with
    | nil => exact sk_nil
    | cons _ _ => simp [ckK] at h
  | .cons e es, X, c, W, sd, C, l, h => by
    cases l with
    | nil => simp [ckK] at h
    | cons x l =>
      obtain ⟨n, x, p⟩ := x
      rw [ckK] at h
      obtain ⟨h1, h2⟩ := and3 h
      exact sk_cons (xE e X c W sd C _ h1).pe (xK es X c W sd C _ h2)
theorem xP : ∀ (es : Es) (X : Cx) (c : Ck) (W : WX) (sd : L2.St → Prop), Cok X c B W sd → ∀ (ks : List (Option Expr)) (ws : List Expr) (pos : Pos), ckP c es ks ws = true → DicP X B W sd pos es ks ws
  | .nil, X, c, W, sd, C, ks, ws, pos, h => by
    match ks, ws, h with
    | [], [], h => exact dicP_nil
    | [], _ :: _, h => simp [ckP] at h
    | _ :: _, _, h => simp [ckP] at h
  | .cons k .nil, X, c, W, sd, C, ks, ws, pos, h => by simp [ckP] at h
  | .cons k (.cons v es), X, c, W, sd, C, ks, ws, pos, h => by
    match ks, ws, h with
    | some ek :: ks, w :: ws, h =>
      rw [ckP] at h
      obtain ⟨h, h3⟩ := and3 h
      obtain ⟨h1, h2⟩ := and3 h
      exact dicP_cons (xE k X c W sd C _ h1).pe (xE v X c W sd C _ h2).pe (xP es X c W sd C ks ws pos h3)
    | [], _, h => simp [ckP] at h
    | none :: _, _, h => simp [ckP] at h
    | some _ :: _, [], h => simp [ckP] at h
theorem xI : ∀ (it : I) (X : Cx) (c : Ck) (W : WX) (sd : L2.St → Prop), Cok X c B W sd → ∀ (tg e : Expr), ckI c it tg e = true → PI X tg e (tI X.K sd W (evI B it)) ∧ ∀ x, foldedSetIterable e X.env x = pure x
  | .seq e, X, c, W, sd, C, tg, x, h => by
    rw [ckI] at h
    obtain ⟨h1, h2⟩ := and3 h
    exact ⟨si_seq (xE e X c W sd C x h1).pe, fun _ => folded_of h2⟩
  | .rng2 a b, X, c, W, sd, C, tg, x, h => by cases x <;> simp [ckI] at h
  | .zip a b, X, c, W, sd, C, tg, x, h => by
    cases tg <;> first
      | (simp [ckI] at h; done)
      | (cases x <;> first
          | (simp [ckI] at h; done)
          | (rename_i fn l kws pos
             cases fn <;> first
               | (simp [ckI] at h; done)
               | (rename_i r p
                  match l, kws, h with
                  | [x, y], [], h =>
                    rw [ckI] at h
                    obtain ⟨h, h7⟩ := and3 h
                    obtain ⟨h, h6⟩ := and3 h
                    obtain ⟨h, h5⟩ := and3 h
                    obtain ⟨h, h4⟩ := and3 h
                    obtain ⟨h, h3⟩ := and3 h
                    obtain ⟨h1, h2⟩ := and3 h
                    have e1 := of_decide_eq_true h2
                    subst e1
                    exact ⟨si_zip (C.zip h1) (C.gl _ h3) h4 h5 (xE a X c W sd C x h6).pe (xE b X c W sd C y h7).pe, fun _ => rfl⟩
                  | [], _, h => simp [ckI] at h
                  | [_], _, h => simp [ckI] at h
                  | _ :: _ :: _ :: _, _, h => simp [ckI] at h
                  | [_, _], _ :: _, h => simp [ckI] at h)))
  | .rng1 e, X, c, W, sd, C, tg, x, h => by
    cases x <;> first
      | (simp [ckI] at h; done)
      | (rename_i fn l kws pos
         cases fn <;> first
           | (simp [ckI] at h; done)
           | (rename_i r p
              match l, kws, h with
              | [x], [], h =>
                rw [ckI] at h
                obtain ⟨h, h5⟩ := and3 h
                obtain ⟨h, h4⟩ := and3 h
                obtain ⟨h, h3⟩ := and3 h
                obtain ⟨h1, h2⟩ := and3 h
                have e1 := of_decide_eq_true h2
                subst e1
                exact ⟨si_rng1 (C.rng h1) (C.gl _ h3) h4 (xE e X c W sd C x h5).pe, fun _ => rfl⟩
              | [], _, h => simp [ckI] at h
              | _ :: _ :: _, _, h => simp [ckI] at h
              | [_], _ :: _, h => simp [ckI] at h))
theorem xC : ∀ (es : Es) (X : Cx) (c : Ck) (W : WX) (sd : L2.St → Prop), Cok X c B W sd → ∀ (l : List Expr), ckC c es l = true → PTs X l (tT X.K sd W fun ρ => evC B es ρ)
  | .nil, X, c, W, sd, C, l, h => by
    cases l with
    | nil => exact ⟨fun pins s σ H Q I ⟨A, st, ρ, hs, rs, rl, P⟩ => pts_nil.run pins s σ H Q I (by
        have P' : Post X.K (fun _ _ b c => b = c) A H (fun c d H' => W c d σ H') Q (evC B .nil ρ st) := P
        rw [evC] at P'
        exact post_ok P' rs rfl)⟩
    | cons _ _ => simp [ckC] at h
  | .cons e .nil, X, c, W, sd, C, l, h => by
    match l, h with
    | [x], h =>
      rw [ckC] at h
      obtain ⟨h1, h2⟩ := and3 h
      exact ⟨fun pins s σ H Q I q => (pts_one ((xE e X c W sd C x h2).pt h1)).run pins s σ H Q I (tR.to q fun ρ => by rw [evC])⟩
    | [], h => simp [ckC] at h
    | _ :: _ :: _, h => simp [ckC] at h
  | .cons _ (.cons _ _), X, c, W, sd, C, l, h => by cases l <;> simp [ckC] at h
theorem xT : ∀ (t : T) (X : Cx) (c : Ck) (W : WX) (sd : L2.St → Prop), Cok X c B W sd → ∀ (e : Expr), ckT c t e = true → PG X e (tG X.K sd t)
  | .name i, X, c, W, sd, C, e, h => by
    cases e <;> first
      | (simp [ckT] at h; done)
      | (rw [ckT] at h
         obtain ⟨h, h3⟩ := and3 h
         obtain ⟨h1, h2⟩ := and3 h
         exact sg_name (by rw [C.hN]; exact C.nd) (by rw [C.hN]; exact of_decide_eq_true h2) (C.loc _ h1) (fun σ v hs => C.set i h3 σ _ hs))
  | .tup ts, X, c, W, sd, C, e, h => by
    cases e <;> first
      | (simp [ckT] at h; done)
      | (rw [ckT] at h
         obtain ⟨h, h4⟩ := and3 h
         obtain ⟨h, h3⟩ := and3 h
         obtain ⟨h1, h2⟩ := and3 h
         exact sg_tup (C.calm h1) h2 (of_decide_eq_true h3) (xTs ts X c W sd C _ h4))
theorem xTs : ∀ (ts : Ts) (X : Cx) (c : Ck) (W : WX) (sd : L2.St → Prop), Cok X c B W sd → ∀ (es : List Expr), ckTs c ts es = true → PGs X es (tGs X.K sd ts)
  | .nil, X, c, W, sd, C, l, h => by
    cases l with
    | nil => exact sg_nil
    | cons _ _ => simp [ckTs] at h
  | .cons t ts, X, c, W, sd, C, l, h => by
    cases l with
    | nil => simp [ckTs] at h
    | cons e es =>
      rw [ckTs] at h
      obtain ⟨h, h3⟩ := and3 h
      obtain ⟨h1, h2⟩ := and3 h
      exact sg_cons h1 (xT t X c W sd C e h2) (xTs ts X c W sd C es h3)
end
variable {X : Cx} {c : Ck} {W : WX} {sd : L2.St → Prop} (C : Cok X c B W sd)
include C
theorem sndE (ir : E) (e : Expr) (h : ckE c ir e = true) : Snd X B W sd ir e := xE ir X c W sd C e h
theorem sndI {tg : Expr} (it : I) (e : Expr) (h : ckI c it tg e = true) : PI X tg e (tI X.K sd W (evI B it)) ∧ ∀ x, foldedSetIterable e X.env x = pure x := xI it X c W sd C tg e h
theorem sndT (t : T) (e : Expr) (h : ckT c t e = true) : PG X e (tG X.K sd t) := xT t X c W sd C e h
end
end RI
set_option maxRecDepth 100000
set_option maxHeartbeats 4000000
/-! RK: loops, raise, try. -/
namespace RI
open PySem L2 PyProof.Rows
variable [Xs]
section
variable {X : Cx} {sd : L2.St → Prop} {W : WX} {B : Tb} {pos : Pos} {tg : Expr}
/-! ### for -/
def forF (k : Env → Store → Fl) : Fl → Fl
  | .nx ρ s => k ρ s
  | .ct ρ s => k ρ s
  | .bk ρ s => .nx ρ s
  | r => r
theorem forL_cons (w : Walk) (t : T) (body : Env → Store → Fl) (d : D) (r : List D) (ρ : Env) (s : Store) : forL w t body (d :: r) ρ s = if w.ok s then (match asgT t d ρ s with
    | none => .bad
    | some ρ' => forF (fun ρ s => forL w t body r ρ s) (body ρ' s)) else .bad := by
  rw [forL]
  by_cases ok : w.ok s
  · rw [if_pos ok, if_pos ok]
    cases asgT t d ρ s with
    | none => rfl
    | some ρ' =>
      dsimp only
      cases body ρ' s <;> rfl
  · rw [if_neg ok, if_neg ok]
theorem ss_for {t : T} {tg : Expr} {it : I} {ei : Expr} {b : Ss} {l : List Stmt} (hp : PassesOwn (model X.prog X.w) X.A X.env X.xe) (hc : X.calm = true) (hG : PG X tg (tG X.K sd t)) (hf : ∀ x, foldedSetIterable ei X.env x = pure x) (hI : PI X tg ei (tI X.K sd W (evI B it))) (hb : PSs X l (tSt X.K sd W (exSs B b))) : PS X (.For tg ei l [] pos) (tSt X.K sd W (exS B (.for t it b))) :=
  (ps_for hp hc hI hG hb hf).weak fun D σ H q => by
    obtain ⟨A, st, ρ, hs, rs, rl, P⟩ := q.to (m' := fun ρ s => fin ρ (evI B it ρ s) fun w s1 => forL w t (fun ρ' s' => exSs B b ρ' s') w.items ρ s1) fun ρ s => by rw [exS]
    refine ⟨A, st, ρ, hs, rs, rl, (PostS.fin (R := fun A H (J : It) w => Fol X.K A H J w) P hs rl).imp fun J H0 ⟨A0, s0, w, nx0, rs0, fol, P0⟩ => ?_⟩
    have rl0 := rl.mono nx0
    clear P q
    refine ⟨fun k m σ H => m = w.items.length - k ∧ k ≤ w.items.length ∧ ∃ A1 s1 ρ1, Nx A0 A1 H0 H ∧ sd σ ∧ RS X.K A1 H s1 ∧ RSl X.K A1 H σ ρ1 ∧ PostS X.K sd W D A1 H (forL w t (fun ρ' s' => exSs B b ρ' s') (w.items.drop k) ρ1 s1),
      ⟨w.items.length, by simp, Nat.zero_le _, A0, s0, ρ, Nx.refl _ _, hs, rs0, rl0, P0⟩, ?_⟩
    rintro k m σ1 H1 ⟨rfl, hk, A1, s1, ρ1, nx1, hs1, rs1, rl1, P1⟩
    by_cases hlt : k < w.items.length
    · obtain ⟨d, hd⟩ : ∃ d, w.items[k]? = some d := ⟨w.items[k], by simp [hlt]⟩
      have hdrop : w.items.drop k = d :: w.items.drop (k + 1) := by
        rw [List.drop_eq_getElem_cons hlt]
        congr
        exact Option.some.inj ((List.getElem?_eq_getElem hlt).symm.trans hd)
      rw [hdrop, forL_cons] at P1
      by_cases ok : w.ok s1
      · rw [if_pos ok] at P1
        obtain ⟨go, yl⟩ := (fol A1 H1 s1 k nx1 rs1 ok).1 d hd
        refine .inr ⟨go, fun σ' H' => ∃ A2 s2 ρ2, Nx A0 A2 H0 H' ∧ sd σ' ∧ RS X.K A2 H' s2 ∧ RSl X.K A2 H' σ' ρ2 ∧ PostS X.K sd W D A2 H' (forL w t (fun ρ' s' => exSs B b ρ' s') (w.items.drop (k + 1)) ρ2 s2),
          fun σ' H' ⟨A2, s2, ρ2, a, b, c, d, e⟩ => ⟨w.items.length - (k + 1), by omega, rfl, hlt, A2, s2, ρ2, a, b, c, d, e⟩, fun y H2 hy => ?_⟩
        obtain ⟨sm, rv⟩ := yl y H2 hy
        have nx2 : Nx A1 A1 H1 H2 := Nx.heap (same_kp sm)
        cases e1 : asgT t d ρ1 s1 with
        | none => rw [e1] at P1; exact P1.elim
        | some ρ2 =>
        rw [e1] at P1
        refine ⟨A1, s1, ρ1, d, ρ2, hs1, rs1.same sm, rl1.mono nx2, rv, e1, fun σ2 hs2 rl2 => ⟨A1, s1, ρ2, hs2, rs1.same sm, rl2, ?_⟩⟩
        have P2 : PostS X.K sd W D A1 H2 (forF (fun ρ s => forL w t (fun ρ' s' => exSs B b ρ' s') (w.items.drop (k + 1)) ρ s) (exSs B b ρ2 s1)) := PostS.re P1 nx2
        have nx02 := nx1.trans nx2
        cases e : exSs B b ρ2 s1 with
        | nx ρ' s' => rw [e] at P2; exact fun σ3 H3 A3 nx3 hs3 rs3 rl3 => ⟨A3, s', ρ', nx02.trans nx3, hs3, rs3, rl3, PostS.re P2 nx3⟩
        | ct ρ' s' => rw [e] at P2; exact fun σ3 H3 A3 nx3 hs3 rs3 rl3 => ⟨A3, s', ρ', nx02.trans nx3, hs3, rs3, rl3, PostS.re P2 nx3⟩
        | bk ρ' s' => rw [e] at P2; exact P2
        | rt d' s' => rw [e] at P2; exact P2
        | ex x' ρ' s' => rw [e] at P2; exact P2
        | bad => rw [e] at P2; exact P2.elim
      · rw [if_neg ok] at P1
        exact P1.elim
    · have e : k = w.items.length := by omega
      subst e
      rw [List.drop_length, forL] at P1
      by_cases ok : w.ok s1
      · rw [if_pos ok] at P1
        exact .inl ⟨(fol A1 H1 s1 _ nx1 rs1 ok).2 rfl, posts_nx P1 hs1 rs1 rl1⟩
      · rw [if_neg ok] at P1
        exact P1.elim
/-! ### while -/
theorem whlL_succ (c : Env → M Bool) (body : Env → Store → Fl) (n : Nat) (ρ : Env) (s : Store) : whlL c body (n + 1) ρ s = fin ρ (c ρ s) fun b s1 => if b = true then forF (fun ρ s => whlL c body n ρ s) (body ρ s1) else .nx ρ s1 := by
  rw [whlL]
  congr
  funext b s1
  cases b with
  | false => rfl
  | true =>
    simp only [if_true]
    cases body ρ s1 <;> rfl
theorem ss_whl {c : E} {b : Ss} {ec : Expr} {l : List Stmt} (hp : PassesOwn (model X.prog X.w) X.A X.env X.xe) (hc : PT X ec (tT X.K sd W fun ρ => truM (ev B c ρ))) (hb : PSs X l (tSt X.K sd W (exSs B b))) : PS X (.While ec l [] pos) (tSt X.K sd W (exS B (.whl c b))) :=
  (ps_while hp hc hb).weak fun D σ H q => by
    obtain ⟨A, st, ρ, hs, rs, rl, P⟩ := q.to (m' := fun ρ s => whlL (fun ρ' => truM (ev B c ρ')) (fun ρ' s' => exSs B b ρ' s') turns ρ s) fun ρ s => by rw [exS]
    refine ⟨fun m σ H => ∃ A s ρ, sd σ ∧ RS X.K A H s ∧ RSl X.K A H σ ρ ∧ PostS X.K sd W D A H (whlL (fun ρ' => truM (ev B c ρ')) (fun ρ' s' => exSs B b ρ' s') m ρ s), ⟨turns, A, st, ρ, hs, rs, rl, P⟩, ?_⟩
    rintro m σ1 H1 ⟨A1, s1, ρ1, hs1, rs1, rl1, P1⟩
    cases m with
    | zero => exact P1.elim
    | succ m =>
      rw [whlL_succ] at P1
      refine ⟨A1, s1, ρ1, hs1, rs1, rl1, (PostS.fin (R := fun _ _ b c => b = c) P1 hs1 rl1).imp fun k H2 ⟨A2, s2, k', nx2, rs2, ek, P2⟩ => ?_⟩
      subst ek
      have rl2 := rl1.mono nx2
      cases k with
      | true =>
        rw [if_pos rfl] at P2 ⊢
        refine ⟨fun σ' H' => ∃ A s ρ, sd σ' ∧ RS X.K A H' s ∧ RSl X.K A H' σ' ρ ∧ PostS X.K sd W D A H' (whlL (fun ρ' => truM (ev B c ρ')) (fun ρ' s' => exSs B b ρ' s') m ρ s), fun σ' H' z => ⟨m, Nat.lt_succ_self m, z⟩, A2, s2, ρ1, hs1, rs2, rl2, ?_⟩
        cases e : exSs B b ρ1 s2 with
        | nx ρ' s' => rw [e] at P2; exact fun σ3 H3 A3 nx3 hs3 rs3 rl3 => ⟨A3, s', ρ', hs3, rs3, rl3, PostS.re P2 nx3⟩
        | ct ρ' s' => rw [e] at P2; exact fun σ3 H3 A3 nx3 hs3 rs3 rl3 => ⟨A3, s', ρ', hs3, rs3, rl3, PostS.re P2 nx3⟩
        | bk ρ' s' => rw [e] at P2; exact P2
        | rt d' s' => rw [e] at P2; exact P2
        | ex x' ρ' s' => rw [e] at P2; exact P2
        | bad => rw [e] at P2; exact P2.elim
      | false =>
        rw [if_neg Bool.false_ne_true] at P2 ⊢
        exact posts_nx P2 hs1 rs2 rl2
/-! ### raise -/
theorem pmk_bare {y : Str} {p : Pos} (h : ExAt X y) (hg : Gl X y) (hdb : (y == ("__debug__" : Str)) = false) : PMk X (.Call (.Name y p) [] [] pos) (fun _ H Q => Q (.ref (He.ga X.K y)) none H) := by
  intro pins s σ H Q I q
  refine wpAny_Call_Name_kw (ld_glob I hg h.gl (PySem.W.callWith_K0 I.kIn h.kp ?_) hdb)
  obtain ⟨bm, N, nm, qn, bs, hdct, sn, sub, ab, col, dd, k0, k1, k2, k3, k5, mN, hC, hN, hni, tl⟩ := exc_obj I.kIn h.ex
  exact wpAny_call_exc_subT PySem.F.excBase_ValueError tl hC hN hni (fun h' e made => mk_of I made h.rs q (I.hok.gone made.new)) (Nat.zero_le _)
theorem ss_raise {y : Str} {p pos' : Pos} (hc : X.calm = true) (tk : Takes X W) (h : ExAt X y) (hn : y ∈ Xs.names) (hg : Gl X y) (hdb : (y == ("__debug__" : Str)) = false) : PS X (.Raise (some (.Call (.Name y p) [] [] pos')) none pos) (tSt X.K sd W (exS B (.raise y .nil))) :=
  (ps_raise hc tk (pmk_bare h hg hdb)).weak fun D σ H ⟨A, st, ρ, hs, rs, rl, P⟩ => by
    rw [exS] at P
    exact P σ H A _ _ (Nx.refl _ _) hs rs rl ⟨rfl, hn, fun _ => rfl, fun z => absurd rfl z⟩
/-! ### targets of all kinds -/
def notTup : Expr → Bool
  | .Tuple .. => false
  | _ => true
theorem stores_of {tg e : Expr} {env : PySem.Env} (h : notTup e = true) : swappedStores [tg] e env = pure none := by
  cases e <;> first
    | (cases tg <;> rfl)
    | cases h
theorem one_store {tg : Expr} {env : PySem.Env} (h : notStar tg = true) : (assignEach [tg] env).map (·.2) = [assign tg env] := by
  cases tg <;> first | rfl | cases h
theorem ss_asgT {t : T} {tg : Expr} {e : E} {ee : Expr} (hG : PG X tg (tG X.K sd t)) (hl : notStar tg = true) (nc : notComp ee = true) (nt : notTup ee = true) (he : PE X ee (tE X.K sd W (ev B e))) : PS X (.Assign [tg] ee pos) (tSt X.K sd W (exS B (.asg t e))) :=
  (ps_asg he hG (sole_of nc) (stores_of nt) (one_store hl)).weak fun D σ H q => by
    obtain ⟨A, st, ρ, hs, rs, rl, P⟩ := tSt.fin (R := RV X.K) (m := ev B e) (k := fun d ρ s1 => match asgT t d ρ s1 with
      | some ρ' => .nx ρ' s1
      | none => .bad) (q.to fun ρ s => by
        rw [exS]
        try congr)
    refine ⟨A, st, ρ, hs, rs, rl, P.imp fun v H1 ⟨A1, s1, d, ρ1, hs1, rs1, rl1, r, P1⟩ => ?_⟩
    cases e1 : asgT t d ρ1 s1 with
    | none => rw [e1] at P1; exact P1.elim
    | some ρ2 =>
      rw [e1] at P1
      exact ⟨A1, s1, ρ1, d, ρ2, hs1, rs1, rl1, r, e1, fun σ2 hs2 rl2 => posts_nx P1 hs2 rs1 rl2⟩
def augK (op : Operator) (x : D) (i : Nat) (y : D) (ρ : Env) (s : Store) : Fl := match x, y with
  | .int a, .int b => (match op with
    | .Add => .nx (ρ.set i (some (.int (a + b)))) s
    | .Sub => .nx (ρ.set i (some (.int (a - b)))) s
    | _ => .bad)
  | _, _ => .bad
def okAug : Operator → Bool
  | .Add => true
  | .Sub => true
  | _ => false
theorem ss_aug {i : Nat} {x : Str} {op : Operator} {e : E} {ee : Expr} {p : Pos} (ho : okAug op = true) (hN : X.N.Nodup) (hi : X.N[i]? = some x) (hx : Loc X.env.scope x ∧ (X.fn x = true ∨ X.env.scope.names.lookup x = some .local)) (hsd : ∀ σ v, sd σ → sd (σ.set i (some v))) (he : PE X ee (tE X.K sd W (ev B e))) :
    PS X (.AugAssign (.Name x p) op ee pos) (tSt X.K sd W (exS B (.aug i op e))) := by
  have core : ∀ {f : Int → Int → Int}, PIp X op (ipI f) → (∀ a b ρ s, augK op (.int a) i (.int b) ρ s = .nx (ρ.set i (some (.int (f a b)))) s) → PS X (.AugAssign (.Name x p) op ee pos) (tSt X.K sd W (exS B (.aug i op e))) := fun {f} hp hf =>
    (ps_aug hN hi hx.1 he hp hx.2).weak fun D σ H ⟨A, st, ρ, hs, rs, rl, P⟩ => by
      rw [exS] at P
      cases q : ρ[i]? with
      | none => rw [q] at P; exact P.elim
      | some o =>
        cases o with
        | none => rw [q] at P; exact P.elim
        | some d =>
          rw [q] at P
          have P : PostS X.K sd W D A H (fin ρ (ev B e ρ st) fun y s1 => augK op d i y ρ s1) := P
          obtain ⟨v, e1, r⟩ := rl.at_ i d q
          refine ⟨v, e1, A, st, ρ, hs, rs, rl, (PostS.fin (R := RV X.K) P hs rl).imp fun y H1 ⟨A1, s1, d2, nx1, rs1, r2, P1⟩ => ?_⟩
          cases d with
          | int a =>
            cases d2 with
            | int b =>
              cases r
              cases r2
              rw [hf] at P1
              exact ⟨a, b, rfl, rfl, posts_nx P1 (hsd _ _ hs) rs1 ((rl.mono nx1).set i (.int _))⟩
            | _ => exact P1.elim
          | _ => exact P1.elim
  cases op with
  | Add => exact core ip_add fun _ _ _ _ => rfl
  | Sub => exact core ip_sub fun _ _ _ _ => rfl
  | _ => cases ho
end
end RI
set_option maxRecDepth 100000
set_option maxHeartbeats 4000000
/-! RL: the checker of statements: what it lets through keeps what the machine does. -/
namespace RI
open PySem L2 PyProof.Rows
variable [Xs]
section
variable {X : Cx} {sd : L2.St → Prop} {W : WX} {B : Tb} {pos : Pos}
/-- what a suite's end is, from the try's -/
theorem posts_unslot {K : PySem.W.Frag} {A : List Addr} {H : Hp} {D : Ends} {i : Nat} {a : Addr} {r : Fl} (hsd : ∀ (σ : L2.St) (v : Option V), sd σ → sd (σ.set i v)) (h : PostS K sd W D A H (unslot (some i) r)) :
    PostS K (fun σ => sd σ ∧ σ[i]? = some (some (.ref a))) W { nx := fun σ' H' => D.nx (σ'.set i none) H', rt := D.rt, bk := fun σ' H' => D.bk (σ'.set i none) H', ct := fun σ' H' => D.ct (σ'.set i none) H' } A H r := by
  cases r with
  | nx ρ s => exact fun σ' H' A' nx hs rs rl => h (σ'.set i none) H' A' nx (hsd _ _ hs.1) rs (rl.unset i)
  | bk ρ s => exact fun σ' H' A' nx hs rs rl => h (σ'.set i none) H' A' nx (hsd _ _ hs.1) rs (rl.unset i)
  | ct ρ s => exact fun σ' H' A' nx hs rs rl => h (σ'.set i none) H' A' nx (hsd _ _ hs.1) rs (rl.unset i)
  | rt d s => exact h
  | ex x ρ s => exact h.elim
  | bad => exact h
theorem posts_unslot0 {K : PySem.W.Frag} {A : List Addr} {H : Hp} {D : Ends} {r : Fl} (h : PostS K sd W D A H (unslot none r)) : PostS K sd W D A H r := by
  cases r with
  | ex x ρ s => exact h.elim
  | _ => exact h
theorem exS_try (b : Ss) (x : Str) (i : Option Nat) (su : Ss) (ρ : Env) (s : Store) : exS B (.try b x i su) ρ s = match exSs B b ρ s with
    | .ex e ρ1 s1 => if B.sub e.cls x = true then unslot i (exSs { B with exn := some e } su (hideE i ρ1) s1) else .ex e ρ1 s1
    | r => r := by
  first
    | (rw [exS]; done)
    | (rw [exS]; cases exSs B b ρ s <;> rfl)
/-- try .. except x as n -/
theorem ss_try_as {x n : Str} {c : Value} {i : Nat} {b su : Ss} {body suite : List Stmt} {b₀ : Stmt} {np pos' : Pos} (hs : X.stack = X.env :: X.outer) (hf : X.env.frame = some X.env.locals) (hN : X.N.Nodup) (hi : X.N[i]? = some n) (hln : X.env.kindOf n = some .local) (hc : Names X x c)
    (hcl : ∀ y ∈ Xs.names, PySem.W.exmOne X.K (.ref (He.ga X.K y)) c = some (B.sub y x)) (tk : Takes X W) (hsd : ∀ (σ : L2.St) (v : Option V), sd σ → sd (σ.set i v)) (hin : ∀ σ, sd σ → ∀ (A : List Addr) (H : Hp) (ρ : Env), RSl X.K A H σ ρ → i < σ.length)
    (hb : ∀ (W' : WX) (pn : List (Addr × Obj)) (xe : Value → Shared → Prop), Takes (X.tr pn xe) W' → PassesOwn (model X.prog X.w) X.A X.env xe → PSs (X.tr pn xe) body (tSt X.K sd W' (exSs B b)))
    (hsu : ∀ (a : Addr) (oe : Obj) (e : Exn) (dd : Option Addr) (pn : List (Addr × Obj)), Zc (.ref (He.ga X.K e.cls)) dd oe → (∃ vs, oe.data = .fields vs) → e.cls ∈ Xs.names → (e.fs = [] → dd = none) →
      PSs (X.suite a ((a, oe) :: pn)) (b₀ :: suite) (tSt X.K (fun σ => sd σ ∧ σ[i]? = some (some (.ref a))) W (exSs { B with exn := some e } su))) :
    PS X (.Try body [.ExceptHandler (some (.Name x np)) (some n) (b₀ :: suite) pos'] [] [] pos) (tSt X.K sd W (exS B (.try b x (some i) su))) :=
  (ps_try_as (tb := fun W' => tSt X.K sd W' (exSs B b)) (ts := fun a cls d D' σ H => ∃ (e : Exn) (A : List Addr) (st : Store) (ρ : Env), RX X.K A H e cls d ∧ (sd σ ∧ σ[i]? = some (some (.ref a))) ∧ RS X.K A H st ∧ RSl X.K A H σ ρ ∧ PostS X.K (fun σ => sd σ ∧ σ[i]? = some (some (.ref a))) W D' A H (exSs { B with exn := some e } su ρ st))
    hs hf hN hi hln hc tk hb (fun a oe cls d pn hz hd => ⟨fun pins s σ H D' I ⟨e, A, st, ρ, rx, hs', rs, rl, P⟩ => (hsu a oe e d pn (by rw [← rx.1]; exact hz) hd rx.2.1 rx.2.2.1).run pins s σ H D' I ⟨A, st, ρ, hs', rs, rl, P⟩⟩)).weak fun D σ H q => by
    obtain ⟨A, st, ρ, hs', rs, rl, P⟩ := q.to (exS_try b x (some i) su)
    refine ⟨A, st, ρ, hs', rs, rl, ?_⟩
    dsimp only at P
    cases e : exSs B b ρ st with
    | nx ρ1 s1 => rw [e] at P; exact P
    | rt d s1 => rw [e] at P; exact P
    | bk ρ1 s1 => rw [e] at P; exact P
    | ct ρ1 s1 => rw [e] at P; exact P
    | bad => rw [e] at P; exact P
    | ex x1 ρ1 s1 =>
      rw [e] at P
      dsimp only at P
      intro σ1 H1 A1 cv dd nx hs1 rs1 rl1 rx
      refine ⟨B.sub x1.cls x, by rw [rx.1]; exact hcl _ rx.2.1, fun hy a ha => ?_, fun hn => ?_⟩
      · rw [hy, if_pos rfl] at P
        have hlt := hin σ1 hs1 A1 H1 ρ1 rl1
        exact ⟨x1, A1, s1, ρ1.set i none, rx, ⟨hsd _ _ hs1, by rw [List.getElem?_set_self hlt]⟩, rs1, rl1.hide i _, posts_unslot hsd (PostS.re P nx)⟩
      · rw [hn, if_neg Bool.false_ne_true] at P
        exact P σ1 H1 A1 cv dd nx hs1 rs1 rl1 rx
/-- try .. except x -/
theorem ss_try_only {x : Str} {c : Value} {b su : Ss} {body suite : List Stmt} {b₀ : Stmt} {np pos' : Pos} (hs : X.stack = X.env :: X.outer) (hf : X.env.frame = some X.env.locals) (hc : Names X x c)
    (hcl : ∀ y ∈ Xs.names, PySem.W.exmOne X.K (.ref (He.ga X.K y)) c = some (B.sub y x)) (tk : Takes X W)
    (hb : ∀ (W' : WX) (pn : List (Addr × Obj)) (xe : Value → Shared → Prop), Takes (X.tr pn xe) W' → PassesOwn (model X.prog X.w) X.A X.env xe → PSs (X.tr pn xe) body (tSt X.K sd W' (exSs B b)))
    (hsu : ∀ (a : Addr) (oe : Obj) (e : Exn) (pn : List (Addr × Obj)), PSs (X.suite a ((a, oe) :: pn)) (b₀ :: suite) (tSt X.K sd W (exSs { B with exn := some e } su))) :
    PS X (.Try body [.ExceptHandler (some (.Name x np)) none (b₀ :: suite) pos'] [] [] pos) (tSt X.K sd W (exS B (.try b x none su))) :=
  (ps_try_only (tb := fun W' => tSt X.K sd W' (exSs B b)) (ts := fun a cls d D' σ H => ∃ (e : Exn), tSt X.K sd W (exSs { B with exn := some e } su) D' σ H)
    hs hf hc tk hb (fun a oe cls d pn hz hd => ⟨fun pins s σ H D' I ⟨e, q⟩ => (hsu a oe e pn).run pins s σ H D' I q⟩)).weak fun D σ H q => by
    obtain ⟨A, st, ρ, hs', rs, rl, P⟩ := q.to (exS_try b x none su)
    refine ⟨A, st, ρ, hs', rs, rl, ?_⟩
    dsimp only at P
    cases e : exSs B b ρ st with
    | nx ρ1 s1 => rw [e] at P; exact P
    | rt d s1 => rw [e] at P; exact P
    | bk ρ1 s1 => rw [e] at P; exact P
    | ct ρ1 s1 => rw [e] at P; exact P
    | bad => rw [e] at P; exact P
    | ex x1 ρ1 s1 =>
      rw [e] at P
      dsimp only at P
      intro σ1 H1 A1 cv dd nx hs1 rs1 rl1 rx
      refine ⟨B.sub x1.cls x, by rw [rx.1]; exact hcl _ rx.2.1, fun hy a ha => ?_, fun hn => ?_⟩
      · rw [hy, if_pos rfl] at P
        exact ⟨x1, A1, s1, ρ1, hs1, rs1, rl1, posts_unslot0 (PostS.re P nx)⟩
      · rw [hn, if_neg Bool.false_ne_true] at P
        exact P σ1 H1 A1 cv dd nx hs1 rs1 rl1 rx
end
/-! ### the checker -/
def asgV : Stmt → Option (Str × Expr)
  | .Assign [.Name x _] ee _ => some (x, ee)
  | _ => none
theorem asgV_of {s : Stmt} {x : Str} {ee : Expr} (h : asgV s = some (x, ee)) : ∃ p q, s = .Assign [.Name x p] ee q := by
  unfold asgV at h
  split at h
  · cases h; exact ⟨_, _, rfl⟩
  · cases h
def asgTV : Stmt → Option (Expr × Expr)
  | .Assign [t] ee _ => some (t, ee)
  | _ => none
theorem asgTV_of {s : Stmt} {t ee : Expr} (h : asgTV s = some (t, ee)) : ∃ q, s = .Assign [t] ee q := by
  unfold asgTV at h
  split at h
  · cases h; exact ⟨_, rfl⟩
  · cases h
def augV : Stmt → Option (Str × Operator × Expr)
  | .AugAssign (.Name x _) op ee _ => some (x, op, ee)
  | _ => none
theorem augV_of {s : Stmt} {x : Str} {op : Operator} {ee : Expr} (h : augV s = some (x, op, ee)) : ∃ p q, s = .AugAssign (.Name x p) op ee q := by
  unfold augV at h
  split at h
  · cases h; exact ⟨_, _, rfl⟩
  · cases h
def setV : Stmt → Option (Expr × Expr × Expr)
  | .Assign [.Subscript eo ei _] ee _ => some (eo, ei, ee)
  | _ => none
theorem setV_of {s : Stmt} {eo ei ee : Expr} (h : setV s = some (eo, ei, ee)) : ∃ p q, s = .Assign [.Subscript eo ei p] ee q := by
  unfold setV at h
  split at h
  · cases h; exact ⟨_, _, rfl⟩
  · cases h
def exprV : Stmt → Option Expr
  | .Expr ee _ => some ee
  | _ => none
theorem exprV_of {s : Stmt} {ee : Expr} (h : exprV s = some ee) : ∃ p, s = .Expr ee p := by
  unfold exprV at h
  split at h
  · cases h; exact ⟨_, rfl⟩
  · cases h
def retV : Stmt → Option (Option Expr)
  | .Return o _ => some o
  | _ => none
theorem retV_of {s : Stmt} {o : Option Expr} (h : retV s = some o) : ∃ p, s = .Return o p := by
  unfold retV at h
  split at h
  · cases h; exact ⟨_, rfl⟩
  · cases h
def passV : Stmt → Option Nat
  | .Pass _ => some 0
  | .Break _ => some 1
  | .Continue _ => some 2
  | _ => none
theorem passV_0 {s : Stmt} (h : passV s = some 0) : ∃ p, s = .Pass p := by
  unfold passV at h
  split at h <;> first | exact ⟨_, rfl⟩ | cases h
theorem passV_1 {s : Stmt} (h : passV s = some 1) : ∃ p, s = .Break p := by
  unfold passV at h
  split at h <;> first | exact ⟨_, rfl⟩ | cases h
theorem passV_2 {s : Stmt} (h : passV s = some 2) : ∃ p, s = .Continue p := by
  unfold passV at h
  split at h <;> first | exact ⟨_, rfl⟩ | cases h
def ifV : Stmt → Option (Expr × List Stmt × List Stmt)
  | .If e a b _ => some (e, a, b)
  | _ => none
theorem ifV_of {s : Stmt} {e : Expr} {a b : List Stmt} (h : ifV s = some (e, a, b)) : ∃ p, s = .If e a b p := by
  unfold ifV at h
  split at h
  · cases h; exact ⟨_, rfl⟩
  · cases h
def forV : Stmt → Option (Expr × Expr × List Stmt)
  | .For x ei l [] _ => some (x, ei, l)
  | _ => none
theorem forV_of {s : Stmt} {x : Expr} {e : Expr} {a : List Stmt} (h : forV s = some (x, e, a)) : ∃ q, s = .For x e a [] q := by
  unfold forV at h
  split at h
  · cases h; exact ⟨_, rfl⟩
  · cases h
def whlV : Stmt → Option (Expr × List Stmt)
  | .While ek l [] _ => some (ek, l)
  | _ => none
theorem whlV_of {s : Stmt} {e : Expr} {a : List Stmt} (h : whlV s = some (e, a)) : ∃ p, s = .While e a [] p := by
  unfold whlV at h
  split at h
  · cases h; exact ⟨_, rfl⟩
  · cases h
def raiseV : Stmt → Option Str
  | .Raise (some (.Call (.Name z _) [] [] _)) none _ => some z
  | _ => none
theorem raiseV_of {s : Stmt} {z : Str} (h : raiseV s = some z) : ∃ p q r, s = .Raise (some (.Call (.Name z p) [] [] q)) none r := by
  unfold raiseV at h
  split at h
  · cases h; exact ⟨_, _, _, rfl⟩
  · cases h
def tryV : Stmt → Option (List Stmt × Str × Option Str × Stmt × List Stmt)
  | .Try body [.ExceptHandler (some (.Name z _)) nm (s0 :: suite) _] [] [] _ => some (body, z, nm, s0, suite)
  | _ => none
theorem tryV_of {s s0 : Stmt} {z : Str} {body suite : List Stmt} {nm : Option Str} (h : tryV s = some (body, z, nm, s0, suite)) : ∃ p q r, s = .Try body [.ExceptHandler (some (.Name z p)) nm (s0 :: suite) q] [] [] r := by
  unfold tryV at h
  split at h
  · cases h; exact ⟨_, _, _, rfl⟩
  · cases h
def isFn : ScopeKind → Bool
  | .function => true
  | _ => false
/-- name = [..] on one line -/
def asgLc (c : Ck) (i : Nat) : E → Stmt → Bool
  | .lc e t it cond own, .Assign [.Name y py] (.ListComp elt [⟨tg, iter, ifs, 0⟩] scope pos) _ => coldB c.md && lclB c.sc y && decide (c.N[i]? = some y) && slotB c i && isFn c.sc.kind && (py.line == pos.line) && !(scope.names.any fun (n, k) => n == y && (k == .local || k == .cell)) && blkC c.N c.sc scope (ownL c.N own) && ckI c it tg iter && ckT (blkCk c scope own) t tg && ckC (blkCk c scope own) cond ifs && ckE (blkCk c scope own) e elt
  | _, _ => false
theorem ss_asgLc {X : Cx} {c : Ck} {B : Tb} {W : WX} {sd : L2.St → Prop} (C : Cok X c B W sd) {i : Nat} {e : E} {s : Stmt} (h : asgLc c i e s = true) : PS X s (tSt X.K sd W (exS B (.asg (.name i) e))) := by
  unfold asgLc at h
  split at h
  · rename_i e t it cond own y py elt tg iter ifs scope pos spos
    obtain ⟨h, g12⟩ := and3 h
    obtain ⟨h, g11⟩ := and3 h
    obtain ⟨h, g10⟩ := and3 h
    obtain ⟨h, g9⟩ := and3 h
    obtain ⟨h, g8⟩ := and3 h
    obtain ⟨h, g7⟩ := and3 h
    obtain ⟨h, g6⟩ := and3 h
    obtain ⟨h, g5⟩ := and3 h
    obtain ⟨h, g4⟩ := and3 h
    obtain ⟨h, g3⟩ := and3 h
    obtain ⟨g1, g2⟩ := and3 h
    have eo := ownL_snd c.N own
    obtain ⟨i1, i2⟩ := sndI C (tg := tg) it iter g9
    have hl : X.env.scope.names.lookup y = some .local := by rw [C.sc]; exact lclB_of g2
    have hk : X.env.scope.kind = .function := by
      rw [C.sc]
      cases q : c.sc.kind <;> first
        | rfl
        | (rw [q] at g5; cases g5)
    have lc := ss_setLc (X := X) (sd := sd) (W := W) (B := B) (pos := pos) (py := py) (spos := spos) (own := ownL c.N own) (n := c.N.length) (i := i) (C.calm g1) (by rw [C.hN]; exact C.nd) (by rw [C.hN]; exact of_decide_eq_true g3) hl
      (sw_true hk hl g6 (by simpa using g7)) (by rw [C.hN, C.sc]; exact blkOk_by g8) C.len (fun σ v hs => C.set i g4 σ _ hs) i1 i2
      (fun σ0 s H D cl fp => by rw [eo]; exact sndT (C.blk g1) t tg g10) (fun σ0 s H D cl fp => by rw [eo]; exact xC cond _ _ _ _ (C.blk g1) ifs g11) (fun σ0 s H D cl fp => by rw [eo]; exact (sndE (C.blk g1) e elt g12).pe)
    rw [eo] at lc
    exact lc
  · cases h
mutual
def ckS (c : Ck) : S → Stmt → Bool
  | .asg (.name i) e, s => (onV (asgV s) fun (x, ee) => locT c x && decide (c.N[i]? = some x) && slotB c i && notComp ee && ckE c e ee) || asgLc c i e s
  | .asg (.tup ts) e, s => onV (asgTV s) fun (tg, ee) => ckT c (.tup ts) tg && notStar tg && notComp ee && notTup ee && ckE c e ee
  | .aug i op e, s => onV (augV s) fun (x, op', ee) => locT c x && decide (c.N[i]? = some x) && slotB c i && decide (op = op') && okAug op && ckE c e ee
  | .seti o i e, s => onV (setV s) fun (eo, ei, ee) => notComp ee && plainIxB ei && ckE c o eo && ckE c i ei && ckE c e ee
  | .expr e, s => onV (exprV s) fun ee => notComp ee && ckE c e ee
  | .ret e, s => onV (retV s) fun o => onV o fun ee => ckE c e ee
  | .retN, s => onV (retV s) fun o => o.isNone
  | .pass, s => decide (passV s = some 0)
  | .never, _ => true
  | .brk, s => decide (passV s = some 1)
  | .cnt, s => decide (passV s = some 2)
  | .ife k a b, s => onV (ifV s) fun (ek, la, lb) => tok k && ckE c k ek && ckSs c a la && ckSs c b lb
  | .for t it b, s => onV (forV s) fun (x, ei, l) => coldB c.md && ckT c t x && ckI c it x ei && ckSs c b l
  | .whl k b, s => onV (whlV s) fun (ek, l) => coldB c.md && tok k && ckE c k ek && ckSs c b l
  | .raise y .nil, s => onV (raiseV s) fun z => coldB c.md && decide (y = z) && glB c.sc z && okNm z && decide (z ∈ c.raises)
  | .raise _ (.cons _ _), _ => false
  | .try b x (some i) su, s => onV (tryV s) fun (body, z, nm, s0, suite) => onV nm fun n => (c.tr && (coldB c.md && slotB c i)) && decide (x = z) && glB c.sc z && okNm z && decide (z ∈ c.exis) && lclB c.sc n && decide (c.N[i]? = some n) && ckSs c b body && ckSs { c with md := .hot (some (n, i)) } su (s0 :: suite)
  | .try b x none su, s => onV (tryV s) fun (body, z, nm, s0, suite) => nm.isNone && (c.tr && coldB c.md) && decide (x = z) && glB c.sc z && okNm z && decide (z ∈ c.exis) && ckSs c b body && ckSs { c with md := .hot none } su (s0 :: suite)
def ckSs (c : Ck) : Ss → List Stmt → Bool
  | .nil, l => l.isEmpty
  | .cons a r, x :: l => ckS c a x && ckSs c r l
  | .cons _ _, [] => false
end
/-- the same, in a try's body -/
theorem Cok.tr {X : Cx} {c : Ck} {B : Tb} {W W' : WX} {sd : L2.St → Prop} (C : Cok X c B W sd) (hm : coldB c.md = true) {pn : List (Addr × Obj)} {xe : Value → Shared → Prop} (tk : Takes (X.tr pn xe) W') (hp : PassesOwn (model X.prog X.w) X.A X.env xe) : Cok (X.tr pn xe) c B W' sd where
  hN := C.hN
  nd := C.nd
  vis := C.vis
  loc := C.loc
  gl := C.gl
  hu := C.hu
  calm := C.calm
  takes := fun _ => tk
  call := C.call
  callk := C.callk
  bis := C.bis
  isi := C.isi
  sub := C.sub
  glob := C.glob
  cds := C.cds
  sc := C.sc
  set := C.set
  len := C.len
  lcl := C.lcl
  passes := fun _ => hp
  stk := C.stk
  raises := fun y hy => let ⟨⟨a, b, d, e⟩, f⟩ := C.raises y hy; ⟨⟨a, b, d, e⟩, f⟩
  rng := C.rng
  zip := C.zip
  cls := C.cls
  exc := C.exc
  hot := fun e i h => by
    rw [h] at hm
    cases hm
theorem slot_cold {c : Ck} {j : Nat} (hm : coldB c.md = true) (h : (match c.own with
      | none => true
      | some l => decide (j ∈ l)) = true) : slotB c j = true := by
  refine Bool.and_eq_true_iff.mpr ⟨?_, h⟩
  cases q : c.md with
  | cold => rfl
  | hot _ => rw [q] at hm; cases hm
/-- the same, in a suite -/
theorem Cok.suite {X : Cx} {c : Ck} {B : Tb} {W : WX} {sd : L2.St → Prop} (C : Cok X c B W sd) (hm : coldB c.md = true) {n : Str} {i : Nat} {a : Addr} {oe : Obj} {e : Exn} {dd : Option Addr} {pn : List (Addr × Obj)} (hz : Zc (.ref (He.ga X.K e.cls)) dd oe) (hd : ∃ vs, oe.data = .fields vs) (he : e.cls ∈ Xs.names) (hf : e.fs = [] → dd = none) :
    Cok (X.suite a ((a, oe) :: pn)) { c with md := .hot (some (n, i)) } { B with exn := some e } W (fun σ => sd σ ∧ σ[i]? = some (some (.ref a))) where
  hN := C.hN
  nd := C.nd
  vis := C.vis
  loc := C.loc
  gl := C.gl
  hu := C.hu
  calm := fun h => by cases h
  takes := fun h => by cases h
  call := fun h => by cases h
  callk := fun h => by cases h
  bis := C.bis
  isi := C.isi
  sub := C.sub
  glob := C.glob
  cds := C.cds
  sc := C.sc
  set := fun j hj σ v hs => by
    obtain ⟨a1, a2⟩ := and3 (show (decide (j ≠ i) && (match c.own with
      | none => true
      | some l => decide (j ∈ l))) = true from hj)
    refine ⟨C.set j (slot_cold hm a2) σ v hs.1, ?_⟩
    have ne : j ≠ i := of_decide_eq_true a1
    rw [List.getElem?_set_ne ne]
    exact hs.2
  len := fun σ hs => C.len σ hs.1
  lcl := C.lcl
  passes := fun h => by cases h
  stk := fun _ h => by cases h
  raises := fun y hy => let ⟨⟨a, b, d, e⟩, f⟩ := C.raises y hy; ⟨⟨a, b, d, e⟩, f⟩
  rng := C.rng
  zip := C.zip
  cls := C.cls
  exc := C.exc
  hot := fun n' i' h => by
    cases h
    refine ⟨e, rfl, fun t ht hfs => ?_⟩
    have h0 : dd = none := hf hfs
    subst h0
    obtain ⟨u, v, kv, r, ht2, hk⟩ := C.cls t ht
    have k1 := (hk _ he).1
    have es : B.sub = Xs.sub := C.sub
    refine ⟨a, v, u, fun σ hs => hs.2, r, ht2, fun pins s σ H xs us Q I rr hq => ?_⟩
    obtain ⟨ex, q⟩ := hq
    refine call_isE (C.exc _ he) hz hd pins s σ H xs us Q I rr ⟨v, u, _, ex, fun w rw => ?_, k1, ?_⟩
    · exact kv.eq rw
    · have q' : Q (.bl (B.sub e.cls t)) H := q
      rw [es] at q'
      exact q'
theorem Cok.suite0 {X : Cx} {c : Ck} {B : Tb} {W : WX} {sd : L2.St → Prop} (C : Cok X c B W sd) (hm : coldB c.md = true) {a : Addr} {oe : Obj} {e : Exn} {pn : List (Addr × Obj)} :
    Cok (X.suite a ((a, oe) :: pn)) { c with md := .hot none } { B with exn := some e } W sd where
  hN := C.hN
  nd := C.nd
  vis := C.vis
  loc := C.loc
  gl := C.gl
  hu := C.hu
  calm := fun h => by cases h
  takes := fun h => by cases h
  call := fun h => by cases h
  callk := fun h => by cases h
  bis := C.bis
  isi := C.isi
  sub := C.sub
  glob := C.glob
  cds := C.cds
  sc := C.sc
  set := fun j hj σ v hs => C.set j (slot_cold hm (and3 (show (true && (match c.own with
      | none => true
      | some l => decide (j ∈ l))) = true from hj)).2) σ v hs
  len := C.len
  lcl := C.lcl
  passes := fun h => by cases h
  stk := fun _ h => by cases h
  raises := fun y hy => let ⟨⟨a, b, d, e⟩, f⟩ := C.raises y hy; ⟨⟨a, b, d, e⟩, f⟩
  rng := C.rng
  zip := C.zip
  cls := C.cls
  exc := C.exc
  hot := fun n' i' h => by cases h
end RI
set_option maxRecDepth 100000
set_option maxHeartbeats 4000000
/-! RM: what the checker of statements lets through keeps what the machine does. -/
namespace RI
open PySem L2 PyProof.Rows
variable [Xs]
theorem names_of {X : Cx} {t : Str} {u : Value} (hg : Gl X t) (hn : okNm t = true) (h : X.mg t = some u ∨ (X.mg t = none ∧ bootBuiltins t = some u ∧ t ≠ "__name__")) : Names X t u := ⟨hg, (okNm_of hn).1, h⟩
mutual
theorem sndS : ∀ (ir : S) (X : Cx) (c : Ck) (B : Tb) (W : WX) (sd : L2.St → Prop), Cok X c B W sd → ∀ s : Stmt, ckS c ir s = true → PS X s (tSt X.K sd W (exS B ir))
  | .asg (.name i) e, X, c, B, W, sd, C, s, h => by
    rw [ckS] at h
    rcases Bool.or_eq_true_iff.mp h with h0 | h0
    case inr => exact ss_asgLc C h0
    obtain ⟨⟨x, ee⟩, q, g⟩ := onV_of h0
    replace h := g
    clear g h0
    obtain ⟨p, pos, rfl⟩ := asgV_of q
    dsimp only at h
    obtain ⟨h, h5⟩ := and3 h
    obtain ⟨h, h4⟩ := and3 h
    obtain ⟨h, h3⟩ := and3 h
    obtain ⟨h1, h2⟩ := and3 h
    exact ss_asg (by rw [C.hN]; exact C.nd) (by rw [C.hN]; exact of_decide_eq_true h2) (C.loc x h1) (fun σ v hs => C.set i h3 σ _ hs) h4 (sndE C e ee h5).pe
  | .asg (.tup ts) e, X, c, B, W, sd, C, s, h => by
    rw [ckS] at h
    obtain ⟨⟨tg, ee⟩, q, g⟩ := onV_of h
    replace h := g
    clear g
    obtain ⟨pos, rfl⟩ := asgTV_of q
    dsimp only at h
    obtain ⟨h, h5⟩ := and3 h
    obtain ⟨h, h4⟩ := and3 h
    obtain ⟨h, h3⟩ := and3 h
    obtain ⟨h1, h2⟩ := and3 h
    exact ss_asgT (sndT C _ _ h1) h2 h3 h4 (sndE C e ee h5).pe
  | .aug i op e, X, c, B, W, sd, C, s, h => by
    rw [ckS] at h
    obtain ⟨⟨x, op', ee⟩, q, g⟩ := onV_of h
    replace h := g
    clear g
    obtain ⟨p, pos, rfl⟩ := augV_of q
    dsimp only at h
    obtain ⟨h, h6⟩ := and3 h
    obtain ⟨h, h5⟩ := and3 h
    obtain ⟨h, h4⟩ := and3 h
    obtain ⟨h, h3⟩ := and3 h
    obtain ⟨h1, h2⟩ := and3 h
    have e1 := of_decide_eq_true h4
    subst e1
    exact ss_aug h5 (by rw [C.hN]; exact C.nd) (by rw [C.hN]; exact of_decide_eq_true h2) (C.loc x h1) (fun σ v hs => C.set i h3 σ _ hs) (sndE C e ee h6).pe
  | .seti o i e, X, c, B, W, sd, C, s, h => by
    rw [ckS] at h
    obtain ⟨⟨eo, ei, ee⟩, q, g⟩ := onV_of h
    replace h := g
    clear g
    obtain ⟨p, pos, rfl⟩ := setV_of q
    dsimp only at h
    obtain ⟨h, h5⟩ := and3 h
    obtain ⟨h, h4⟩ := and3 h
    obtain ⟨h, h3⟩ := and3 h
    obtain ⟨h1, h2⟩ := and3 h
    exact ss_seti C.hu h1 (sndE C o eo h3).pe (sndE C i ei h4).pe (sndE C e ee h5).pe (by
      intro v
      have h2' : plainIxB ei = true := h2
      cases ei <;> first
        | rfl
        | cases h2')
  | .expr e, X, c, B, W, sd, C, s, h => by
    rw [ckS] at h
    obtain ⟨ee, q, g⟩ := onV_of h
    replace h := g
    clear g
    obtain ⟨pos, rfl⟩ := exprV_of q
    obtain ⟨h1, h2⟩ := and3 h
    exact ss_expr h1 (sndE C e _ h2).pe
  | .ret e, X, c, B, W, sd, C, s, h => by
    rw [ckS] at h
    obtain ⟨o, q, g⟩ := onV_of h
    replace h := g
    clear g
    obtain ⟨ee, q2, h⟩ := onV_of h
    subst q2
    obtain ⟨pos, rfl⟩ := retV_of q
    exact ss_ret (sndE C e _ h).pe
  | .retN, X, c, B, W, sd, C, s, h => by
    rw [ckS] at h
    obtain ⟨o, q, g⟩ := onV_of h
    replace h := g
    clear g
    obtain ⟨pos, rfl⟩ := retV_of q
    cases o with
    | some _ => cases h
    | none => exact ss_retN
  | .pass, X, c, B, W, sd, C, s, h => by
    rw [ckS] at h
    obtain ⟨pos, rfl⟩ := passV_0 (of_decide_eq_true h)
    exact ss_pass
  | .never, X, c, B, W, sd, C, s, h => ss_never
  | .brk, X, c, B, W, sd, C, s, h => by
    rw [ckS] at h
    obtain ⟨pos, rfl⟩ := passV_1 (of_decide_eq_true h)
    exact ss_brk
  | .cnt, X, c, B, W, sd, C, s, h => by
    rw [ckS] at h
    obtain ⟨pos, rfl⟩ := passV_2 (of_decide_eq_true h)
    exact ss_cnt
  | .ife k a b, X, c, B, W, sd, C, s, h => by
    rw [ckS] at h
    obtain ⟨⟨ek, la, lb⟩, q, g⟩ := onV_of h
    replace h := g
    clear g
    obtain ⟨pos, rfl⟩ := ifV_of q
    dsimp only at h
    obtain ⟨h, h4⟩ := and3 h
    obtain ⟨h, h3⟩ := and3 h
    obtain ⟨h1, h2⟩ := and3 h
    exact ss_ife ((sndE C k _ h2).pt h1) (sndSs a X c B W sd C _ h3) (sndSs b X c B W sd C _ h4)
  | .for t it b, X, c, B, W, sd, C, s, h => by
    rw [ckS] at h
    obtain ⟨⟨x, ei, l⟩, q, g⟩ := onV_of h
    replace h := g
    clear g
    obtain ⟨pos, rfl⟩ := forV_of q
    dsimp only at h
    obtain ⟨h, h4⟩ := and3 h
    obtain ⟨h, h3⟩ := and3 h
    obtain ⟨h1, h2⟩ := and3 h
    obtain ⟨q1, q2⟩ := sndI C it ei h3
    exact ss_for (C.passes h1) (C.calm h1) (sndT C t x h2) q2 q1 (sndSs b X c B W sd C _ h4)
  | .whl k b, X, c, B, W, sd, C, s, h => by
    rw [ckS] at h
    obtain ⟨⟨ek, l⟩, q, g⟩ := onV_of h
    replace h := g
    clear g
    obtain ⟨pos, rfl⟩ := whlV_of q
    dsimp only at h
    obtain ⟨h, h4⟩ := and3 h
    obtain ⟨h, h3⟩ := and3 h
    obtain ⟨h1, h2⟩ := and3 h
    exact ss_whl (C.passes h1) ((sndE C k _ h3).pt h2) (sndSs b X c B W sd C _ h4)
  | .raise y .nil, X, c, B, W, sd, C, s, h => by
    rw [ckS] at h
    obtain ⟨z, q, g⟩ := onV_of h
    replace h := g
    clear g
    obtain ⟨p1, p2, p3, rfl⟩ := raiseV_of q
    obtain ⟨h, h5⟩ := and3 h
    obtain ⟨h, h4⟩ := and3 h
    obtain ⟨h, h3⟩ := and3 h
    obtain ⟨h1, h2⟩ := and3 h
    have e1 := of_decide_eq_true h2
    subst e1
    obtain ⟨q1, q2⟩ := C.raises _ (of_decide_eq_true h5)
    exact ss_raise (C.calm h1) (C.takes h1) q1 q2 (C.gl _ h3) (okNm_of h4).1
  | .raise _ (.cons _ _), X, c, B, W, sd, C, s, h => by rw [ckS] at h; cases h
  | .try b x (some i) su, X, c, B, W, sd, C, s, h => by
    rw [ckS] at h
    obtain ⟨⟨body, z, nm, s0, suite⟩, q, g⟩ := onV_of h
    replace h := g
    clear g
    obtain ⟨p1, p2, p3, rfl⟩ := tryV_of q
    dsimp only at h
    obtain ⟨n, q2, h⟩ := onV_of h
    subst q2
    obtain ⟨h, h9⟩ := and3 h
    obtain ⟨h, h8⟩ := and3 h
    obtain ⟨h, h7⟩ := and3 h
    obtain ⟨h, h6⟩ := and3 h
    obtain ⟨h, h5⟩ := and3 h
    obtain ⟨h, h4⟩ := and3 h
    obtain ⟨h, h3⟩ := and3 h
    obtain ⟨h1, h2⟩ := and3 h
    obtain ⟨h0, h1⟩ := and3 h1
    obtain ⟨h1, hsl⟩ := and3 h1
    have e1 := of_decide_eq_true h2
    subst e1
    obtain ⟨u, v, kv, r, ht, hk⟩ := C.cls _ (of_decide_eq_true h5)
    obtain ⟨k1, k2⟩ := C.stk h0 h1
    have hi : X.N[i]? = some n := by rw [C.hN]; exact of_decide_eq_true h7
    refine ss_try_as k1 k2 (by rw [C.hN]; exact C.nd) hi (C.lcl _ h6) (names_of (C.gl _ h3) h4 ht) (fun y hy => by rw [C.sub]; exact (hk y hy).2) (C.takes h1) (C.set i hsl) (fun σ hs A H ρ rl => ?_)
      (fun W' pn xe tk hp => sndSs b (X.tr pn xe) c B W' sd (C.tr h1 tk hp) body h8)
      (fun a oe e dd pn hz hd he hf => sndSs su (X.suite a ((a, oe) :: pn)) { c with md := .hot (some (n, i)) } { B with exn := some e } W (fun σ => sd σ ∧ σ[i]? = some (some (.ref a))) (C.suite h1 hz hd he hf) (s0 :: suite) h9)
    rw [C.len σ hs]
    exact (List.getElem?_eq_some_iff.mp (of_decide_eq_true h7)).1
  | .try b x none su, X, c, B, W, sd, C, s, h => by
    rw [ckS] at h
    obtain ⟨⟨body, z, nm, s0, suite⟩, q, g⟩ := onV_of h
    replace h := g
    clear g
    obtain ⟨p1, p2, p3, rfl⟩ := tryV_of q
    dsimp only at h
    obtain ⟨h, h8⟩ := and3 h
    obtain ⟨h, h7⟩ := and3 h
    obtain ⟨h, h6⟩ := and3 h
    obtain ⟨h, h5⟩ := and3 h
    obtain ⟨h, h4⟩ := and3 h
    obtain ⟨h, h3⟩ := and3 h
    obtain ⟨h1, h2⟩ := and3 h
    cases nm with
    | some _ => cases h1
    | none =>
      obtain ⟨h0, h2⟩ := and3 h2
      have e1 := of_decide_eq_true h3
      subst e1
      obtain ⟨u, v, kv, r, ht, hk⟩ := C.cls _ (of_decide_eq_true h6)
      obtain ⟨k1, k2⟩ := C.stk h0 h2
      exact ss_try_only k1 k2 (names_of (C.gl _ h4) h5 ht) (fun y hy => by rw [C.sub]; exact (hk y hy).2) (C.takes h2)
        (fun W' pn xe tk hp => sndSs b (X.tr pn xe) c B W' sd (C.tr h2 tk hp) body h7)
        (fun a oe e pn => sndSs su (X.suite a ((a, oe) :: pn)) { c with md := .hot none } { B with exn := some e } W sd (C.suite0 h2) (s0 :: suite) h8)
theorem sndSs : ∀ (ir : Ss) (X : Cx) (c : Ck) (B : Tb) (W : WX) (sd : L2.St → Prop), Cok X c B W sd → ∀ l : List Stmt, ckSs c ir l = true → PSs X l (tSt X.K sd W (exSs B ir))
  | .nil, X, c, B, W, sd, C, l, h => by
    cases l with
    | nil => exact ss_nil
    | cons _ _ => rw [ckSs] at h; cases h
  | .cons a r, X, c, B, W, sd, C, l, h => by
    cases l with
    | nil => rw [ckSs] at h; cases h
    | cons x l =>
      rw [ckSs] at h
      obtain ⟨h1, h2⟩ := and3 h
      exact ss_cons (sndS a X c B W sd C x h1) (sndSs r X c B W sd C l h2)
end
end RI
set_option maxRecDepth 100000
set_option maxHeartbeats 4000000
/-! RN: the program's defs as a table; each keeps the promise that the language reads off its body. -/
namespace RI
open PySem L2 PyProof.Rows
/-- a def: its parameters, its names by slot, its last parameters' defaults, the calls by keywords, its body -/
structure DefI where
  name : Str
  ps : List Str
  N : List Str
  dfl : List D := []
  kws : List (Nat × List Str) := []
  ir : Ss
def DefI.lo (d : DefI) : Nat := d.ps.length - d.dfl.length
def DefI.fill (d : DefI) (es : List D) : List D := es ++ d.dfl.drop (es.length - d.lo)
/-- where a parameter's value comes from: the j-th keyword, the j-th default -/
def kwPlan (ps : List Str) (lo n : Nat) (ks : List Str) : List (Bool × Nat) := (ps.drop n).zipIdx.map fun p => match ks.findIdx? (· == p.1) with
  | some j => (true, j)
  | none => (false, n + p.2 - lo)
def byPlan {α : Type} : List (Bool × Nat) → List α → List α → List α
  | [], _, _ => []
  | (true, j) :: pl, its, ws => (match ws[j]? with
    | some a => a :: byPlan pl its ws
    | none => byPlan pl its ws)
  | (false, j) :: pl, its, ws => (match its[j]? with
    | some a => a :: byPlan pl its ws
    | none => byPlan pl its ws)
def kwAll {α : Type} (ps : List Str) (lo : Nat) (ks : List Str) (us its ws : List α) : List α := us ++ byPlan (kwPlan ps lo us.length ks) its ws
theorem byPlan_vals {vs ds : List V} {us its : List Value} (r : Vals vs us) (q : Vals ds its) : ∀ pl : List (Bool × Nat), Vals (byPlan pl vs ds) (byPlan pl us its)
  | [] => .nil
  | (true, j) :: pl => by
    unfold byPlan
    cases e : ds[j]? with
    | none =>
      have e2 : its[j]? = none := by
        rw [List.getElem?_eq_none_iff] at e ⊢
        rw [← q.length]
        exact e
      rw [e2]
      exact byPlan_vals r q pl
    | some a =>
      obtain ⟨u, e2, rr⟩ := q.get e
      rw [e2]
      exact .cons rr (byPlan_vals r q pl)
  | (false, j) :: pl => by
    unfold byPlan
    cases e : vs[j]? with
    | none =>
      have e2 : us[j]? = none := by
        rw [List.getElem?_eq_none_iff] at e ⊢
        rw [← r.length]
        exact e
      rw [e2]
      exact byPlan_vals r q pl
    | some a =>
      obtain ⟨u, e2, rr⟩ := r.get e
      rw [e2]
      exact .cons rr (byPlan_vals r q pl)
theorem kwAll_vals {ps ks : List Str} {lo : Nat} {vs ds zs : List V} {us its ws : List Value} (r : Vals vs us) (q : Vals ds its) (z : Vals zs ws) : Vals (kwAll ps lo ks vs ds zs) (kwAll ps lo ks us its ws) := by
  unfold kwAll
  rw [r.length]
  exact r.append (byPlan_vals q z _)
variable [Xs]
theorem byPlan_rvs {K : PySem.W.Frag} {A : List Addr} {H : Hp} {vs ds : List V} {us its : List D} (r : RVs K A H vs us) (q : RVs K A H ds its) : ∀ pl : List (Bool × Nat), RVs K A H (byPlan pl vs ds) (byPlan pl us its)
  | [] => .nil
  | (true, j) :: pl => by
    unfold byPlan
    cases e : its[j]? with
    | none =>
      have e2 : ds[j]? = none := by
        rw [List.getElem?_eq_none_iff] at e ⊢
        rw [q.length]
        exact e
      rw [e2]
      exact byPlan_rvs r q pl
    | some a =>
      obtain ⟨u, e2, rr⟩ := q.get e
      rw [e2]
      exact .cons rr (byPlan_rvs r q pl)
  | (false, j) :: pl => by
    unfold byPlan
    cases e : us[j]? with
    | none =>
      have e2 : vs[j]? = none := by
        rw [List.getElem?_eq_none_iff] at e ⊢
        rw [r.length]
        exact e
      rw [e2]
      exact byPlan_rvs r q pl
    | some a =>
      obtain ⟨u, e2, rr⟩ := r.get e
      rw [e2]
      exact .cons rr (byPlan_rvs r q pl)
theorem kwAll_rvs {K : PySem.W.Frag} {A : List Addr} {H : Hp} {ps ks : List Str} {lo : Nat} {vs ds zs : List V} {us its ws : List D} (r : RVs K A H vs us) (q : RVs K A H ds its) (z : RVs K A H zs ws) : RVs K A H (kwAll ps lo ks vs ds zs) (kwAll ps lo ks us its ws) := by
  unfold kwAll
  rw [r.length]
  exact r.append (byPlan_rvs q z _)
/-- what a def computes: k calls deep at most -/
noncomputable def runD (T : List DefI) : Nat → DefI → List D → M D
  | 0, _, _ => badM
  | k + 1, d, ds => runFd
    { call := fun f es => (match T.find? (fun e => e.name == f) with
        | some e => runD T k e (e.fill es)
        | none => badM)
      callk := fun f ks es ws => (match T.find? (fun e => e.name == f) with
        | some e => runD T k e (kwAll e.ps e.lo ks es e.dfl ws)
        | none => badM)
      gl := fun x => Xs.consts.lookup x
      sub := Xs.sub
      exn := none } ⟨d.ps.length, d.N.length, d.ir⟩ ds
/-- what a body sees, k deep -/
noncomputable def tb (T : List DefI) (k : Nat) : Tb :=
  { call := fun f es => (match T.find? (fun e => e.name == f) with
      | some e => runD T k e (e.fill es)
      | none => badM)
    callk := fun f ks es ws => (match T.find? (fun e => e.name == f) with
      | some e => runD T k e (kwAll e.ps e.lo ks es e.dfl ws)
      | none => badM)
    gl := fun x => Xs.consts.lookup x
    sub := Xs.sub
    exn := none }
theorem runD_succ (T : List DefI) (k : Nat) (d : DefI) : runD T (k + 1) d = runFd (tb T k) ⟨d.ps.length, d.N.length, d.ir⟩ := rfl
/-- what the module holds besides its defs -/
structure Glb where
  bis : List Bi
  isi : Bool
  exis : List Str
  raises : List Str
  rng : Bool
def ckOf (T : List DefI) (G : Glb) (d : DefI) (sc : Scope) : Ck where
  N := d.N
  sc := sc
  calls := T.flatMap fun e => (List.range (e.dfl.length + 1)).map fun i => (e.name, e.lo + i)
  callks := T.flatMap fun e => e.kws.map fun p => (e.name, p.1, p.2)
  bis := G.bis
  isi := G.isi
  exis := G.exis
  raises := G.raises
  rng := G.rng
  md := .cold
structure GlbAt (K : PySem.W.Frag) (w : World) (mg : Str → Option Value) (G : Glb) : Prop where
  bis : ∀ f ∈ G.bis, if f.imp = true then mg f.nm = some f.val else mg f.nm = none
  isi : G.isi = true → mg "isinstance" = none ∧ ∀ t : Ty, mg t.snm = none
  exis : ∀ t ∈ G.exis, ∃ (u : Value) (v : V), ClsV v u ∧ RelV v u ∧ (mg t = some u ∨ (mg t = none ∧ bootBuiltins t = some u ∧ t ≠ "__name__")) ∧
    ∀ y ∈ Xs.names, PySem.W.kitOne K (.ref (He.ga K y)) u = some (Xs.sub y t) ∧ PySem.W.exmOne K (.ref (He.ga K y)) u = some (Xs.sub y t)
  raises : ∀ y ∈ G.raises, (mg y = some (.ref (He.ga K y)) ∧ PySem.W.excIn K (He.ga K y) He.veBase "ValueError.__new__" = true ∧ PySem.W.keepIn K (.ref (He.ga K y)) = true ∧
    PySem.W.subIn K (.ref (He.ga K y)) (.type "BaseException") = some true ∧ PySem.W.typeIn K (.ref (He.ga K y)) = some (.type "type")) ∧ y ∈ Xs.names
  rng : G.rng = true → mg "range" = none
  zip : G.rng = true → mg "zip" = none
  exc : ∀ y ∈ Xs.names, ExcC K (He.ga K y)
  cds : ∀ x l, Xs.cds.lookup x = some l → ∃ d, mg x = some (.ref d) ∧ KdOk K w d l
  glob : ∀ x d, Xs.consts.lookup x = some d → ∃ (u : Value) (v : V), mg x = some u ∧ RelV v u ∧ ∀ A H, RV K A H v d
/-- a def as it stands in the module -/
structure DefAt (K : PySem.W.Frag) (mg : Str → Option Value) (T : List DefI) (G : Glb) (d : DefI) : Prop where
  flat : d.dfl.all flatD = true
  le : d.dfl.length ≤ d.ps.length
  ex : ∃ (f : Addr) (fd : FuncData) (x qual : Str) (params : Arguments) (body : List Stmt) (sc : Scope), mg d.name = some (.ref f) ∧ FunD K x qual params body sc (d.dfl.map toV) [] f fd ∧ FnScope d.N d.ps sc ∧
    (∀ i, i ≤ d.dfl.length → ∃ ds, Vals ((d.dfl.map toV).drop i) ds ∧ Binds K fd d.ps ds) ∧
    (∀ p ∈ d.kws, ∃ its : List Value, KBn K fd d.ps p.1 p.2 (fun us ws => kwAll d.ps d.lo p.2 us its ws) (fun vs zs => kwAll d.ps d.lo p.2 vs (d.dfl.map toV) zs)) ∧
    ckSs (ckOf T G d sc) d.ir body = true
/-- what a def promises -/
def spOf (K : PySem.W.Frag) (n : Nat) (m : List D → M D) : Sp := fun vs H Q E => ∃ (A : List Addr) (st : Store) (ds : List D), RS K A H st ∧ RVs K A H vs ds ∧ ds.length = n ∧ Post K (RV K) A H E Q (m ds st)
/-- the first of that name -/
def uniq (T : List DefI) : Prop := ∀ d ∈ T, T.find? (fun e => e.name == d.name) = some d
theorem start_len {N : List Str} {vs : List V} (h : vs.length ≤ N.length) : (L2.start N vs).length = N.length := by
  unfold L2.start
  rw [List.length_append, List.length_map, List.length_replicate]
  omega
theorem rsl_start {K : PySem.W.Frag} {A : List Addr} {H : Hp} {N : List Str} {vs : List V} {ds : List D} (r : RVs K A H vs ds) : RSl K A H (L2.start N vs) (startD N.length ds) := by
  have l := r.length
  unfold L2.start startD
  refine ⟨by simp [l], fun i d h => ?_⟩
  by_cases hi : i < ds.length
  · rw [List.getElem?_append_left (by simpa using hi), List.getElem?_map] at h
    cases e : ds[i]? with
    | none => rw [e] at h; cases h
    | some y =>
      rw [e] at h
      cases h
      obtain ⟨v, e2, rv⟩ := r.get e
      refine ⟨v, ?_, rv⟩
      rw [List.getElem?_append_left (by simpa [l] using hi), List.getElem?_map, e2]
      rfl
  · rw [List.getElem?_append_right (by simpa using hi), List.getElem?_replicate] at h
    split at h <;> cases h
/-- a body's end is the def's -/
theorem posts_end {K : PySem.W.Frag} {sd : L2.St → Prop} {W : WX} {E : XK} {Q : VK} {A : List Addr} {H : Hp} {r : Fl} (hW : W = fun cls d _ H => E cls d H)
    (h : Post K (RV K) A H E Q (match r with
      | .nx _ s1 => .ok .non s1
      | .rt d s1 => .ok d s1
      | .ex x _ s1 => .ex x s1
      | _ => .bad)) : PostS K sd W { nx := fun _ H' => Q .non H', rt := Q } A H r := by
  subst hW
  cases r with
  | nx ρ s => exact fun σ' H' A' nx hs rs rl => h .non H' A' nx rs .non
  | rt d s => exact fun v H' A' nx rs rv => h v H' A' nx rs rv
  | bk ρ s => exact h.elim
  | ct ρ s => exact h.elim
  | ex x ρ s => exact fun σ' H' A' c dd nx hs rs rl rx => h H' A' c dd nx rs rx
  | bad => exact h.elim
section
variable {P : Program} {w : World} {K : PySem.W.Frag} {mg : Str → Option Value} {base : Heap} {T : List DefI} {G : Glb}
theorem fnAt_of {k : Nat} {d : DefI} {Ar : Around} (un : uniq T) (hd : d ∈ T) (D : DefAt K mg T G d) (hr : Room k Ar)
    (ih : ∀ f fd x qual params body sc, mg d.name = some (.ref f) → FunD K x qual params body sc (d.dfl.map toV) [] f fd → FnScope d.N d.ps sc → ckSs (ckOf T G d sc) d.ir body = true → FnOk P w K mg base (L2.CX P w) k f fd d.ps (spOf K d.ps.length (runD T k d)))
    {n : Nat} (h1 : d.lo ≤ n) (h2 : n ≤ d.lo + d.dfl.length) : FnAt P w K mg base Ar ((tb T k).call d.name) d.name n := by
  obtain ⟨f, fd, x, qual, params, body, sc, hm, F, S, hb, hk, hc⟩ := D.ex
  obtain ⟨ds, v1, b1⟩ := hb (n - d.lo) (by omega)
  refine ⟨k, f, fd, d.ps, _, ds, _, hm, F.kp, ih f fd x qual params body sc hm F S hc, hr, b1, v1, fun A st H vs es Q E rs rv hl P => ?_⟩
  have e : (tb T k).call d.name es = runD T k d (d.fill es) := by
    show (match T.find? (fun e => e.name == d.name) with
      | some e => runD T k e (e.fill es)
      | none => badM) = _
    rw [un d hd]
  rw [e] at P
  have fl : RVs K A H ((d.dfl.map toV).drop (n - d.lo)) (d.dfl.drop (n - d.lo)) := (RVs.flat D.flat).drop _
  refine ⟨A, st, d.fill es, rs, ?_, ?_, P⟩
  · unfold DefI.fill
    rw [hl]
    exact rv.append fl
  · have l1 := D.le
    unfold DefI.fill
    rw [List.length_append, List.length_drop, hl]
    unfold DefI.lo at h1 h2 ⊢
    omega
theorem fnAtK_of {k : Nat} {d : DefI} {Ar : Around} (un : uniq T) (hd : d ∈ T) (D : DefAt K mg T G d) (hr : Room k Ar)
    (ih : ∀ f fd x qual params body sc, mg d.name = some (.ref f) → FunD K x qual params body sc (d.dfl.map toV) [] f fd → FnScope d.N d.ps sc → ckSs (ckOf T G d sc) d.ir body = true → FnOk P w K mg base (L2.CX P w) k f fd d.ps (spOf K d.ps.length (runD T k d)))
    {n : Nat} {ks : List Str} (h : (n, ks) ∈ d.kws) : FnAtK P w K mg base Ar ((tb T k).callk d.name ks) d.name n ks := by
  obtain ⟨f, fd, x, qual, params, body, sc, hm, F, S, _, hk, hc⟩ := D.ex
  obtain ⟨its, KB⟩ := hk _ h
  refine ⟨k, f, fd, d.ps, _, _, _, hm, F.kp, ih f fd x qual params body sc hm F S hc, hr, KB, fun A st H vs zs es fs Q E rs rv rz hl hl2 P => ?_⟩
  have e : (tb T k).callk d.name ks es fs = runD T k d (kwAll d.ps d.lo ks es d.dfl fs) := by
    show (match T.find? (fun e => e.name == d.name) with
      | some e => runD T k e (kwAll e.ps e.lo ks es e.dfl fs)
      | none => badM) = _
    rw [un d hd]
  rw [e] at P
  have rr := kwAll_rvs (ps := d.ps) (ks := ks) (lo := d.lo) rv (RVs.flat (K := K) (A := A) (H := H) D.flat) rz
  by_cases hlen : (kwAll d.ps d.lo ks es d.dfl fs).length = d.ps.length
  · exact ⟨A, st, _, rs, rr, hlen, P⟩
  · cases k with
    | zero => exact P.elim
    | succ k =>
      rw [runD_succ] at P
      unfold runFd at P
      rw [if_neg hlen] at P
      exact P.elim
/-- every def of the table keeps its promise, k calls deep -/
theorem tab_ok (un : uniq T) (hG : GlbAt K w mg G) (hT : ∀ d ∈ T, DefAt K mg T G d) : ∀ (k : Nat) (d : DefI), d ∈ T → ∀ f fd x qual params body sc, mg d.name = some (.ref f) → FunD K x qual params body sc (d.dfl.map toV) [] f fd → FnScope d.N d.ps sc → ckSs (ckOf T G d sc) d.ir body = true →
    FnOk P w K mg base (L2.CX P w) k f fd d.ps (spOf K d.ps.length (runD T k d))
  | 0, d, hd, f, fd, x, qual, params, body, sc, hm, F, S, hc => ⟨fun vs H Q E ⟨A, st, ds, _, rv, hl, _⟩ => rv.length.trans hl, fun _ _ _ _ _ _ _ _ _ _ _ _ _ ⟨_, _, _, _, _, _, P⟩ => P.elim⟩
  | k + 1, d, hd, f, fd, x, qual, params, body, sc, hm, F, S, hc => by
    have ih := tab_ok un hG hT k
    have hpl : d.ps.length ≤ d.N.length := by
      have := congrArg List.length S.pre
      rw [List.length_take] at this
      omega
    refine F.ok S (fun vs H Q E ⟨A, st, ds, _, rv, hl, _⟩ => rv.length.trans hl) (fun cdv A outer s H vs Q E hr h => ?_)
    have C : Cok (cxOf (L2.CX P w) P w K mg base d.N qual sc f cdv A outer s H E) (ckOf T G d sc) (tb T k) (fun cls d _ H => E cls d H) (fun σ => σ.length = d.N.length) := by
      refine
       { hN := rfl, nd := S.nd, vis := fun x h => visB_of h, sc := rfl, loc := fun x h => ⟨locB_of (show locB sc x = true from h), .inl rfl⟩, gl := fun x h => glB_of h, hu := ?_, calm := fun _ => rfl, takes := fun _ => takes_of rfl rfl rfl rfl, call := fun _ x n hx => ?_, callk := fun _ x n ks hx => ?_,
         bis := fun f hf => hG.bis f hf, isi := hG.isi, sub := rfl, set := fun j _ σ v hs => by rw [List.length_set]; exact hs, len := fun σ hs => hs, lcl := fun x h => lclB_of h, passes := fun _ => passes_of rfl, stk := fun _ _ => ⟨rfl, rfl⟩,
         raises := fun y hy => ?_, rng := hG.rng, zip := hG.zip, glob := fun x d h => ⟨h, hG.glob x d h⟩, cds := hG.cds, cls := fun t ht => hG.exis t ht, exc := hG.exc, hot := fun e i h => by cases h }
      · have := hr.un
        show (A.deeper _).units + 150 < cLine
        omega
      · obtain ⟨e, he, hx⟩ := List.mem_flatMap.mp hx
        obtain ⟨i, hi, hx⟩ := List.mem_map.mp hx
        cases hx
        rw [List.mem_range] at hi
        exact fnAt_of un he (hT e he) hr (fun f fd x qual params body sc hm F S hc => ih e he f fd x qual params body sc hm F S hc) (Nat.le_add_right _ _) (by omega)
      · obtain ⟨e, he, hx⟩ := List.mem_flatMap.mp hx
        obtain ⟨p, hp, hx⟩ := List.mem_map.mp hx
        cases hx
        exact fnAtK_of un he (hT e he) hr (fun f fd x qual params body sc hm F S hc => ih e he f fd x qual params body sc hm F S hc) hp
      · obtain ⟨⟨a, b, c, e, g⟩, z⟩ := hG.raises y hy
        exact ⟨⟨a, b, c, raises_own e g⟩, z⟩
    obtain ⟨A1, st, ds, rs, rv, hl, P⟩ := h
    refine ⟨_, sndSs d.ir _ _ _ _ _ C body hc, A1, st, startD d.N.length ds, start_len (by rw [rv.length, hl]; exact hpl), rs, rsl_start rv, posts_end rfl ?_⟩
    rw [runD_succ] at P
    unfold runFd at P
    rw [if_pos hl] at P
    exact P
end
end RI
set_option maxRecDepth 100000
set_option maxHeartbeats 4000000
/-! RO: the module's top: what it holds, told by one Bool; the law's def at the end. -/
namespace RI
open PySem L2 PyProof.Rows
/-! ### a Hook with one more Bool -/
abbrev AlB : Type := He.AlT × Bool
def obsB (n : Nat) (fa : List He.Fa) (fn : List He.DefD) (ts : List He.Tab) (ex : PySem.W.Frag → Bool) (g : Addr → Option Obj) : AlB := (He.obsT fa fn ts (He.frG g (He.asD g n)), ex (He.frG g (He.asD g n)))
def hookB (n : Nat) (fa : List He.Fa) (fn : List He.DefD) (ts : List He.Tab) (ex : PySem.W.Frag → Bool) : PySem.W.Hook where
  α := AlB
  obs := fun s => obsB n fa fn ts ex s.heap.get?
  val := fun w => (He.valT fn ts w, true)
  says := fun w h => ∃ K : PySem.W.Frag, K.In h ∧ He.SaysT fa fn ts w K ∧ ex K = true
  of := fun _ _ e => ⟨_, He.frG_in, congrArg (fun z : AlB => z.1) e, congrArg (fun z : AlB => z.2) e⟩
  keeps := fun _ _ _ ⟨K, hK, c⟩ k => ⟨K, PySem.W.Frag.In.keeps hK k, c⟩
theorem obsB_eq {n : Nat} {fa : List He.Fa} {fn : List He.DefD} {ts : List He.Tab} {ex : PySem.W.Frag → Bool} {g : Addr → Option Obj} {s : Shared} (h : ∀ a, g a = s.heap.get? a) : obsB n fa fn ts ex g = (hookB n fa fn ts ex).obs s := by
  have e : g = s.heap.get? := funext h
  rw [e] <;> rfl
/-! ### what the module holds, by a Bool -/
def nsB (K : PySem.W.Frag) (x : Str) (o : Option Value) : Bool := He.eqO (PySem.W.nsIn K mainGlobals x) (some o)
def excCB (K : PySem.W.Frag) (D : Addr) : Bool :=
  He.eqO (PySem.W.findIn K (.ref D) "__getattribute__") (some (some (.builtin "BaseException.__getattribute__"))) &&
  (He.eqO (PySem.W.findIn K (.ref D) "__getattr__") (some none) &&
  (decide (PySem.W.subIn K (.ref D) (.type "BaseException") = some true) &&
  (PySem.W.hasDictIn K D &&
  (He.eqO (PySem.W.findIn K (.ref D) "__class__") (some (some (.builtin "object.__class__"))) &&
  (He.eqO (PySem.W.specialIn K (.builtin "object.__class__") "__get__") (some (some (.builtin "getset_descriptor.__get__"))) &&
  (decide (PySem.W.takesIn K (.builtin "object.__class__") = some true) &&
  decide (PySem.W.mroIn K D (.type "object") = some true)))))))
theorem excCB_ok {K : PySem.W.Frag} {D : Addr} (h : excCB K D = true) : ExcC K D := by
  unfold excCB at h
  obtain ⟨h1, h⟩ := He.ba h
  obtain ⟨h2, h⟩ := He.ba h
  obtain ⟨h3, h⟩ := He.ba h
  obtain ⟨h4, h⟩ := He.ba h
  obtain ⟨h5, h⟩ := He.ba h
  obtain ⟨h6, h⟩ := He.ba h
  obtain ⟨h7, h8⟩ := He.ba h
  exact ⟨He.eqO_ok h1, He.eqO_ok h2, of_decide_eq_true h3, h4, He.eqO_ok h5, He.eqO_ok h6, of_decide_eq_true h7, of_decide_eq_true h8⟩
/-- built-in exception classes that a program names -/
def bltX : List (Str × String) := [("ValueError", "ValueError"), ("Exception", "Exception"), ("TypeError", "TypeError"), ("KeyError", "KeyError"), ("IndexError", "IndexError")]
theorem bltX_ok : ∀ p ∈ bltX, bootBuiltins p.1 = some (.type p.2) ∧ p.1 ≠ "__name__" := by decide +kernel
def clsU (K : PySem.W.Frag) (t : Str) : Value := match bltX.lookup t with
  | some n => .type n
  | none => .ref (He.ga K t)
/-- a constant of the module -/
def dvOf : D → He.Dv
  | .bl b => .bl b
  | .int i => .int i
  | .str x => .str x
  | _ => .non
theorem dvOf_eq {K : PySem.W.Frag} {d : D} (h : flatD d = true) : (dvOf d).v K = toV d := by
  cases d <;> first | rfl | cases h
def constB (K : PySem.W.Frag) (x : Str) : D → Bool
  | .non => nsB K x (some .none)
  | .bl b => nsB K x (some (.bool b))
  | .int i => (He.Fa.int x i).ok K
  | .str z => (He.Fa.str x z).ok K
  | .tup l => nsB K x (some (.ref (He.ga K x))) && (l.all flatD && He.tupB K x (l.map dvOf))
  | .ref _ => false
variable [Xs]
def glbB (G : Glb) (K : PySem.W.Frag) : Bool :=
  (G.bis.all fun f => nsB K f.nm (if f.imp then some f.val else none)) &&
  ((!G.isi || (nsB K "isinstance" none && allTy.all fun t => nsB K t.snm none)) &&
  ((G.exis.all fun t => nsB K t (match bltX.lookup t with
      | some _ => none
      | none => some (.ref (He.ga K t))) && Xs.names.all fun y => decide (PySem.W.kitOne K (.ref (He.ga K y)) (clsU K t) = some (Xs.sub y t)) && decide (PySem.W.exmOne K (.ref (He.ga K y)) (clsU K t) = some (Xs.sub y t))) &&
  ((G.raises.all fun y => nsB K y (some (.ref (He.ga K y))) && (PySem.W.excIn K (He.ga K y) He.veBase "ValueError.__new__" && (PySem.W.keepIn K (.ref (He.ga K y)) && (decide (PySem.W.subIn K (.ref (He.ga K y)) (.type "BaseException") = some true) && (decide (PySem.W.typeIn K (.ref (He.ga K y)) = some (.type "type")) && decide (y ∈ Xs.names)))))) &&
  ((!G.rng || (nsB K "range" none && nsB K "zip" none)) &&
  ((Xs.names.all fun y => excCB K (He.ga K y)) && ((Xs.consts.all fun p => constB K p.1 p.2) && Xs.cds.all fun p => nsB K p.1 (some (.ref (He.ga K p.1))) && ((p.2.all fun q => flatD q.2) && He.valsB K (He.ga K p.1) (p.2.map fun q => (q.1, dvOf q.2)))))))))
/-- the module's dicts, where they are looked for -/
def cts : List He.Tab := Xs.cds.map fun p => (fun K => He.ga K p.1, p.2.map (·.1))
theorem nsB_some {K : PySem.W.Frag} {h : Heap} {mg : Str → Option Value} {x : Str} {v : Value} (X : K.In h) (G : h.Ns mainGlobals mg) (c : nsB K x (some v) = true) : mg x = some v := PySem.W.mg_of X G (He.eqO_ok c)
theorem nsB_none {K : PySem.W.Frag} {h : Heap} {mg : Str → Option Value} {x : Str} (X : K.In h) (G : h.Ns mainGlobals mg) (c : nsB K x none = true) : mg x = none := PySem.W.mg_none_of X G (He.eqO_ok c)
theorem sameFs_refl : ∀ {l : List D}, l.all flatD = true → sameFs l l = true
  | [], _ => rfl
  | d :: l, h => by
    rw [List.all_cons, Bool.and_eq_true] at h
    unfold sameFs
    rw [sameFs_refl h.2, Bool.and_true]
    cases d <;> first
      | rfl
      | (simp [sameF]; done)
      | cases h.1
theorem conT_of {x : Str} {l : List D} (h : (x, D.tup l) ∈ Xs.consts) (f : l.all flatD = true) : conT l = true := by
  unfold conT
  rw [Bool.or_eq_true]
  refine .inr (List.any_eq_true.mpr ⟨_, h, ?_⟩)
  exact sameFs_refl f
theorem constB_ok {K : PySem.W.Frag} {h : Heap} {mg : Str → Option Value} {x : Str} {d : D} (X : K.In h) (g : h.Ns mainGlobals mg) (hm : (x, d) ∈ Xs.consts) (c : constB K x d = true) : ∃ (u : Value) (v : V), mg x = some u ∧ RelV v u ∧ ∀ A H, RV K A H v d := by
  cases d with
  | non => exact ⟨_, .non, nsB_some X g c, rfl, fun _ _ => .non⟩
  | bl b => exact ⟨_, .bl b, nsB_some X g c, rfl, fun _ _ => .bl b⟩
  | int i =>
    obtain ⟨t, e⟩ := He.int_ok X g c
    exact ⟨_, .int i, e, ⟨t, rfl⟩, fun _ _ => .int i⟩
  | str z =>
    obtain ⟨t, e⟩ := He.str_ok X g c
    exact ⟨_, .str z, e, ⟨t, rfl⟩, fun _ _ => .str z⟩
  | tup l =>
    obtain ⟨c1, c⟩ := He.ba (show (nsB K x (some (.ref (He.ga K x))) && (l.all flatD && He.tupB K x (l.map dvOf))) = true from c)
    obtain ⟨c2, c3⟩ := He.ba c
    refine ⟨_, .ref (He.ga K x), nsB_some X g c1, rfl, fun A H => ?_⟩
    have sq := He.tupB_ok c3 H
    have e : (l.map dvOf).map (He.Dv.v K) = l.map toV := by
      rw [List.map_map]
      exact List.map_congr_left fun d hd => dvOf_eq (List.all_eq_true.mp c2 d hd)
    rw [e] at sq
    exact .tup sq (.inr (conT_of hm c2)) (RVs.flat c2)
  | ref n => cases c
theorem kd_ok {K : PySem.W.Frag} {w : World} {x : Str} {l : List (Str × D)} (h1 : He.dicW K (He.ga K x) = some (He.keysIn w.params (l.map (·.1)))) (h2 : (l.all fun q => flatD q.2) = true) (h3 : He.valsB K (He.ga K x) (l.map fun q => (q.1, dvOf q.2)) = true) : KdOk K w (He.ga K x) l := by
  refine ⟨He.dicW_ok h1, fun z => ?_⟩
  cases e : l.lookup z with
  | none =>
    refine ns_out h1 fun m => ?_
    obtain ⟨q, hq, rfl⟩ := List.mem_map.mp m
    have := List.lookup_eq_none_iff.mp e q hq
    simp at this
  | some v =>
    have m := PySem.mem_of_lookup e
    have fl := List.all_eq_true.mp h2 (z, v) m
    obtain ⟨u, e1, e2⟩ := He.valsB_ok h3 (q := (z, dvOf v)) (List.mem_map.mpr ⟨(z, v), m, rfl⟩)
    rw [dvOf_eq fl] at e2
    exact ⟨fl, u, e1, e2⟩
theorem glbB_ok {K : PySem.W.Frag} {h : Heap} {mg : Str → Option Value} {G : Glb} {w : World} (X : K.In h) (g : h.Ns mainGlobals mg) (c : glbB G K = true) (tb : ∀ p ∈ Xs.cds, He.dicW K (He.ga K p.1) = some (He.keysIn w.params (p.2.map (·.1)))) : GlbAt K w mg G := by
  unfold glbB at c
  obtain ⟨c1, c⟩ := He.ba c
  obtain ⟨c2, c⟩ := He.ba c
  obtain ⟨c3, c⟩ := He.ba c
  obtain ⟨c4, c⟩ := He.ba c
  obtain ⟨c5, c⟩ := He.ba c
  obtain ⟨c6, c⟩ := He.ba c
  obtain ⟨c7, c8⟩ := He.ba c
  refine ⟨fun f hf => ?_, fun hi => ?_, fun t ht => ?_, fun y hy => ?_, fun hr => ?_, fun hr => ?_, fun y hy => excCB_ok (List.all_eq_true.mp c6 y hy), fun x l hl => ?_, fun x d hd => constB_ok X g (PySem.mem_of_lookup hd) (List.all_eq_true.mp c7 (x, d) (PySem.mem_of_lookup hd))⟩
  · have q := List.all_eq_true.mp c1 f hf
    by_cases e : f.imp = true
    · rw [if_pos e] at q ⊢
      exact nsB_some X g q
    · rw [if_neg e] at q ⊢
      exact nsB_none X g q
  · rw [hi] at c2
    obtain ⟨a, b⟩ := He.ba (show (nsB K "isinstance" none && allTy.all fun t => nsB K t.snm none) = true from c2)
    exact ⟨nsB_none X g a, fun t => nsB_none X g (List.all_eq_true.mp b t (mem_allTy t))⟩
  · obtain ⟨a, b⟩ := He.ba (List.all_eq_true.mp c3 t ht)
    have b' : ∀ y ∈ Xs.names, PySem.W.kitOne K (.ref (He.ga K y)) (clsU K t) = some (Xs.sub y t) ∧ PySem.W.exmOne K (.ref (He.ga K y)) (clsU K t) = some (Xs.sub y t) := fun y hy => by
      obtain ⟨p, q⟩ := He.ba (List.all_eq_true.mp b y hy)
      exact ⟨of_decide_eq_true p, of_decide_eq_true q⟩
    unfold clsU at b'
    cases e : bltX.lookup t with
    | none =>
      rw [e] at a b'
      exact ⟨_, .ref (He.ga K t), .own _, rfl, .inl (nsB_some X g a), b'⟩
    | some n =>
      rw [e] at a b'
      obtain ⟨k1, k2⟩ := bltX_ok _ (PySem.mem_of_lookup e)
      exact ⟨_, .ty n, .ty n, rfl, .inr ⟨nsB_none X g a, k1, k2⟩, b'⟩
  · obtain ⟨a, b⟩ := He.ba (List.all_eq_true.mp c4 y hy)
    obtain ⟨b1, b⟩ := He.ba b
    obtain ⟨b2, b⟩ := He.ba b
    obtain ⟨b3, b⟩ := He.ba b
    obtain ⟨b4, b5⟩ := He.ba b
    exact ⟨⟨nsB_some X g a, b1, b2, of_decide_eq_true b3, of_decide_eq_true b4⟩, of_decide_eq_true b5⟩
  · rw [hr] at c5
    exact nsB_none X g (He.ba (show (nsB K "range" none && nsB K "zip" none) = true from c5)).1
  · rw [hr] at c5
    exact nsB_none X g (He.ba (show (nsB K "range" none && nsB K "zip" none) = true from c5)).2
  · have m := PySem.mem_of_lookup hl
    obtain ⟨d1, d2⟩ := He.ba (List.all_eq_true.mp c8 (x, l) m)
    obtain ⟨d2, d3⟩ := He.ba d2
    exact ⟨_, nsB_some X g d1, kd_ok (tb (x, l) m) d2 d3⟩
/-! ### the defs -/
/-- a def of the table, as its text stands at the top -/
structure Fits (T : List DefI) (G : Glb) (d : DefI) (e : He.DefD) : Prop where
  at_ : e.at_ = (d.name, none)
  dv : ∀ K, e.dvs K = d.dfl.map toV
  kw : e.kwd = []
  flat : d.dfl.all flatD = true
  le : d.dfl.length ≤ d.ps.length
  sc : FnScope d.N d.ps e.scope
  binds : ∀ (K : PySem.W.Frag) (f : Addr) (fd : FuncData), FunD K e.name e.qual e.params e.body e.scope (d.dfl.map toV) [] f fd → ∀ i, i ≤ d.dfl.length → ∃ ds, Vals ((d.dfl.map toV).drop i) ds ∧ Binds K fd d.ps ds
  kws : ∀ (K : PySem.W.Frag) (f : Addr) (fd : FuncData), FunD K e.name e.qual e.params e.body e.scope (d.dfl.map toV) [] f fd → ∀ p ∈ d.kws, ∃ its : List Value, KBn K fd d.ps p.1 p.2 (fun us ws => kwAll d.ps d.lo p.2 us its ws) (fun vs zs => kwAll d.ps d.lo p.2 vs (d.dfl.map toV) zs)
  ck : ckSs (ckOf T G d e.scope) d.ir e.body = true
theorem Fits.at {T : List DefI} {G : Glb} {d : DefI} {e : He.DefD} (F : Fits T G d e) {K : PySem.W.Frag} {mg : Str → Option Value} (hm : mg d.name = some (.ref (He.ga K d.name))) (h : ∃ fd, FunD K e.name e.qual e.params e.body e.scope (e.dvs K) (e.kws K) (He.fAd K e.at_) fd) : DefAt K mg T G d := by
  obtain ⟨fd, h⟩ := h
  have e1 : e.kws K = [] := by
    unfold He.DefD.kws
    rw [F.kw]
    rfl
  rw [e1, F.dv, F.at_] at h
  have e2 : He.fAd K (d.name, none) = He.ga K d.name := rfl
  rw [e2] at h
  exact ⟨F.flat, F.le, _, fd, _, _, _, _, _, hm, h, F.sc, F.binds K _ _ h, F.kws K _ _ h, F.ck⟩
/-- no defaults, no keywords -/
theorem Fits.plain {T : List DefI} {G : Glb} {d : DefI} {e : He.DefD} (at_ : e.at_ = (d.name, none)) (dfl : d.dfl = []) (edf : e.dfl = []) (kw : e.kwd = []) (kws : d.kws = []) (sc : FnScope d.N d.ps e.scope) (ck : ckSs (ckOf T G d e.scope) d.ir e.body = true)
    (h : ∀ (kV doc pm : Value) (an : Option Addr) (cdv ct : Value) (us : List Value), us.length = d.ps.length → bindArgs (PySem.W.fnOf e.name e.qual e.params e.body e.scope .none kV doc pm an cdv ct) ⟨us, []⟩ = pure (d.ps.zip us)) : Fits T G d e where
  at_ := at_
  dv := fun K => by
    unfold He.DefD.dvs
    rw [edf, dfl]
    rfl
  kw := kw
  flat := by rw [dfl]; rfl
  le := by rw [dfl]; exact Nat.zero_le _
  sc := sc
  binds := fun K f fd F i hi => by
    rw [dfl] at F hi ⊢
    have e : i = 0 := Nat.le_zero.mp hi
    subst e
    exact ⟨[], .nil, F.bindsN h⟩
  kws := fun K f fd F p hp => by
    rw [kws] at hp
    cases hp
  ck := ck
/-- names that differ -/
theorem uniq_of : ∀ {T : List DefI}, (T.map DefI.name).Nodup → uniq T
  | [], _ => fun d h => absurd h (List.not_mem_nil)
  | e :: T, h => fun d hd => by
    rw [List.map_cons, List.nodup_cons] at h
    rcases List.mem_cons.mp hd with rfl | hd
    · exact List.find?_cons_of_pos (beq_self_eq_true _)
    · have ne : (e.name == d.name) = false := beq_eq_false_iff_ne.mpr fun q => h.1 (q ▸ List.mem_map_of_mem hd)
      rw [List.find?_cons_of_neg (by rw [ne]; exact Bool.false_ne_true)]
      exact uniq_of h.2 d hd
/-- a table and its texts, one by one -/
inductive FitsAll (T : List DefI) (G : Glb) : List DefI → List He.DefD → Prop
  | nil : FitsAll T G [] []
  | cons {d : DefI} {e : He.DefD} {ds : List DefI} {es : List He.DefD} : Fits T G d e → FitsAll T G ds es → FitsAll T G (d :: ds) (e :: es)
theorem FitsAll.get {T : List DefI} {G : Glb} : ∀ {ds : List DefI} {es : List He.DefD}, FitsAll T G ds es → ∀ d ∈ ds, ∃ z ∈ es, Fits T G d z
  | _, _, .nil, d, h => absurd h (List.not_mem_nil)
  | _, _, .cons f r, d, h => by
    rcases List.mem_cons.mp h with rfl | h
    · exact ⟨_, List.mem_cons_self, f⟩
    · obtain ⟨z, hz, g⟩ := r.get d h
      exact ⟨z, List.mem_cons_of_mem _ hz, g⟩
/-! ### the law's def -/
theorem RdL.of_only {K : PySem.W.Frag} {H : Hp} {a : Addr} {xs : List V} (o : Only H) (h : SqL K H a xs) : RdL K H a xs := by
  rcases h with (h | ⟨o', h⟩) | h
  · rcases o a with e | ⟨o', ys, e⟩
    · rw [h] at e; cases e
    · rw [h] at e; cases e
  · exact .inl ⟨o', h⟩
  · exact .inr h
theorem rvs_ints {K : PySem.W.Frag} {A : List Addr} {H : Hp} : ∀ ns : List Int, RVs K A H (ns.map V.int) (ns.map D.int)
  | [] => .nil
  | n :: ns => .cons (.int n) (rvs_ints ns)
theorem law_sp {K : PySem.W.Frag} {m : List D → M D} {H : Hp} {a : Addr} {ns : List Int} (hO : Only H) (hS : SqL K H a (ns.map V.int)) (h : ∃ s, m [.ref 0] [.ro (ns.map D.int)] = .ok (.bl true) s) :
    spOf K 1 m [.ref a] H (fun v _ => v = .bl true) fun _ _ _ => False := by
  obtain ⟨s, e⟩ := h
  refine ⟨[a], [.ro (ns.map D.int)], [.ref 0], ⟨rfl, fun n m b o p h1 h2 h3 h4 m1 m2 => ?_, fun n b o h1 h2 => ?_⟩, .cons (.ref rfl) .nil, rfl, ?_⟩
  · cases n with
    | zero => cases h3; cases m1
    | succ n => simp at h3
  · cases n with
    | zero =>
      cases h1
      cases h2
      exact ⟨_, RdL.of_only hO hS, rvs_ints ns⟩
    | succ n => simp at h2
  · rw [e]
    intro v H' A' nx rs r
    cases r
    rfl
/-- the law, from what the top holds -/
theorem law_F {l : PySem.W.OpenLaw} {n k : Nat} {x : Str} {d : DefI} {T : List DefI} {G : Glb} {fa : List He.Fa} {fn : List He.DefD} {ex : PySem.W.Frag → Bool} {nm : Str}
    (un : uniq T) (hd : d ∈ T) (hex : ∀ K, ex K = true → glbB G K = true ∧ ∀ e ∈ T, nsB K e.name (some (.ref (He.ga K e.name))) = true)
    (fit : ∀ e ∈ T, ∃ z ∈ fn, Fits T G e z) (hps : d.ps = [x]) (hnm : d.name = nm) (hdf : d.dfl = [])
    {z : He.DefD} (hz : z ∈ fn) (F : Fits T G d z) (bindA : ∀ (K : PySem.W.Frag) (f : Addr) (fd : FuncData), FunD K z.name z.qual z.params z.body z.scope [] [] f fd → ∀ (s : Shared) (u : Value), BindsTo s fd ⟨[u], []⟩ [(x, u)])
    (keeps : ∀ ns : List Int, ns.length ≤ n → (∀ i ∈ ns, Builtin.Int.intBits i ≤ 1048576) → ∃ s, runD T k d [.ref 0] [.ro (ns.map D.int)] = .ok (.bl true) s) :
    ∀ (w : World) (mg : Str → Option Value) (fa' : Addr) (h : Heap), (∃ K : PySem.W.Frag, K.In h ∧ He.SaysT fa fn cts w K ∧ ex K = true) → h.Ns mainGlobals mg → mg nm = some (.ref fa') →
      ∃ (K : PySem.W.Frag) (fd : FuncData) (sp : Sp), K.In h ∧ (∀ (s : Shared) (u : Value), BindsTo s fd ⟨[u], []⟩ [(x, u)]) ∧
        (∀ (H : Hp) (a : Addr) (ns : List Int), ns.length ≤ n → (∀ i ∈ ns, Builtin.Int.intBits i ≤ 1048576) → Only H → SqL K H a (ns.map V.int) → sp [.ref a] H (fun v _ => v = .bl true) fun _ _ _ => False) ∧
        ∀ base : Heap, K.In base → base.Ns mainGlobals mg → FnOk l.prog w K mg base (L2.CX l.prog w) k fa' fd [x] sp := by
  intro w mg fa' h ⟨K, KX, cT, cx⟩ G' hmg
  have c := cT.d
  have tbs : ∀ p ∈ Xs.cds, He.dicW K (He.ga K p.1) = some (He.keysIn w.params (p.2.map (·.1))) := by
    intro p hp
    obtain ⟨i, hi⟩ := List.mem_iff_getElem?.mp hp
    have e : (cts).map (fun t => He.dicW K (t.1 K)) = (cts).map fun t => some (He.keysIn w.params t.2) := congrArg (fun z : He.AlT => z.2) cT
    have e2 := congrArg (fun l => l[i]?) e
    unfold cts at e2
    rw [List.getElem?_map, List.getElem?_map, List.getElem?_map, List.getElem?_map, hi] at e2
    exact Option.some.inj e2
  obtain ⟨g1, g2⟩ := hex K cx
  obtain ⟨i, hi, ei⟩ := List.mem_iff_getElem.mp hz
  obtain ⟨fd, FD⟩ := c.def_ i (d := z) (by rw [List.getElem?_eq_getElem hi, ei])
  have e1 : z.kws K = [] := by
    unfold He.DefD.kws
    rw [F.kw]
    rfl
  have hm : mg d.name = some (.ref (He.ga K d.name)) := nsB_some KX G' (g2 d hd)
  rw [e1, F.dv, F.at_] at FD
  have e2 : He.fAd K (d.name, none) = He.ga K d.name := rfl
  rw [e2] at FD
  have e3 : He.ga K d.name = fa' := by
    rw [hnm] at hm ⊢
    have := hm.symm.trans hmg
    injection this with this
    injection this
  rw [e3] at FD hm
  have FD0 : FunD K z.name z.qual z.params z.body z.scope [] [] fa' fd := by
    rw [hdf] at FD
    exact FD
  refine ⟨K, fd, spOf K d.ps.length (runD T k d), KX, bindA K _ _ FD0, fun H a ns hl hb hO hS => ?_, fun base KB GB => ?_⟩
  · rw [hps]
    exact law_sp hO hS (keeps ns hl hb)
  · have hT : ∀ e ∈ T, DefAt K mg T G e := fun e he => by
      obtain ⟨y, hy, Fy⟩ := fit e he
      obtain ⟨j, hj, ej⟩ := List.mem_iff_getElem.mp hy
      exact Fy.at (nsB_some KX G' (g2 e he)) (c.def_ j (d := y) (by rw [List.getElem?_eq_getElem hj, ej]))
    have r := tab_ok (P := l.prog) (w := w) (base := base) un (glbB_ok KX G' g1 tbs) hT k d hd _ fd _ _ _ _ _ hm FD F.sc F.ck
    rw [hps] at r
    rw [hps]
    exact r
/-- the end of a law's proof: what the top holds, what the def computes -/
theorem law_walk {l : PySem.W.OpenLaw} {n k : Nat} {x : Str} {q : Program} {loose : List Str} {XP : (Str → Option Value) → Heap → Prop} {d : DefI} {dr : DefRec} {T : List DefI} {G : Glb} {m : Nat} {fa : List He.Fa} {fn : List He.DefD} {ex : PySem.W.Frag → Bool}
    (hn : l.most = some n) (small : n ≤ sizeLine) (nodef : dr.params.defaults = []) (room : Room k callerA) (un : uniq T) (hd : d ∈ T) (hex : ∀ K, ex K = true → glbB G K = true ∧ ∀ e ∈ T, nsB K e.name (some (.ref (He.ga K e.name))) = true)
    (fit : ∀ e ∈ T, ∃ z ∈ fn, Fits T G e z) (hps : d.ps = [x]) (hnm : d.name = dr.name) (hdf : d.dfl = [])
    {z : He.DefD} (hz : z ∈ fn) (F : Fits T G d z) (bindA : ∀ (K : PySem.W.Frag) (f : Addr) (fd : FuncData), FunD K z.name z.qual z.params z.body z.scope [] [] f fd → ∀ (s : Shared) (u : Value), BindsTo s fd ⟨[u], []⟩ [(x, u)])
    (keeps : ∀ ns : List Int, ns.length ≤ n → (∀ i ∈ ns, Builtin.Int.intBits i ≤ 1048576) → ∃ s, runD T k d [.ref 0] [.ro (ns.map D.int)] = .ok (.bl true) s) :
    PySem.W.WalkO q loose XP (hookB m fa fn cts ex).says l.row.toRowW dr [] (fun f vs => PySem.call f vs) := by
  refine Att.attach_callB hn nodef ?_
  intro w t t' mg mb at_ ob p1 p2 p3 a vs ns G' Y _ _ _ hmg here iare many bits nogen
  obtain ⟨K, fd, sp, inK, bind, promise, keepsF⟩ := law_F (l := l) (k := k) un hd hex fit hps hnm hdf hz F bindA keeps w mg at_ _ Y G'.T.g hmg
  refine law_call inK G'.T.g G'.T.b G'.T.builtins G'.T.nolimit nogen here iare (Nat.le_trans many small) room keepsF bind ?_ ?_
  · intro H only sq
    exact promise H a ns many bits only sq
  · rintro H e t2 ⟨_, _, _, _, _, _, _, _, _, _, _, _, no⟩
    exact no
end RI
set_option maxRecDepth 100000
set_option maxHeartbeats 4000000
/-! RP: steps through what the language computes: wp of a result, wf of a statement's end. -/
namespace RI
open PySem L2
variable [Xs]
def wp0 {α : Type} (r : Res α) (Q : α → Store → Prop) (X : Exn → Store → Prop) : Prop := match r with
  | .ok a s => Q a s
  | .ex x s => X x s
  | .bad => False
def wf0 (r : Fl) (N : Env → Store → Prop) (R : D → Store → Prop) (Bk Ct : Env → Store → Prop) (X : Exn → Env → Store → Prop) : Prop := match r with
  | .nx ρ s => N ρ s
  | .rt d s => R d s
  | .bk ρ s => Bk ρ s
  | .ct ρ s => Ct ρ s
  | .ex x ρ s => X x ρ s
  | .bad => False
structure wp {α : Type} (r : Res α) (Q : α → Store → Prop) (X : Exn → Store → Prop) : Prop where
  out : wp0 r Q X
structure wf (r : Fl) (N : Env → Store → Prop) (R : D → Store → Prop) (Bk Ct : Env → Store → Prop) (X : Exn → Env → Store → Prop) : Prop where
  out : wf0 r N R Bk Ct X
/-- the two ways of a test -/
def Br (b : Bool) (A C : Prop) : Prop := if b = true then A else C
section
variable {A C : Prop}
theorem br_t (h : A) : Br true A C := h
theorem br_f (h : C) : Br false A C := by unfold Br; rw [if_neg Bool.false_ne_true]; exact h
theorem br {b : Bool} (h : b = true → A) (g : b = false → C) : Br b A C := by
  cases b with
  | true => exact br_t (h rfl)
  | false => exact br_f (g rfl)
theorem br_d {P : Prop} {_ : Decidable P} (h : P → A) (g : ¬P → C) : Br (decide P) A C := br (fun q => h (of_decide_eq_true q)) fun q => g (of_decide_eq_false q)
theorem br_n {b : Bool} (h : Br b C A) : Br (!b) A C := by
  cases b with
  | true => exact br_f h
  | false =>
    unfold Br at h
    rw [if_neg Bool.false_ne_true] at h
    exact h
theorem br_dt {P : Prop} {_ : Decidable P} (p : P) (h : A) : Br (decide P) A C := by rw [decide_eq_true p]; exact h
theorem br_df {P : Prop} {_ : Decidable P} (p : ¬P) (h : C) : Br (decide P) A C := by rw [decide_eq_false p]; exact br_f h
end
section
variable {α β : Type} {Q : α → Store → Prop} {X : Exn → Store → Prop} {s s' : Store}
theorem w_ok {a : α} (h : Q a s) : wp (.ok a s) Q X := ⟨h⟩
theorem w_eq {r : Res α} {a : α} (e : r = .ok a s) (h : Q a s) : wp r Q X := by rw [e]; first | exact h | exact ⟨h⟩ | exact h.out | exact ⟨h.out⟩
theorem w_eqx {r : Res α} {x : Exn} (e : r = .ex x s) (h : X x s) : wp r Q X := by rw [e]; first | exact h | exact ⟨h⟩ | exact h.out | exact ⟨h.out⟩
theorem w_mono {r : Res α} {Q' : α → Store → Prop} {X' : Exn → Store → Prop} (h : wp r Q' X') (q : ∀ a s, Q' a s → Q a s) (x : ∀ e s, X' e s → X e s) : wp r Q X := by
  cases r with
  | ok a s => exact ⟨q a s h.out⟩
  | ex e s => exact ⟨x e s h.out⟩
  | bad => first | exact h | exact ⟨h⟩ | exact h.out | exact ⟨h.out⟩
/-- .. without exceptions -/
theorem w_get {r : Res α} {Q' : α → Store → Prop} (h : wp r Q' fun _ _ => False) (q : ∀ a s, Q' a s → Q a s) : wp r Q X := w_mono h q fun _ _ z => z.elim
theorem w_bnd {m : M β} {f : β → M α} (h : wp (m s) (fun b s1 => wp (f b s1) Q X) X) : wp (bnd m f s) Q X := by
  unfold bnd
  cases e : m s with
  | ok b s1 => rw [e] at h; first | exact h | exact ⟨h⟩ | exact h.out | exact ⟨h.out⟩
  | ex x s1 => rw [e] at h; first | exact h | exact ⟨h⟩ | exact h.out | exact ⟨h.out⟩
  | bad => rw [e] at h; first | exact h | exact ⟨h⟩ | exact h.out | exact ⟨h.out⟩
theorem w_ret {a : α} (h : Q a s) : wp (ret a s) Q X := ⟨h⟩
theorem wp_out {r : Res α} (h : wp r Q fun _ _ => False) : ∃ a s, r = .ok a s ∧ Q a s := by
  cases r with
  | ok a s => exact ⟨a, s, rfl, h.out⟩
  | ex x s => exact h.out.elim
  | bad => exact h.out.elim
end
section
variable {B : Tb} {ρ : Env} {s : Store} {Q : D → Store → Prop} {Qs : List D → Store → Prop} {Qb : Bool → Store → Prop} {X : Exn → Store → Prop}
/-! ### expressions -/
theorem w_c {d : D} (h : Q d s) : wp (ev B (.c d) ρ s) Q X := by rw [ev]; first | exact h | exact ⟨h⟩ | exact h.out | exact ⟨h.out⟩
theorem w_var {i : Nat} {d : D} (e : ρ[i]? = some (some d)) (h : Q d s) : wp (ev B (.var i) ρ s) Q X := by
  rw [ev, e]
  first | exact h | exact ⟨h⟩ | exact h.out | exact ⟨h.out⟩
theorem w_nil (h : Qs [] s) : wp (evs B (Es.of []) ρ s) Qs X := by
  show wp (evs B .nil ρ s) Qs X
  rw [evs]
  first | exact h | exact ⟨h⟩ | exact h.out | exact ⟨h.out⟩
theorem w_cons {e : E} {r : List E} (h : wp (ev B e ρ s) (fun d s1 => wp (evs B (Es.of r) ρ s1) (fun ds s2 => Qs (d :: ds) s2) X) X) : wp (evs B (Es.of (e :: r)) ρ s) Qs X := by
  show wp (evs B (.cons e (Es.of r)) ρ s) Qs X
  rw [evs]
  refine w_bnd ?_
  refine w_mono h (fun d s1 q => w_bnd (w_mono q (fun _ _ q => ⟨q⟩) fun _ _ z => z)) fun _ _ z => z
theorem w_tup {es : Es} (h : wp (evs B es ρ s) (fun ds s1 => wp (tupK ds s1) Q X) X) : wp (ev B (.tup es) ρ s) Q X := by rw [ev]; exact w_bnd h
theorem w_tupK {ds : List D} (n : Nat.ble ds.length most = true) (h : Q (.tup ds) s) : wp (tupK ds s) Q X := by
  unfold tupK
  rw [if_pos (Nat.le_of_ble_eq_true n)]
  first | exact h | exact ⟨h⟩ | exact h.out | exact ⟨h.out⟩
theorem w_lst {es : Es} (h : wp (evs B es ρ s) (fun ds s1 => wp (lstK ds s1) Q X) X) : wp (ev B (.lst es) ρ s) Q X := by rw [ev]; exact w_bnd h
theorem w_lstK {ds : List D} (n : Nat.ble ds.length most = true) (h : Q (.ref s.length) (s ++ [.lst ds])) : wp (lstK ds s) Q X := by
  unfold lstK
  rw [if_pos (Nat.le_of_ble_eq_true n)]
  first | exact h | exact ⟨h⟩ | exact h.out | exact ⟨h.out⟩
theorem w_dic {es : Es} (h : wp (evs B es ρ (s ++ [.dk []])) (fun ds s1 => wp (dicK (.ref s.length) ds s1) Q X) X) : wp (ev B (.dic es) ρ s) Q X := by
  rw [ev]
  exact w_bnd ⟨w_bnd h⟩
theorem w_dic0T (h : Q (.ref s.length) (s ++ [.dt []])) : wp (ev B (.dic0 true) ρ s) Q X := by
  rw [ev]
  exact ⟨h⟩
theorem w_dic0K (h : Q (.ref s.length) (s ++ [.dk []])) : wp (ev B (.dic0 false) ρ s) Q X := by
  rw [ev]
  exact ⟨h⟩
theorem w_dicK {n : Nat} {ds : List D} {l : List (Key × D)} (e : s[n]? = some (.dk [])) (k : kvsD ds = some l) (h : Q (.ref n) (s.set n (.dk (mergeD [] l)))) : wp (dicK (.ref n) ds s) Q X := by
  unfold dicK
  dsimp only
  rw [e]
  dsimp only
  rw [k]
  first | exact h | exact ⟨h⟩ | exact h.out | exact ⟨h.out⟩
theorem w_bin {op : Operator} {a b : E} (h : wp (ev B a ρ s) (fun x s1 => wp (ev B b ρ s1) (fun y s2 => wp (binD op x y s2) Q X) X) X) : wp (ev B (.bin op a b) ρ s) Q X := by
  rw [ev]
  exact w_bnd (w_mono h (fun x s1 q => w_bnd q) fun _ _ z => z)
theorem w_add {i j : Int} (h : Q (.int (i + j)) s) : wp (binD .Add (.int i) (.int j) s) Q X := ⟨h⟩
theorem w_sub {i j : Int} (h : Q (.int (i - j)) s) : wp (binD .Sub (.int i) (.int j) s) Q X := ⟨h⟩
theorem w_mul {i j : Int} (a : fits i) (b : fits j) (h : Q (.int (i * j)) s) : wp (binD .Mult (.int i) (.int j) s) Q X := by
  show wp (ofO (((if fits i ∧ fits j then some (i * j) else none) : Option Int).map D.int) s) Q X
  rw [if_pos ⟨a, b⟩]
  first | exact h | exact ⟨h⟩ | exact h.out | exact ⟨h.out⟩
theorem w_fdiv {i j : Int} (a : j ≠ 0) (b : fits j) (h : Q (.int (i.fdiv j)) s) : wp (binD .FloorDiv (.int i) (.int j) s) Q X := by
  show wp (ofO (((if j ≠ 0 ∧ fits j then some (i.fdiv j) else none) : Option Int).map D.int) s) Q X
  rw [if_pos ⟨a, b⟩]
  first | exact h | exact ⟨h⟩ | exact h.out | exact ⟨h.out⟩
theorem w_mod {i j : Int} (a : j ≠ 0) (h : Q (.int (i.fmod j)) s) : wp (binD .Mod (.int i) (.int j) s) Q X := by
  show wp (ofO (((if j ≠ 0 then some (i.fmod j) else none) : Option Int).map D.int) s) Q X
  rw [if_pos a]
  first | exact h | exact ⟨h⟩ | exact h.out | exact ⟨h.out⟩
theorem w_pow {i j : Int} (a : 0 ≤ j ∧ j ≤ 4000 ∧ i.natAbs < 2 ^ 64) (h : Q (.int (i ^ j.toNat)) s) : wp (binD .Pow (.int i) (.int j) s) Q X := by
  show wp (ofO (((if 0 ≤ j ∧ j ≤ 4000 ∧ i.natAbs < 2 ^ 64 then some (i ^ j.toNat) else none) : Option Int).map D.int) s) Q X
  rw [if_pos a]
  first | exact h | exact ⟨h⟩ | exact h.out | exact ⟨h.out⟩
/-- two lists -/
theorem w_addL {n m : Nat} {l k : List D} (e : s[n]? = some (.lst l)) (g : s[m]? = some (.lst k)) (b : l.length + k.length ≤ most) (h : Q (.ref s.length) (s ++ [.lst (l ++ k)])) : wp (binD .Add (.ref n) (.ref m) s) Q X := by
  show wp (match Operator.Add, s[n]?, s[m]? with
    | .Add, some (.lst l), some (.lst m) => if l.length + m.length ≤ most then Res.ok (D.ref s.length) (s ++ [.lst (l ++ m)]) else .bad
    | _, _, _ => .bad) Q X
  rw [e, g]
  dsimp only
  rw [if_pos b]
  first | exact h | exact ⟨h⟩ | exact h.out | exact ⟨h.out⟩
theorem w_neg {a : E} (h : wp (ev B a ρ s) (fun x s1 => wp (negK x s1) Q X) X) : wp (ev B (.neg a) ρ s) Q X := by rw [ev]; exact w_bnd h
theorem w_negK {i : Int} (h : Q (.int (-i)) s) : wp (negK (.int i) s) Q X := ⟨h⟩
theorem w_cmp {op : CmpOp} {a b : E} (h : wp (ev B a ρ s) (fun x s1 => wp (ev B b ρ s1) (fun y s2 => wp (cmpB op x y s2) (fun k s3 => Q (.bl k) s3) X) X) X) : wp (ev B (.cmp op a b) ρ s) Q X := by
  rw [ev]
  refine w_bnd (w_mono h (fun x s1 q => w_bnd (w_mono q (fun y s2 q => ?_) fun _ _ z => z)) fun _ _ z => z)
  exact w_bnd (w_mono q (fun k s3 q => ⟨q⟩) fun _ _ z => z)
theorem w_cmpB {op : CmpOp} {x y : D} {k : Bool} (e : cmpD op x y s = some k) (h : Qb k s) : wp (cmpB op x y s) Qb X := by
  unfold cmpB
  rw [e]
  first | exact h | exact ⟨h⟩ | exact h.out | exact ⟨h.out⟩
theorem w_lt {i j : Int} (h : Qb (decide (i < j)) s) : wp (cmpB .Lt (.int i) (.int j) s) Qb X := ⟨h⟩
theorem w_le {i j : Int} (h : Qb (decide (i ≤ j)) s) : wp (cmpB .LtE (.int i) (.int j) s) Qb X := ⟨h⟩
theorem w_gt {i j : Int} (h : Qb (decide (j < i)) s) : wp (cmpB .Gt (.int i) (.int j) s) Qb X := ⟨h⟩
theorem w_ge {i j : Int} (h : Qb (decide (j ≤ i)) s) : wp (cmpB .GtE (.int i) (.int j) s) Qb X := ⟨h⟩
theorem w_isN {d : D} (h : Qb (isNon d) s) : wp (cmpB .Is d .non s) Qb X := ⟨h⟩
theorem w_isNN {d : D} (h : Qb (!isNon d) s) : wp (cmpB .IsNot d .non s) Qb X := ⟨h⟩
theorem eqD_int (s : Store) (i j : Int) : eqD s (.int i) (.int j) = some (decide (i = j)) := by
  have e : (i == j) = decide (i = j) := rfl
  unfold eqD dat
  dsimp only
  rw [if_pos ⟨rfl, rfl⟩, ← e]
  unfold PyData.eqv
  rfl
theorem eqD_bl (s : Store) (i j : Bool) : eqD s (.bl i) (.bl j) = some (i == j) := by
  unfold eqD dat
  dsimp only
  rw [if_pos ⟨rfl, rfl⟩]
  unfold PyData.eqv
  rfl
theorem shaped_str {x : Str} (h : PyData.strOk x = true) : SeqAt.shaped (.str x) = true := by
  unfold SeqAt.shaped PyData.canLay0
  rw [h]
  rfl
theorem eqD_str (s : Store) {i j : Str} (hi : PyData.strOk i = true) (hj : PyData.strOk j = true) : eqD s (.str i) (.str j) = some (i == j) := by
  unfold eqD dat
  dsimp only
  rw [if_pos ⟨shaped_str hi, shaped_str hj⟩]
  unfold PyData.eqv
  rfl
theorem eqX_of {s : Store} {a b : D} {k : Bool} (h : eqD s a b = some k) : ∀ n : Nat, eqX s n a b = some k
  | 0 => h
  | n + 1 => by
    unfold eqX
    rw [h]
theorem w_eqD {a b : D} {k : Bool} (e : eqD s a b = some k) (h : Qb k s) : wp (cmpB .Eq a b s) Qb X := w_cmpB (eqX_of e 40) h
theorem w_neD {a b : D} {k : Bool} (e : eqD s a b = some k) (h : Qb (!k) s) : wp (cmpB .NotEq a b s) Qb X := w_cmpB (show (eqX s 40 a b).map not = _ by rw [eqX_of e 40]; rfl) h
theorem w_eqX {a b : D} {k : Bool} (e : eqX s 40 a b = some k) (h : Qb k s) : wp (cmpB .Eq a b s) Qb X := w_cmpB e h
theorem w_neX {a b : D} {k : Bool} (e : eqX s 40 a b = some k) (h : Qb (!k) s) : wp (cmpB .NotEq a b s) Qb X := w_cmpB (show (eqX s 40 a b).map not = _ by rw [e]; rfl) h
theorem w_eqI {i j : Int} (h : Qb (decide (i = j)) s) : wp (cmpB .Eq (.int i) (.int j) s) Qb X := w_eqD (eqD_int s i j) h
theorem w_neI {i j : Int} (h : Qb (!decide (i = j)) s) : wp (cmpB .NotEq (.int i) (.int j) s) Qb X := w_neD (eqD_int s i j) h
theorem w_eqB {i j : Bool} (h : Qb (i == j) s) : wp (cmpB .Eq (.bl i) (.bl j) s) Qb X := w_eqD (eqD_bl s i j) h
theorem w_neB {i j : Bool} (h : Qb (!(i == j)) s) : wp (cmpB .NotEq (.bl i) (.bl j) s) Qb X := w_neD (eqD_bl s i j) h
theorem w_eqS {i j : Str} (hi : PyData.strOk i = true) (hj : PyData.strOk j = true) (h : Qb (i == j) s) : wp (cmpB .Eq (.str i) (.str j) s) Qb X := w_eqD (eqD_str s hi hj) h
theorem w_neS {i j : Str} (hi : PyData.strOk i = true) (hj : PyData.strOk j = true) (h : Qb (!(i == j)) s) : wp (cmpB .NotEq (.str i) (.str j) s) Qb X := w_neD (eqD_str s hi hj) h
theorem w_inD {a b : D} {o : Option D} (e : dgetD s b a = some o) (h : Qb o.isSome s) : wp (cmpB .In a b s) Qb X := w_cmpB (show inA a b s = _ by unfold inA; rw [e]) h
theorem w_notInD {a b : D} {o : Option D} (e : dgetD s b a = some o) (h : Qb (!o.isSome) s) : wp (cmpB .NotIn a b s) Qb X := w_cmpB (show (inA a b s).map not = _ by unfold inA; rw [e]; rfl) h
theorem w_in {a b : D} {k : Bool} (e : inA a b s = some k) (h : Qb k s) : wp (cmpB .In a b s) Qb X := w_cmpB e h
theorem w_notIn {a b : D} {k : Bool} (e : inA a b s = some k) (h : Qb (!k) s) : wp (cmpB .NotIn a b s) Qb X := w_cmpB (show (inA a b s).map not = _ by rw [e]; rfl) h
theorem w_tru {d : D} {k : Bool} (e : tru s d = some k) (h : Qb k s) : wp (truK d s) Qb X := by
  unfold truK
  rw [e]
  first | exact h | exact ⟨h⟩ | exact h.out | exact ⟨h.out⟩
theorem w_trB {b : Bool} (h : Qb b s) : wp (truK (.bl b) s) Qb X := ⟨h⟩
theorem w_trI {i : Int} (h : Qb (i != 0) s) : wp (truK (.int i) s) Qb X := ⟨h⟩
theorem w_truM {m : M D} (h : wp (m s) (fun x s1 => wp (truK x s1) Qb X) X) : wp (truM m s) Qb X := w_bnd h
theorem w_and {a b : E} (h : wp (ev B a ρ s) (fun x s1 => wp (truK x s1) (fun k s2 => Br k (wp (ev B b ρ s2) Q X) (Q x s2)) X) X) : wp (ev B (.and a b) ρ s) Q X := by
  rw [ev]
  refine w_bnd (w_mono h (fun x s1 q => w_bnd (w_mono q (fun k s2 q => ?_) fun _ _ z => z)) fun _ _ z => z)
  unfold Br at q
  cases k with
  | true => first | exact q | exact ⟨q⟩ | exact q.out | exact ⟨q.out⟩
  | false => first | exact q | exact ⟨q⟩ | exact q.out | exact ⟨q.out⟩
theorem w_or {a b : E} (h : wp (ev B a ρ s) (fun x s1 => wp (truK x s1) (fun k s2 => Br k (Q x s2) (wp (ev B b ρ s2) Q X)) X) X) : wp (ev B (.or a b) ρ s) Q X := by
  rw [ev]
  refine w_bnd (w_mono h (fun x s1 q => w_bnd (w_mono q (fun k s2 q => ?_) fun _ _ z => z)) fun _ _ z => z)
  unfold Br at q
  cases k with
  | true => first | exact q | exact ⟨q⟩ | exact q.out | exact ⟨q.out⟩
  | false => first | exact q | exact ⟨q⟩ | exact q.out | exact ⟨q.out⟩
theorem w_not {a : E} (h : wp (ev B a ρ s) (fun x s1 => wp (truK x s1) (fun k s2 => Q (.bl (!k)) s2) X) X) : wp (ev B (.not a) ρ s) Q X := by
  rw [ev]
  exact w_bnd (w_bnd (w_mono h (fun _ _ q => w_mono q (fun _ _ q => ⟨q⟩) fun _ _ z => z) fun _ _ z => z))
theorem w_ite {c a b : E} (h : wp (ev B c ρ s) (fun x s1 => wp (truK x s1) (fun k s2 => Br k (wp (ev B a ρ s2) Q X) (wp (ev B b ρ s2) Q X)) X) X) : wp (ev B (.ite c a b) ρ s) Q X := by
  rw [ev]
  refine w_bnd (w_bnd (w_mono h (fun x s1 q => w_mono q (fun k s2 q => ?_) fun _ _ z => z) fun _ _ z => z))
  unfold Br at q
  cases k with
  | true => first | exact q | exact ⟨q⟩ | exact q.out | exact ⟨q.out⟩
  | false => first | exact q | exact ⟨q⟩ | exact q.out | exact ⟨q.out⟩
theorem w_ix {a b : E} (h : wp (ev B a ρ s) (fun x s1 => wp (ev B b ρ s1) (fun y s2 => wp (ixK x y s2) Q X) X) X) : wp (ev B (.ix a b) ρ s) Q X := by
  rw [ev]
  exact w_bnd (w_mono h (fun x s1 q => w_bnd q) fun _ _ z => z)
theorem dget_seq {x k : D} {l : List D} (e : seqOf s x = some l) : dgetD s x k = none := by
  cases x with
  | ref n =>
    have e' : (match s[n]? with
      | some (.lst l) => some l
      | some (.ro l) => some l
      | _ => none) = some l := e
    unfold dgetD
    dsimp only
    cases q : s[n]? with
    | none => rfl
    | some o =>
      rw [q] at e'
      cases o <;> first
        | rfl
        | cases e'
  | _ => rfl
theorem dput_seq {x k v : D} {l : List D} (e : seqOf s x = some l) : dputD s x k v = none := by
  cases x with
  | ref n =>
    have e' : (match s[n]? with
      | some (.lst l) => some l
      | some (.ro l) => some l
      | _ => none) = some l := e
    unfold dputD
    dsimp only
    cases q : s[n]? with
    | none => rfl
    | some o =>
      rw [q] at e'
      cases o <;> first
        | rfl
        | cases e'
  | _ => rfl
theorem ixD_seq {x : D} {l : List D} {i : Int} (e : seqOf s x = some l) : ixD x (.int i) s = atI l i := by
  unfold ixD
  rw [dget_seq e]
  cases x with
  | str y => cases e
  | tup k => cases e; rfl
  | ref n =>
    show (seqOf s (.ref n)).bind _ = _
    rw [e]
    rfl
  | non => cases e
  | bl b => cases e
  | int j => cases e
theorem w_ixS {x d : D} {l : List D} {i : Int} (e : seqOf s x = some l) (g : atI l i = some d) (h : Q d s) : wp (ixK x (.int i) s) Q X := by
  unfold ixK
  rw [ixD_seq e, g]
  first | exact h | exact ⟨h⟩ | exact h.out | exact ⟨h.out⟩
theorem w_ixStr {x : Str} {c : Nat} {i : Int} (e : x.length ≤ most) (g : atI x.cps.toList i = some c) (h : Q (.str ⟨#[c]⟩) s) : wp (ixK (.str x) (.int i) s) Q X := by
  unfold ixK
  have e2 : ixD (.str x) (.int i) s = some (.str ⟨#[c]⟩) := by
    show ixS (.str x) (.int i) s = _
    show (if x.length ≤ most then (atI x.cps.toList i).map fun c => D.str ⟨#[c]⟩ else none) = _
    rw [if_pos e, g]
    rfl
  rw [e2]
  exact ⟨h⟩
theorem w_ixD {x k d : D} (e : dgetD s x k = some (some d)) (h : Q d s) : wp (ixK x k s) Q X := by
  unfold ixK ixD
  rw [e]
  exact ⟨h⟩
theorem w_glob {x : Str} {d : D} (e : B.gl x = some d) (h : Q d s) : wp (ev B (.glob x) ρ s) Q X := by
  rw [ev, e]
  exact ⟨h⟩
theorem w_chn {op op' : CmpOp} {a b c : E} (h : wp (ev B a ρ s) (fun x s1 => wp (ev B b ρ s1) (fun y s2 => wp (cmpB op x y s2) (fun k s3 => Br k (wp (ev B c ρ s3) (fun z s4 => wp (cmpB op' y z s4) (fun k s5 => Q (.bl k) s5) X) X) (Q (.bl false) s3)) X) X) X) : wp (ev B (.chn op op' a b c) ρ s) Q X := by
  rw [ev]
  refine w_bnd (w_mono h (fun x s1 q => w_bnd (w_mono q (fun y s2 q => w_bnd (w_mono q (fun k s3 q => ?_) fun _ _ z => z)) fun _ _ z => z)) fun _ _ z => z)
  unfold Br at q
  cases k with
  | true =>
    rw [if_pos rfl] at q ⊢
    exact w_bnd (w_mono q (fun z s4 q => w_bnd (w_mono q (fun k s5 q => ⟨q⟩) fun _ _ z => z)) fun _ _ z => z)
  | false =>
    rw [if_neg Bool.false_ne_true] at q ⊢
    exact ⟨q⟩
theorem w_sl {a : E} {lo hi : Es} (h : wp (ev B a ρ s) (fun x s1 => wp (evs B lo ρ s1) (fun l s2 => wp (partK l s2) (fun l' s3 => wp (evs B hi ρ s3) (fun u s4 => wp (partK u s4) (fun u' s5 => wp (slK x l' u' s5) Q X) X) X) X) X) X) : wp (ev B (.sl a lo hi) ρ s) Q X := by
  rw [ev]
  refine w_bnd (w_mono h (fun x s1 q => ?_) fun _ _ z => z)
  refine w_bnd (w_bnd (w_mono q (fun l s2 q => w_mono q (fun l' s3 q => ?_) fun _ _ z => z) fun _ _ z => z))
  exact w_bnd (w_bnd q)
theorem w_part0 {Qo : Option Int → Store → Prop} (h : Qo none s) : wp (partK [] s) Qo X := ⟨h⟩
theorem w_part1 {i : Int} {Qo : Option Int → Store → Prop} (h : Qo (some i) s) : wp (partK [.int i] s) Qo X := ⟨h⟩
theorem w_slS {z : Str} {l u : Option Int} (c : z.length ≤ most) (h : Q (.str (cutS z l u)) s) : wp (slK (.str z) l u s) Q X := by
  unfold slK
  dsimp only
  rw [if_pos c]
  exact ⟨h⟩
theorem w_slT {xs : List D} {l u : Option Int} (h : Q (.tup (cutD xs l u)) s) : wp (slK (.tup xs) l u s) Q X := ⟨h⟩
theorem w_slL {n : Nat} {xs : List D} {l u : Option Int} (e : lstOf s (.ref n) = some xs) (h : Q (.ref s.length) (s ++ [.lst (cutD xs l u)])) : wp (slK (.ref n) l u s) Q X := by
  unfold slK
  dsimp only
  rw [e]
  exact ⟨h⟩
theorem w_call {f : Str} {es : Es} (h : wp (evs B es ρ s) (fun ds s1 => wp (B.call f ds s1) Q X) X) : wp (ev B (.call f es) ρ s) Q X := by rw [ev]; exact w_bnd h
theorem w_callk {f : Str} {es kes : Es} {ks : List Str} (h : wp (evs B es ρ s) (fun ds s1 => wp (evs B kes ρ s1) (fun ws s2 => wp (B.callk f ks ds ws s2) Q X) X) X) : wp (ev B (.callk f es ks kes) ρ s) Q X := by
  rw [ev]
  exact w_bnd (w_mono h (fun x s1 q => w_bnd q) fun _ _ z => z)
theorem w_bi {f : Bi} {es : Es} (h : wp (evs B es ρ s) (fun ds s1 => wp (biD f ds s1) Q X) X) : wp (ev B (.bi f es) ρ s) Q X := by rw [ev]; exact w_bnd h
theorem w_len {x : D} {l : List D} (e : seqOf s x = some l) (h : Q (.int l.length) s) : wp (biD .len [x] s) Q X := by
  cases x with
  | str y => cases e
  | tup k => cases e; first | exact h | exact ⟨h⟩ | exact h.out | exact ⟨h.out⟩
  | ref n =>
    show wp (match seqOf s (.ref n) with
      | some l => Res.ok (D.int l.length) s
      | none => lenDct s (.ref n)) Q X
    rw [e]
    first | exact h | exact ⟨h⟩ | exact h.out | exact ⟨h.out⟩
  | non => cases e
  | bl b => cases e
  | int j => cases e
theorem w_lenDT {n : Nat} {l : List (List Key × D)} (e : s[n]? = some (.dt l)) (h : Q (.int l.length) s) : wp (biD .len [.ref n] s) Q X := by
  have q : biD .len [.ref n] s = .ok (.int l.length) s := by
    show (match seqOf s (.ref n) with
      | some l => Res.ok (D.int l.length) s
      | none => lenDct s (.ref n)) = _
    have e0 : seqOf s (.ref n) = none := by
      show (match s[n]? with
        | some (.lst l) => some l
        | some (.ro l) => some l
        | _ => none) = none
      rw [e]
    rw [e0]
    dsimp only [lenDct]
    rw [e]
  rw [q]
  exact ⟨h⟩
theorem w_abs {i : Int} (h : Q (.int (i.natAbs : Int)) s) : wp (biD .abs [.int i] s) Q X := by
  have e : (if i < 0 then -i else i) = (i.natAbs : Int) := by split <;> omega
  rw [← e] at h
  exact ⟨h⟩
theorem w_gcd {i j : Int} (h : Q (.int ((Nat.gcd i.natAbs j.natAbs : Nat) : Int)) s) : wp (biD .gcd [.int i, .int j] s) Q X := ⟨h⟩
theorem w_intI {i : Int} (h : Q (.int i) s) : wp (biD .int [.int i] s) Q X := ⟨h⟩
theorem w_intB {b : Bool} (h : Q (.int (if b then 1 else 0)) s) : wp (biD .int [.bl b] s) Q X := ⟨h⟩
theorem w_list {x : D} {l : List D} (e : seqOf s x = some l) (h : Q (.ref s.length) (s ++ [.lst l])) : wp (biD .list [x] s) Q X := by
  show wp (match seqOf s x with
    | some l => Res.ok (D.ref s.length) (s ++ [.lst l])
    | none => .bad) Q X
  rw [e]
  first | exact h | exact ⟨h⟩ | exact h.out | exact ⟨h.out⟩
theorem w_meth {a : E} {m : Mt} {es : Es} (h : wp (ev B a ρ s) (fun x s1 => rcvOk m s1 x = true ∧ wp (evs B es ρ s1) (fun ds s2 => wp (mtD m x ds s2) Q X) X) X) : wp (ev B (.meth a m es) ρ s) Q X := by
  rw [ev]
  refine w_bnd (w_mono h (fun x s1 ⟨k, q⟩ => ?_) fun _ _ z => z)
  refine w_bnd ?_
  show wp (if rcvOk m s1 x = true then Res.ok () s1 else .bad) _ _
  rw [if_pos k]
  exact ⟨w_bnd q⟩
theorem rcv_lst {n : Nat} {l : List D} (e : s[n]? = some (.lst l)) : isLst s (.ref n) = true := by
  unfold isLst
  dsimp only
  rw [e]
theorem rcv_dk {n : Nat} {l : List (Key × D)} (e : s[n]? = some (.dk l)) : isDct s (.ref n) = true := by
  unfold isDct
  dsimp only
  rw [e]
theorem rcv_dt {n : Nat} {l : List (List Key × D)} (e : s[n]? = some (.dt l)) : isDct s (.ref n) = true := by
  unfold isDct
  dsimp only
  rw [e]
theorem w_popK {n : Nat} {l : List D} {d : D} (e : s[n]? = some (.lst l)) (g : l[l.length - 1]? = some d) (h : Q d (s.set n (.lst l.dropLast))) : wp (mtD .pop (.ref n) [] s) Q X := by
  show wp (match s[n]? with
    | some (.lst l) => (match l[l.length - 1]? with
      | some d => Res.ok d (s.set n (.lst l.dropLast))
      | none => .bad)
    | _ => .bad) Q X
  rw [e]
  dsimp only
  rw [g]
  exact ⟨h⟩
theorem w_clearK {n : Nat} {l : List D} (e : s[n]? = some (.lst l)) (h : Q .non (s.set n (.lst []))) : wp (mtD .clear (.ref n) [] s) Q X := by
  show wp (match s[n]? with
    | some (.lst _) => Res.ok D.non (s.set n (.lst []))
    | _ => .bad) Q X
  rw [e]
  exact ⟨h⟩
theorem w_get1K {d k : D} {o : Option D} (e : dgetD s d k = some o) (h : Q (o.getD .non) s) : wp (mtD .get d [k] s) Q X := by
  have q : mtD .get d [k] s = .ok (o.getD .non) s := by
    cases d with
    | ref n =>
      show (match dgetD s (.ref n) k with
        | some o => Res.ok (o.getD D.non) s
        | none => .bad) = _
      rw [e]
    | _ => cases e
  rw [q]
  exact ⟨h⟩
theorem w_get2K {d k z : D} {o : Option D} (e : dgetD s d k = some o) (h : Q (o.getD z) s) : wp (mtD .get d [k, z] s) Q X := by
  have q : mtD .get d [k, z] s = .ok (o.getD z) s := by
    cases d with
    | ref n =>
      show (match dgetD s (.ref n) k with
        | some o => Res.ok (o.getD z) s
        | none => .bad) = _
      rw [e]
    | _ => cases e
  rw [q]
  exact ⟨h⟩
theorem w_joinK {a : Str} {d : D} {l : List D} {ys : List Str} (e : seqOf s d = some l) (g : optAll (l.map strD) = some ys) (c : (ys.map (·.length)).sum + ys.length * a.length ≤ most) (h : Q (.str (Txt.join a ys)) s) : wp (mtD .join (.str a) [d] s) Q X := by
  show wp (match (seqOf s d).bind fun l => optAll (l.map strD) with
    | some ys => if (ys.map (·.length)).sum + ys.length * a.length ≤ most then Res.ok (.str (Txt.join a ys)) s else .bad
    | none => .bad) Q X
  rw [e, Option.bind_some, g]
  dsimp only
  rw [if_pos c]
  exact ⟨h⟩
theorem w_sortL {n : Nat} {l r : List D} (e : lstOf s (.ref n) = some l) (g : sortD l = some r) (h : Q (.ref s.length) (s ++ [.lst r])) : wp (biD .sorted [.ref n] s) Q X := by
  have e' : (match s[n]? with
    | some (.lst l) => some l
    | some (.ro l) => some l
    | _ => none) = some l := e
  show wp (match s[n]? with
    | some (.dt l) => (match sortT (l.map (·.1)) with
      | some r => Res.ok (.ref s.length) (s ++ [.lst (r.map ofKs)])
      | none => .bad)
    | _ => (match (lstOf s (.ref n)).bind sortD with
      | some r => .ok (.ref s.length) (s ++ [.lst r])
      | none => .bad)) Q X
  rw [e, Option.bind_some, g]
  cases q : s[n]? with
  | none => rw [q] at e'; cases e'
  | some o =>
    rw [q] at e'
    cases o <;> first
      | exact ⟨h⟩
      | cases e'
theorem w_sortDT {n : Nat} {l : List (List Key × D)} {r : List (List Key)} (e : s[n]? = some (.dt l)) (g : sortT (l.map (·.1)) = some r) (h : Q (.ref s.length) (s ++ [.lst (r.map ofKs)])) : wp (biD .sorted [.ref n] s) Q X := by
  show wp (match s[n]? with
    | some (.dt l) => (match sortT (l.map (·.1)) with
      | some r => Res.ok (.ref s.length) (s ++ [.lst (r.map ofKs)])
      | none => .bad)
    | _ => (match (lstOf s (.ref n)).bind sortD with
      | some r => .ok (.ref s.length) (s ++ [.lst r])
      | none => .bad)) Q X
  rw [e]
  dsimp only
  rw [g]
  exact ⟨h⟩
theorem w_tupleT {l : List D} (h : Q (.tup l) s) : wp (biD .tuple [.tup l] s) Q X := ⟨h⟩
theorem w_tuple {x : D} {l : List D} (e : seqOf s x = some l) (h : Q (.tup l) s) : wp (biD .tuple [x] s) Q X := by
  cases x with
  | tup m => cases e; exact ⟨h⟩
  | ref n =>
    show wp (match lstOf s (.ref n) with
      | some l => Res.ok (.tup l) s
      | none => .bad) Q X
    rw [show lstOf s (.ref n) = some l from e]
    exact ⟨h⟩
  | _ => cases e
theorem w_isis {a : E} {ts : List Ty} (h : wp (ev B a ρ s) (fun x s1 => wp (isisK ts x s1) Q X) X) : wp (ev B (.isis a ts) ρ s) Q X := by rw [ev]; exact w_bnd h
theorem w_isisK {x : D} {ts : List Ty} {bs : List Bool} (e : optAll (ts.map fun t => tyD s t x) = some bs) (h : Q (.bl (bs.any id)) s) : wp (isisK ts x s) Q X := by
  unfold isisK
  rw [e]
  exact ⟨h⟩
theorem w_addS {x y : Str} (c : x.length + y.length ≤ most) (h : Q (.str (x ++ y)) s) : wp (binD .Add (.str x) (.str y) s) Q X := by
  show wp ((if x.length + y.length ≤ most then ret (D.str (x ++ y)) else badM) s) Q X
  rw [if_pos c]
  exact ⟨h⟩
theorem w_addT {l m : List D} (c : l.length + m.length ≤ most) (h : Q (.tup (l ++ m)) s) : wp (binD .Add (.tup l) (.tup m) s) Q X := by
  show wp ((if l.length + m.length ≤ most then ret (D.tup (l ++ m)) else badM) s) Q X
  rw [if_pos c]
  exact ⟨h⟩
theorem w_mulL {n : Nat} {l : List D} {k : Int} (e : s[n]? = some (.lst l)) (c : -(2 ^ 63) ≤ k ∧ k < 2 ^ 63 ∧ l.length * k.toNat ≤ most) (h : Q (.ref s.length) (s ++ [.lst (List.replicate k.toNat l).flatten])) : wp (binD .Mult (.ref n) (.int k) s) Q X := by
  show wp (match Operator.Mult, s[n]? with
    | .Mult, some (.lst l) => if -(2 ^ 63) ≤ k ∧ k < 2 ^ 63 ∧ l.length * k.toNat ≤ most then Res.ok (.ref s.length) (s ++ [.lst (List.replicate k.toNat l).flatten]) else .bad
    | _, _ => .bad) Q X
  rw [e]
  dsimp only
  rw [if_pos c]
  exact ⟨h⟩
theorem w_appK {n : Nat} {l : List D} {d : D} (e : s[n]? = some (.lst l)) (b : l.length ≤ most) (h : Q .non (s.set n (.lst (l ++ [d])))) : wp (mtD .append (.ref n) [d] s) Q X := by
  show wp (match s[n]? with
    | some (.lst l) => if l.length ≤ most then Res.ok D.non (s.set n (.lst (l ++ [d]))) else .bad
    | _ => .bad) Q X
  rw [e]
  dsimp only
  rw [if_pos b]
  first | exact h | exact ⟨h⟩ | exact h.out | exact ⟨h.out⟩
theorem w_isi {a : E} {t : Ty} (h : wp (ev B a ρ s) (fun x s1 => wp (isiK t x s1) Q X) X) : wp (ev B (.isi a t) ρ s) Q X := by rw [ev]; exact w_bnd h
theorem w_isiK {x : D} {t : Ty} {b : Bool} (e : tyD s t x = some b) (h : Q (.bl b) s) : wp (isiK t x s) Q X := by
  unfold isiK
  rw [e]
  first | exact h | exact ⟨h⟩ | exact h.out | exact ⟨h.out⟩
theorem w_isiK_t {x : D} {t : Ty} (e : tyD s t x = some true) (h : Q (.bl true) s) : wp (isiK t x s) Q X := w_isiK e h
theorem w_isiK_f {x : D} {t : Ty} (e : tyD s t x = some false) (h : Q (.bl false) s) : wp (isiK t x s) Q X := w_isiK e h
theorem w_exis {t : Str} {x : Exn} (e : B.exn = some x) (f : x.fs.isEmpty = true) (h : Q (.bl (B.sub x.cls t)) s) : wp (ev B (.exis t) ρ s) Q X := by
  rw [ev, e, Option.bind_some, if_pos f]
  first | exact h | exact ⟨h⟩ | exact h.out | exact ⟨h.out⟩
theorem w_exis_t {t : Str} {x : Exn} (e : B.exn = some x) (f : x.fs.isEmpty = true) (g : B.sub x.cls t = true) (h : Q (.bl true) s) : wp (ev B (.exis t) ρ s) Q X := w_exis e f (by rw [g]; exact h)
theorem w_exis_f {t : Str} {x : Exn} (e : B.exn = some x) (f : x.fs.isEmpty = true) (g : B.sub x.cls t = false) (h : Q (.bl false) s) : wp (ev B (.exis t) ρ s) Q X := w_exis e f (by rw [g]; exact h)
/-- [e for t in it if cond], by an invariant of the turns done -/
theorem w_lc {e : E} {t : T} {it : I} {cond : Es} {own : List Nat} (h : wp (evI B it ρ s) (fun w s1 => ∃ J : Nat → Store → Prop, J 0 (s1 ++ [O.lst []]) ∧ (∀ k s', J k s' → w.ok s') ∧
      (∀ k d s', w.items[k]? = some d → J k s' → ∃ ρ', asgT t d (wipeD ρ own) s' = some ρ' ∧ wp (evC B cond ρ' s') (fun b s2 => Br b (wp (ev B e ρ' s2) (fun x s3 => ∃ acc, s3[s1.length]? = some (.lst acc) ∧ acc.length ≤ most ∧ J (k + 1) (s3.set s1.length (.lst (acc ++ [x])))) fun _ _ => False) (J (k + 1) s2)) fun _ _ => False) ∧
      ∀ s', J w.items.length s' → Q (.ref s1.length) s') X) : wp (ev B (.lc e t it cond own) ρ s) Q X := by
  rw [ev]
  refine w_bnd (w_mono h (fun w s1 ⟨J, j0, ok, step, out⟩ => ?_) fun _ _ z => z)
  have go : ∀ (m k : Nat) (s' : Store), k + m = w.items.length → J k s' → ∃ s2, lcL w t (fun ρ' => evC B cond ρ') (fun ρ' => ev B e ρ') own ρ s1.length (w.items.drop k) s' = .ok () s2 ∧ J w.items.length s2 := by
    intro m
    induction m with
    | zero =>
      intro k s' e0 j
      have e0 : k = w.items.length := by omega
      subst e0
      rw [List.drop_length, lcL]
      dsimp only
      rw [if_pos (ok _ _ j)]
      exact ⟨s', rfl, j⟩
    | succ m ih =>
      intro k s' e0 j
      have hk : k < w.items.length := by omega
      rw [List.drop_eq_getElem_cons hk, lcL]
      dsimp only
      rw [if_pos (ok _ _ j)]
      obtain ⟨ρ', e1, q⟩ := step k _ s' (List.getElem?_eq_getElem hk) j
      rw [e1]
      dsimp only
      obtain ⟨b, s2, e2, q2⟩ := wp_out q
      rw [e2]
      unfold Br at q2
      cases b with
      | false =>
        rw [if_neg Bool.false_ne_true] at q2
        exact ih (k + 1) s2 (by omega) q2
      | true =>
        rw [if_pos rfl] at q2
        obtain ⟨x, s3, e3, acc, e4, le, q3⟩ := wp_out q2
        dsimp only
        rw [e3]
        dsimp only
        rw [e4]
        dsimp only
        rw [if_pos le]
        exact ih (k + 1) _ (by omega) q3
  obtain ⟨s2, e2, j2⟩ := go w.items.length 0 _ (by omega) j0
  have e3 : lcL w t (fun ρ' => evC B cond ρ') (fun ρ' => ev B e ρ') own ρ s1.length w.items (s1 ++ [.lst []]) = .ok () s2 := e2
  unfold lcK
  rw [e3]
  exact ⟨out s2 j2⟩
/-! ### statements -/
variable {N Bk Ct : Env → Store → Prop} {R : D → Store → Prop} {Y : Exn → Env → Store → Prop}
theorem f_nil (h : N ρ s) : wf (exSs B (Ss.of []) ρ s) N R Bk Ct Y := by
  show wf (exSs B .nil ρ s) N R Bk Ct Y
  rw [exSs]
  first | exact h | exact ⟨h⟩ | exact h.out | exact ⟨h.out⟩
theorem f_cons {a : S} {r : List S} (h : wf (exS B a ρ s) (fun ρ1 s1 => wf (exSs B (Ss.of r) ρ1 s1) N R Bk Ct Y) R Bk Ct Y) : wf (exSs B (Ss.of (a :: r)) ρ s) N R Bk Ct Y := by
  show wf (exSs B (.cons a (Ss.of r)) ρ s) N R Bk Ct Y
  rw [exSs]
  cases e : exS B a ρ s with
  | nx ρ1 s1 => rw [e] at h; first | exact h | exact ⟨h⟩ | exact h.out | exact ⟨h.out⟩
  | rt d s1 => rw [e] at h; first | exact h | exact ⟨h⟩ | exact h.out | exact ⟨h.out⟩
  | bk ρ1 s1 => rw [e] at h; first | exact h | exact ⟨h⟩ | exact h.out | exact ⟨h.out⟩
  | ct ρ1 s1 => rw [e] at h; first | exact h | exact ⟨h⟩ | exact h.out | exact ⟨h.out⟩
  | ex x ρ1 s1 => rw [e] at h; first | exact h | exact ⟨h⟩ | exact h.out | exact ⟨h.out⟩
  | bad => rw [e] at h; first | exact h | exact ⟨h⟩ | exact h.out | exact ⟨h.out⟩
theorem f_fin {α : Type} {r : Res α} {k : α → Store → Fl} (h : wp r (fun a s1 => wf (k a s1) N R Bk Ct Y) fun x s1 => Y x ρ s1) : wf (fin ρ r k) N R Bk Ct Y := by
  cases r with
  | ok a s => first | exact h | exact ⟨h⟩ | exact h.out | exact ⟨h.out⟩
  | ex x s => first | exact h | exact ⟨h⟩ | exact h.out | exact ⟨h.out⟩
  | bad => first | exact h | exact ⟨h⟩ | exact h.out | exact ⟨h.out⟩
theorem f_asg {i : Nat} {e : E} (h : wp (ev B e ρ s) (fun d s1 => N (ρ.set i (some d)) s1) fun x s1 => Y x ρ s1) : wf (exS B (.asg (.name i) e) ρ s) N R Bk Ct Y := by
  rw [exS]
  exact f_fin (w_mono h (fun _ _ q => ⟨q⟩) fun _ _ z => z)
/-- .. to a tuple of targets -/
theorem f_asgT {t : T} {e : E} (h : wp (ev B e ρ s) (fun d s1 => ∃ ρ', asgT t d ρ s1 = some ρ' ∧ N ρ' s1) fun x s1 => Y x ρ s1) : wf (exS B (.asg t e) ρ s) N R Bk Ct Y := by
  rw [exS]
  refine f_fin (w_mono h (fun d s1 ⟨ρ', e1, q⟩ => ?_) fun _ _ z => z)
  rw [e1]
  exact ⟨q⟩
theorem f_augA {i : Nat} {e : E} {a : Int} (e0 : ρ[i]? = some (some (.int a))) (h : wp (ev B e ρ s) (fun d s1 => ∃ b, d = .int b ∧ N (ρ.set i (some (.int (a + b)))) s1) fun x s1 => Y x ρ s1) : wf (exS B (.aug i .Add e) ρ s) N R Bk Ct Y := by
  rw [exS, e0]
  dsimp only
  refine f_fin (w_mono h (fun d s1 ⟨b, e1, q⟩ => ?_) fun _ _ z => z)
  subst e1
  exact ⟨q⟩
theorem f_expr {e : E} (h : wp (ev B e ρ s) (fun d s1 => N ρ s1) fun x s1 => Y x ρ s1) : wf (exS B (.expr e) ρ s) N R Bk Ct Y := by
  rw [exS]
  exact f_fin (w_mono h (fun _ _ q => ⟨q⟩) fun _ _ z => z)
theorem f_ret {e : E} (h : wp (ev B e ρ s) R fun x s1 => Y x ρ s1) : wf (exS B (.ret e) ρ s) N R Bk Ct Y := by
  rw [exS]
  exact f_fin (w_mono h (fun _ _ q => ⟨q⟩) fun _ _ z => z)
theorem f_retN (h : R .non s) : wf (exS B .retN ρ s) N R Bk Ct Y := by
  rw [exS]
  first | exact h | exact ⟨h⟩ | exact h.out | exact ⟨h.out⟩
theorem f_ife {c : E} {a b : Ss} (h : wp (ev B c ρ s) (fun x s1 => wp (truK x s1) (fun k s2 => Br k (wf (exSs B a ρ s2) N R Bk Ct Y) (wf (exSs B b ρ s2) N R Bk Ct Y)) fun x s2 => Y x ρ s2) fun x s1 => Y x ρ s1) : wf (exS B (.ife c a b) ρ s) N R Bk Ct Y := by
  rw [exS]
  refine f_fin (w_bnd (w_mono h (fun x s1 q => w_mono q (fun k s2 q => ?_) fun _ _ z => z) fun _ _ z => z))
  unfold Br at q
  cases k with
  | true => first | exact q | exact ⟨q⟩ | exact q.out | exact ⟨q.out⟩
  | false => first | exact q | exact ⟨q⟩ | exact q.out | exact ⟨q.out⟩
theorem f_brk (h : Bk ρ s) : wf (exS B .brk ρ s) N R Bk Ct Y := by rw [exS]; first | exact h | exact ⟨h⟩ | exact h.out | exact ⟨h.out⟩
theorem f_cnt (h : Ct ρ s) : wf (exS B .cnt ρ s) N R Bk Ct Y := by rw [exS]; first | exact h | exact ⟨h⟩ | exact h.out | exact ⟨h.out⟩
theorem f_pass (h : N ρ s) : wf (exS B .pass ρ s) N R Bk Ct Y := by rw [exS]; first | exact h | exact ⟨h⟩ | exact h.out | exact ⟨h.out⟩
theorem f_raise {c : Str} (h : Y ⟨c, []⟩ ρ s) : wf (exS B (.raise c .nil) ρ s) N R Bk Ct Y := by rw [exS]; first | exact h | exact ⟨h⟩ | exact h.out | exact ⟨h.out⟩
theorem f_setiG {o i e : E} (h : wp (ev B e ρ s) (fun d s1 => wp (ev B o ρ s1) (fun x s2 => wp (ev B i ρ s2) (fun y s3 => wf (setiK d x y ρ s3) N R Bk Ct Y) fun x s1 => Y x ρ s1) fun x s1 => Y x ρ s1) fun x s1 => Y x ρ s1) :
    wf (exS B (.seti o i e) ρ s) N R Bk Ct Y := by
  rw [exS]
  exact f_fin (w_mono h (fun d s1 q => f_fin (w_mono q (fun x s2 q => f_fin q) fun _ _ z => z)) fun _ _ z => z)
theorem f_setD {d x y : D} {s' : Store} (e : dputD s x y d = some s') (h : N ρ s') : wf (setiK d x y ρ s) N R Bk Ct Y := by
  unfold setiK
  rw [e]
  exact ⟨h⟩
theorem f_setL {d : D} {n : Nat} {k : Int} {l : List D} {j : Nat} (e : s[n]? = some (.lst l)) (g : ixN l.length k = some j) (h : N ρ (s.set n (.lst (l.set j d)))) : wf (setiK d (.ref n) (.int k) ρ s) N R Bk Ct Y := by
  unfold setiK
  have e0 : seqOf s (.ref n) = some l := by
    show (match s[n]? with
      | some (.lst l) => some l
      | some (.ro l) => some l
      | _ => none) = some l
    rw [e]
  rw [dput_seq e0]
  dsimp only
  rw [e]
  dsimp only
  rw [g]
  exact ⟨h⟩
/-- a for, by an invariant of the turns done -/
theorem f_forT {t : T} {it : I} {b : Ss} (h : wp (evI B it ρ s) (fun w s1 => ∃ J : Nat → Env → Store → Prop, J 0 ρ s1 ∧ (∀ k ρ s, J k ρ s → w.ok s) ∧
      (∀ k d ρ s, w.items[k]? = some d → J k ρ s → ∃ ρ', asgT t d ρ s = some ρ' ∧ wf (exSs B b ρ' s) (J (k + 1)) R N (J (k + 1)) Y) ∧ ∀ ρ s, J w.items.length ρ s → N ρ s) fun x s1 => Y x ρ s1) : wf (exS B (.for t it b) ρ s) N R Bk Ct Y := by
  rw [exS]
  refine f_fin (w_mono h (fun w s1 ⟨J, j0, ok, step, out⟩ => ?_) fun _ _ z => z)
  have go : ∀ (m k : Nat) (ρ : Env) (s : Store), k + m = w.items.length → J k ρ s → wf (forL w t (fun ρ' s' => exSs B b ρ' s') (w.items.drop k) ρ s) N R Bk Ct Y := by
    intro m
    induction m with
    | zero =>
      intro k ρ s e j
      have e : k = w.items.length := by omega
      subst e
      rw [List.drop_length, forL, if_pos (ok _ _ _ j)]
      exact ⟨out ρ s j⟩
    | succ m ih =>
      intro k ρ s e j
      have hk : k < w.items.length := by omega
      have hd : w.items[k]? = some w.items[k] := List.getElem?_eq_getElem hk
      rw [List.drop_eq_getElem_cons hk, forL, if_pos (ok _ _ _ j)]
      obtain ⟨ρ2, e3, q⟩ := step k _ ρ s hd j
      rw [e3]
      show wf (match exSs B b ρ2 s with
        | .nx ρ1 s1 => forL w t (fun ρ' s' => exSs B b ρ' s') (w.items.drop (k + 1)) ρ1 s1
        | .ct ρ1 s1 => forL w t (fun ρ' s' => exSs B b ρ' s') (w.items.drop (k + 1)) ρ1 s1
        | .bk ρ1 s1 => .nx ρ1 s1
        | .rt d s1 => .rt d s1
        | .ex x ρ1 s1 => .ex x ρ1 s1
        | .bad => .bad) N R Bk Ct Y
      cases e2 : exSs B b ρ2 s with
      | nx ρ1 s1 => rw [e2] at q; exact ih (k + 1) ρ1 s1 (by omega) q.out
      | ct ρ1 s1 => rw [e2] at q; exact ih (k + 1) ρ1 s1 (by omega) q.out
      | bk ρ1 s1 => rw [e2] at q; first | exact q | exact ⟨q⟩ | exact q.out | exact ⟨q.out⟩
      | rt d s1 => rw [e2] at q; first | exact q | exact ⟨q⟩ | exact q.out | exact ⟨q.out⟩
      | ex x ρ1 s1 => rw [e2] at q; first | exact q | exact ⟨q⟩ | exact q.out | exact ⟨q.out⟩
      | bad => rw [e2] at q; first | exact q | exact ⟨q⟩ | exact q.out | exact ⟨q.out⟩
  exact go w.items.length 0 ρ s1 (by omega) j0
theorem f_for {i : Nat} {it : I} {b : Ss} (h : wp (evI B it ρ s) (fun w s1 => ∃ J : Nat → Env → Store → Prop, J 0 ρ s1 ∧ (∀ k ρ s, J k ρ s → w.ok s) ∧
      (∀ k d ρ s, w.items[k]? = some d → J k ρ s → wf (exSs B b (ρ.set i (some d)) s) (J (k + 1)) R N (J (k + 1)) Y) ∧ ∀ ρ s, J w.items.length ρ s → N ρ s) fun x s1 => Y x ρ s1) : wf (exS B (.for (.name i) it b) ρ s) N R Bk Ct Y :=
  f_forT (w_mono h (fun w s1 ⟨J, j0, ok, step, out⟩ => ⟨J, j0, ok, fun k d ρ s hd hj => ⟨_, by rw [asgT], step k d ρ s hd hj⟩, out⟩) fun _ _ z => z)
theorem w_iseq {e : E} {Qw : Walk → Store → Prop} (h : wp (ev B e ρ s) (fun x s1 => wp (seqK x s1) Qw X) X) : wp (evI B (.seq e) ρ s) Qw X := by rw [evI]; exact w_bnd h
theorem w_seqT {l : List D} {Qw : Walk → Store → Prop} (h : Qw ⟨l, []⟩ s) : wp (seqK (.tup l) s) Qw X := ⟨h⟩
theorem w_seqS {x : Str} {Qw : Walk → Store → Prop} (h : Qw ⟨x.cps.toList.map fun c => D.str ⟨#[c]⟩, []⟩ s) : wp (seqK (.str x) s) Qw X := ⟨h⟩
theorem w_seqL {n : Nat} {l : List D} {Qw : Walk → Store → Prop} (e : lstOf s (.ref n) = some l) (h : Qw ⟨l, [(n, l)]⟩ s) : wp (seqK (.ref n) s) Qw X := by
  show wp (ofO ((lstOf s (.ref n)).map fun l => ⟨l, [(n, l)]⟩) s) Qw X
  rw [e]
  first | exact h | exact ⟨h⟩ | exact h.out | exact ⟨h.out⟩
theorem w_irng {e : E} {Qw : Walk → Store → Prop} (h : wp (ev B e ρ s) (fun x s1 => wp (rng1K x s1) Qw X) X) : wp (evI B (.rng1 e) ρ s) Qw X := by rw [evI]; exact w_bnd h
theorem w_rng1 {j : Int} {Qw : Walk → Store → Prop} (a : -(2 ^ 62) ≤ j ∧ j < 2 ^ 62) (h : Qw ⟨(List.range j.toNat).map fun k => D.int (k : Nat), []⟩ s) : wp (rng1K (.int j) s) Qw X := by
  show wp (ofO (rngD 0 j) s) Qw X
  unfold rngD
  rw [if_pos ⟨by decide, by decide, a.1, a.2⟩]
  have e : ((List.range (j - 0).toNat).map fun k => D.int ((0 : Int) + (k : Nat))) = (List.range j.toNat).map fun k => D.int (k : Nat) := by
    rw [Int.sub_zero]
    congr
    funext k
    rw [Int.zero_add]
  rw [e]
  first | exact h | exact ⟨h⟩ | exact h.out | exact ⟨h.out⟩
/-- for i in range(e) -/
theorem f_rng {i : Nat} {e : E} {b : Ss} (h : wp (ev B e ρ s) (fun x s1 => ∃ (n : Int) (J : Nat → Env → Store → Prop), x = .int n ∧ (-(2 ^ 62) ≤ n ∧ n < 2 ^ 62) ∧ J 0 ρ s1 ∧
      (∀ (k : Nat) ρ s, (k : Int) < n → J k ρ s → wf (exSs B b (ρ.set i (some (.int k))) s) (J (k + 1)) R N (J (k + 1)) Y) ∧ ∀ ρ s, J n.toNat ρ s → N ρ s) fun x s1 => Y x ρ s1) : wf (exS B (.for (.name i) (.rng1 e) b) ρ s) N R Bk Ct Y := by
  refine f_for (w_irng (w_mono h ?_ fun _ _ z => z))
  rintro x s1 ⟨n, J, rfl, bd, j0, step, out⟩
  refine w_rng1 bd ⟨J, j0, fun _ _ _ _ p hp => absurd hp (List.not_mem_nil), fun k d ρ s hd hj => ?_, fun ρ s hj => out ρ s ?_⟩
  · rw [List.getElem?_map] at hd
    cases q : (List.range n.toNat)[k]? with
    | none => rw [q] at hd; cases hd
    | some m =>
      rw [q] at hd
      cases hd
      obtain ⟨hk, e2⟩ := List.getElem?_eq_some_iff.mp q
      rw [List.getElem_range] at e2
      subst e2
      rw [List.length_range] at hk
      exact step k ρ s (by omega) hj
  · rw [List.length_map, List.length_range] at hj
    exact hj
/-- for x in a list that stays, a tuple -/
theorem f_seq {i : Nat} {e : E} {b : Ss} (h : wp (ev B e ρ s) (fun x s1 => ∃ (l : List D) (J : Nat → Env → Store → Prop), seqOf s1 x = some l ∧ J 0 ρ s1 ∧ (∀ k ρ s, J k ρ s → seqOf s x = some l) ∧
      (∀ (k : Nat) d ρ s, l[k]? = some d → J k ρ s → wf (exSs B b (ρ.set i (some d)) s) (J (k + 1)) R N (J (k + 1)) Y) ∧ ∀ ρ s, J l.length ρ s → N ρ s) fun x s1 => Y x ρ s1) : wf (exS B (.for (.name i) (.seq e) b) ρ s) N R Bk Ct Y := by
  refine f_for (w_iseq (w_mono h ?_ fun _ _ z => z))
  rintro x s1 ⟨l, J, e, j0, keep, step, out⟩
  cases x with
  | tup t =>
    cases e
    exact w_seqT ⟨J, j0, fun _ _ _ _ p hp => absurd hp (List.not_mem_nil), step, out⟩
  | ref n =>
    have e : lstOf s1 (.ref n) = some l := e
    refine w_seqL e ⟨J, j0, fun k ρ s hj p hp => ?_, step, out⟩
    have ep : p = (n, l) := by simpa using hp
    subst ep
    exact keep k ρ s hj
  | non => cases e
  | bl _ => cases e
  | int _ => cases e
  | str _ => cases e
/-- a try with one except -/
theorem f_try {b su : Ss} {x : Str} {i : Option Nat} (h : wf (exSs B b ρ s) N R Bk Ct (fun e ρ1 s1 => Br (B.sub e.cls x) (wf (exSs { B with exn := some e } su (hideE i ρ1) s1) (fun ρ s => N (hideE i ρ) s) R (fun ρ s => Bk (hideE i ρ) s) (fun ρ s => Ct (hideE i ρ) s) fun _ _ _ => False) (Y e ρ1 s1))) :
    wf (exS B (.try b x i su) ρ s) N R Bk Ct Y := by
  rw [exS]
  cases q : exSs B b ρ s with
  | nx ρ1 s1 => rw [q] at h; first | exact h | exact ⟨h⟩ | exact h.out | exact ⟨h.out⟩
  | rt d s1 => rw [q] at h; first | exact h | exact ⟨h⟩ | exact h.out | exact ⟨h.out⟩
  | bk ρ1 s1 => rw [q] at h; first | exact h | exact ⟨h⟩ | exact h.out | exact ⟨h.out⟩
  | ct ρ1 s1 => rw [q] at h; first | exact h | exact ⟨h⟩ | exact h.out | exact ⟨h.out⟩
  | bad => rw [q] at h; first | exact h | exact ⟨h⟩ | exact h.out | exact ⟨h.out⟩
  | ex e ρ1 s1 =>
    rw [q] at h
    dsimp only
    have h1 : Br (B.sub e.cls x) _ _ := h.out
    cases k : B.sub e.cls x with
    | true =>
      rw [k] at h1
      have h2 : wf _ _ _ _ _ _ := h1
      rw [if_pos rfl]
      cases z : exSs { B with exn := some e } su (hideE i ρ1) s1 with
      | nx ρ2 s2 => rw [z] at h2; exact ⟨h2.out⟩
      | rt d s2 => rw [z] at h2; exact ⟨h2.out⟩
      | bk ρ2 s2 => rw [z] at h2; exact ⟨h2.out⟩
      | ct ρ2 s2 => rw [z] at h2; exact ⟨h2.out⟩
      | ex e2 ρ2 s2 => rw [z] at h2; exact h2.out.elim
      | bad => rw [z] at h2; exact ⟨h2.out⟩
    | false =>
      rw [k] at h1
      rw [if_neg Bool.false_ne_true]
      unfold Br at h1
      rw [if_neg Bool.false_ne_true] at h1
      exact ⟨h1⟩
theorem f_mono {r : Fl} {N' : Env → Store → Prop} (h : wf r N' R Bk Ct Y) (n : ∀ ρ s, N' ρ s → N ρ s) : wf r N R Bk Ct Y := by
  cases r with
  | nx ρ s => exact ⟨n ρ s h.out⟩
  | rt d s => exact ⟨h.out⟩
  | bk ρ s => exact ⟨h.out⟩
  | ct ρ s => exact ⟨h.out⟩
  | ex x ρ s => exact ⟨h.out⟩
  | bad => exact h.out.elim
/-! ### defs -/
theorem w_run {T : List DefI} {k : Nat} {d : DefI} {ds : List D} (l : ds.length = d.ps.length) (h : wf (exSs (tb T k) d.ir (startD d.N.length ds) s) (fun _ s1 => Q .non s1) Q (fun _ _ => False) (fun _ _ => False) fun x _ s1 => X x s1) : wp (runD T (k + 1) d ds s) Q X := by
  rw [runD_succ]
  unfold runFd
  rw [if_pos l]
  dsimp only
  cases e : exSs (tb T k) d.ir (startD d.N.length ds) s with
  | nx ρ1 s1 => rw [e] at h; first | exact h | exact ⟨h⟩ | exact h.out | exact ⟨h.out⟩
  | rt d s1 => rw [e] at h; first | exact h | exact ⟨h⟩ | exact h.out | exact ⟨h.out⟩
  | bk ρ1 s1 => rw [e] at h; exact h.out.elim
  | ct ρ1 s1 => rw [e] at h; exact h.out.elim
  | ex x ρ1 s1 => rw [e] at h; first | exact h | exact ⟨h⟩ | exact h.out | exact ⟨h.out⟩
  | bad => rw [e] at h; exact h.out.elim
theorem w_tbc {T : List DefI} {k : Nat} {d : DefI} {f : Str} {ds : List D} (e : T.find? (fun (e : DefI) => e.name == f) = some d) (h : wp (runD T k d (d.fill ds) s) Q X) : wp ((tb T k).call f ds s) Q X := by
  show wp ((match T.find? (fun (e : DefI) => e.name == f) with
    | some e => runD T k e (e.fill ds)
    | none => badM) s) Q X
  rw [e]
  first | exact h | exact ⟨h⟩ | exact h.out | exact ⟨h.out⟩
theorem w_tbk {T : List DefI} {k : Nat} {d : DefI} {f : Str} {ks : List Str} {ds ws : List D} (e : T.find? (fun (e : DefI) => e.name == f) = some d) (h : wp (runD T k d (kwAll d.ps d.lo ks ds d.dfl ws) s) Q X) : wp ((tb T k).callk f ks ds ws s) Q X := by
  show wp ((match T.find? (fun (e : DefI) => e.name == f) with
    | some e => runD T k e (kwAll e.ps e.lo ks ds e.dfl ws)
    | none => badM) s) Q X
  rw [e]
  first | exact h | exact ⟨h⟩ | exact h.out | exact ⟨h.out⟩
end
/-! ### dicts -/
theorem dget_dk {s : Store} {n : Nat} {l : List (Key × D)} {d : D} {k : Key} (e : s[n]? = some (.dk l)) (g : keyD d = some k) : dgetD s (.ref n) d = some (valD l k) := by
  unfold dgetD
  dsimp only
  rw [e]
  dsimp only
  rw [g]
  rfl
theorem dget_dt {s : Store} {n : Nat} {l : List (List Key × D)} {t : List D} {k : List Key} (e : s[n]? = some (.dt l)) (c : conT t = false) (g : keysD t = some k) : dgetD s (.ref n) (.tup t) = some (valD l k) := by
  unfold dgetD
  dsimp only
  rw [e]
  dsimp only
  rw [c, if_neg Bool.false_ne_true, g]
  rfl
theorem dput_dk {s : Store} {n : Nat} {l : List (Key × D)} {d v : D} {k : Key} (e : s[n]? = some (.dk l)) (g : keyD d = some k) (b : l.length < most) : dputD s (.ref n) d v = some (s.set n (.dk (putD l k v))) := by
  unfold dputD
  dsimp only
  rw [e]
  dsimp only
  rw [g, Option.bind_some, if_pos b]
theorem dput_dt {s : Store} {n : Nat} {l : List (List Key × D)} {t : List D} {v : D} {k : List Key} (e : s[n]? = some (.dt l)) (c : conT t = false) (g : keysD t = some k) (b : l.length < most) : dputD s (.ref n) (.tup t) v = some (s.set n (.dt (putD l k v))) := by
  unfold dputD
  dsimp only
  rw [e]
  dsimp only
  rw [c, if_neg Bool.false_ne_true, g, Option.bind_some, if_pos b]
theorem valD_put {κ : Type} [DecidableEq κ] (l : List (κ × D)) (k j : κ) (y : D) : valD (putD l k y) j = if j = k then some y else valD l j := by
  have rep : ∀ l : List (κ × D), valD (l.map fun p => if p.1 = k then (p.1, y) else p) j = (valD l j).map fun x => if j = k then y else x := by
    intro l
    induction l with
    | nil => rfl
    | cons p r ih =>
      rw [List.map_cons]
      by_cases e : p.1 = j
      · have e1 : valD (p :: r) j = some p.2 := by simp [valD, List.find?_cons, e]
        have e2 : valD ((if p.1 = k then (p.1, y) else p) :: (r.map fun p => if p.1 = k then (p.1, y) else p)) j = some (if j = k then y else p.2) := by
          by_cases c : p.1 = k
          · rw [if_pos c]
            have : j = k := e ▸ c
            simp [valD, List.find?_cons, e, this]
          · rw [if_neg c]
            have : ¬ j = k := fun z => c (e.trans z)
            simp [valD, List.find?_cons, e, this]
        rw [e1, e2]
        rfl
      · have e1 : valD (p :: r) j = valD r j := by simp [valD, List.find?_cons, e]
        have e2 : valD ((if p.1 = k then (p.1, y) else p) :: (r.map fun p => if p.1 = k then (p.1, y) else p)) j = valD (r.map fun p => if p.1 = k then (p.1, y) else p) j := by
          by_cases c : p.1 = k
          · rw [if_pos c]
            simp [valD, List.find?_cons, e]
          · rw [if_neg c]
            simp [valD, List.find?_cons, e]
        rw [e1, e2, ih]
  have any : ∀ l : List (κ × D), (l.any fun p => decide (p.1 = k)) = (valD l k).isSome := by
    intro l
    induction l with
    | nil => rfl
    | cons p r ih =>
      rw [List.any_cons, ih]
      by_cases e : p.1 = k
      · simp [valD, List.find?_cons, e]
      · simp [valD, List.find?_cons, e]
  have app : ∀ l : List (κ × D), valD (l ++ [(k, y)]) j = match valD l j with
      | some x => some x
      | none => if j = k then some y else none := by
    intro l
    induction l with
    | nil =>
      by_cases e : j = k
      · simp [valD, e]
      · have : ¬ k = j := fun z => e z.symm
        simp [valD, e, this]
    | cons p r ih =>
      by_cases e : p.1 = j
      · simp [valD, List.find?_cons, e]
      · have e1 : valD (p :: r) j = valD r j := by simp [valD, List.find?_cons, e]
        have e2 : valD ((p :: r) ++ [(k, y)]) j = valD (r ++ [(k, y)]) j := by simp [valD, List.find?_cons, e]
        rw [e1, e2, ih]
  unfold putD
  rw [any]
  cases q : valD l k with
  | some x =>
    rw [Option.isSome_some, if_pos rfl, rep]
    by_cases e : j = k
    · rw [if_pos e, e, q]
      simp
    · rw [if_neg e]
      cases valD l j <;> simp [e]
  | none =>
    rw [Option.isSome_none, if_neg Bool.false_ne_true, app]
    by_cases e : j = k
    · rw [if_pos e, e, q]
      simp
    · rw [if_neg e]
      cases valD l j <;> simp [e]
theorem valD_mem {κ : Type} [DecidableEq κ] {l : List (κ × D)} {k : κ} {x : D} (h : valD l k = some x) : (k, x) ∈ l := by
  unfold valD at h
  cases q : l.find? fun p => decide (p.1 = k) with
  | none => rw [q] at h; cases h
  | some p =>
    rw [q] at h
    cases h
    have e := List.find?_some q
    have m := List.mem_of_find?_eq_some q
    rw [← of_decide_eq_true e]
    exact m
theorem putD_keys {κ : Type} [DecidableEq κ] (l : List (κ × D)) (k : κ) (v : D) : (putD l k v).map (·.1) = if k ∈ l.map (·.1) then l.map (·.1) else l.map (·.1) ++ [k] := by
  have any : (l.any fun p => decide (p.1 = k)) = decide (k ∈ l.map (·.1)) := by
    induction l with
    | nil => rfl
    | cons p r ih =>
      rw [List.any_cons, ih, List.map_cons]
      by_cases e : p.1 = k
      · simp [e]
      · have : ¬ k = p.1 := fun z => e z.symm
        simp [e, this]
  unfold putD
  rw [any]
  by_cases h : k ∈ l.map (·.1)
  · rw [decide_eq_true h, if_pos rfl, if_pos h, List.map_map]
    refine List.map_congr_left fun p _ => ?_
    show (if p.1 = k then (p.1, v) else p).1 = p.1
    split <;> rfl
  · rw [decide_eq_false h, if_neg Bool.false_ne_true, if_neg h, List.map_append]
    rfl
theorem putD_len {κ : Type} [DecidableEq κ] (l : List (κ × D)) (k : κ) (v : D) : (putD l k v).length ≤ l.length + 1 := by
  have := congrArg List.length (putD_keys l k v)
  rw [List.length_map] at this
  rw [this]
  split <;> simp
theorem keysD_ofK : ∀ k : List Key, keysD (k.map ofK) = some k
  | [] => rfl
  | x :: k => by
    have ih := keysD_ofK k
    unfold keysD at ih ⊢
    rw [List.map_cons, List.map_cons]
    unfold optAll
    rw [ih]
    cases x <;> rfl
/-! ### stores that grow -/
theorem atI_lt {α : Type} {l : List α} {i : Int} (h0 : 0 ≤ i) (h : i < l.length) : ∃ a ∈ l, atI l i = some a := by
  have hn : i.toNat < l.length := by omega
  refine ⟨l[i.toNat], List.getElem_mem hn, ?_⟩
  unfold atI ixN
  rw [if_pos h0, if_pos h, Option.bind_some, List.getElem?_eq_getElem hn]
theorem atI_nat {α : Type} {l : List α} {n : Nat} {a : α} (h : l[n]? = some a) : atI l (n : Int) = some a := by
  have hn := (List.getElem?_eq_some_iff.mp h).1
  unfold atI ixN
  rw [if_pos (Int.natCast_nonneg n), if_pos (by omega), Option.bind_some, Int.toNat_natCast, h]
theorem fmod_bd {a b : Int} (h : 0 < b) : 0 ≤ a.fmod b ∧ a.fmod b < b := ⟨Int.fmod_nonneg_of_pos a h, Int.fmod_lt_of_pos a h⟩
def Ext (s s' : Store) : Prop := ∃ t, s' = s ++ t
theorem Ext.refl (s : Store) : Ext s s := ⟨[], by simp⟩
theorem Ext.trans {s s1 s2 : Store} (a : Ext s s1) (b : Ext s1 s2) : Ext s s2 := by
  obtain ⟨t, rfl⟩ := a
  obtain ⟨u, rfl⟩ := b
  exact ⟨t ++ u, by rw [List.append_assoc]⟩
theorem Ext.app (s t : Store) : Ext s (s ++ t) := ⟨t, rfl⟩
theorem Ext.get {s s1 : Store} (a : Ext s s1) {n : Nat} {o : O} (h : s[n]? = some o) : s1[n]? = some o := by
  obtain ⟨t, rfl⟩ := a
  rw [List.getElem?_append_left (List.getElem?_eq_some_iff.mp h).1]
  exact h
theorem Ext.lst {s s1 : Store} (a : Ext s s1) {d : D} {l : List D} (h : lstOf s d = some l) : lstOf s1 d = some l := by
  cases d with
  | ref n =>
    have h' : (match s[n]? with
      | some (.lst l) => some l
      | some (.ro l) => some l
      | _ => none) = some l := h
    show (match s1[n]? with
      | some (.lst l) => some l
      | some (.ro l) => some l
      | _ => none) = some l
    cases e : s[n]? with
    | none => rw [e] at h'; cases h'
    | some o =>
      rw [a.get e]
      rw [e] at h'
      exact h'
  | _ => cases h
theorem Ext.seq {s s1 : Store} (a : Ext s s1) {d : D} {l : List D} (h : seqOf s d = some l) : seqOf s1 d = some l := by
  cases d with
  | tup k => exact h
  | ref n =>
    have h' : lstOf s (.ref n) = some l := h
    have g := a.lst h'
    exact g
  | _ => cases h
theorem Ext.set {s s1 : Store} {n : Nat} {o : O} (a : Ext s s1) (h : s.length ≤ n) : Ext s (s1.set n o) := by
  obtain ⟨t, rfl⟩ := a
  exact ⟨t.set (n - s.length) o, by rw [List.set_append_right _ _ h]⟩
theorem Ext.len {s s1 : Store} (a : Ext s s1) : s.length ≤ s1.length := by
  obtain ⟨t, rfl⟩ := a
  simp
theorem get_new (s : Store) (o : O) : (s ++ [o])[s.length]? = some o := by simp
theorem lst_new (s : Store) (l : List D) : lstOf (s ++ [.lst l]) (.ref s.length) = some l := by
  show (match (s ++ [O.lst l])[s.length]? with
    | some (.lst l) => some l
    | some (.ro l) => some l
    | _ => none) = some l
  rw [get_new]
theorem lst_at {s : Store} {n : Nat} {l : List D} (h : s[n]? = some (.lst l)) : lstOf s (.ref n) = some l := by
  show (match s[n]? with
    | some (.lst l) => some l
    | some (.ro l) => some l
    | _ => none) = some l
  rw [h]
end RI
set_option maxRecDepth 100000
set_option maxHeartbeats 4000000
set_option exponentiation.threshold 10000
/-! RQ: what proofs share: numbers, stores, values as lists and tuples, comprehensions. -/
namespace RI
open PySem L2
variable [Xs]
/-! ### numbers -/
/-- at most n bits -/
def Bd (n : Nat) (x : Int) : Prop := x.natAbs < 2 ^ n
theorem Bd.mono {n m : Nat} {x : Int} (h : Bd n x) (l : n ≤ m) : Bd m x := Nat.lt_of_lt_of_le h (Nat.pow_le_pow_right (by omega) l)
theorem Bd.fits {n : Nat} {x : Int} (h : Bd n x) (l : n ≤ 8000) : fits x := h.mono l
theorem Bd.mul {n m : Nat} {x y : Int} (a : Bd n x) (b : Bd m y) : Bd (n + m) (x * y) := by
  unfold Bd at *
  rw [Int.natAbs_mul, Nat.pow_add]
  exact Nat.mul_lt_mul'' a b
theorem Bd.add {n : Nat} {x y : Int} (a : Bd n x) (b : Bd n y) : Bd (n + 1) (x + y) := by
  unfold Bd at *
  have h : (x + y).natAbs ≤ x.natAbs + y.natAbs := Int.natAbs_add_le x y
  rw [Nat.pow_succ]
  omega
theorem Bd.neg {n : Nat} {x : Int} (a : Bd n x) : Bd n (-x) := by
  unfold Bd at *
  rw [Int.natAbs_neg]
  exact a
theorem Bd.sub {n : Nat} {x y : Int} (a : Bd n x) (b : Bd n y) : Bd (n + 1) (x - y) := by
  rw [Int.sub_eq_add_neg]
  exact a.add b.neg
theorem Bd.le {n : Nat} {x y : Int} (a : Bd n x) (h : y.natAbs ≤ x.natAbs) : Bd n y := Nat.lt_of_le_of_lt h a
theorem Bd.lit {n : Nat} {x : Int} (h : decide (x.natAbs < 2 ^ n) = true) : Bd n x := by
  unfold Bd
  exact of_decide_eq_true h
/-- top and bottom over their greatest common divisor, the bottom above zero -/
def nrmD (t b : Int) : Int := if b < 0 then -((Nat.gcd t.natAbs b.natAbs : Nat) : Int) else ((Nat.gcd t.natAbs b.natAbs : Nat) : Int)
def nrmP (t b : Int) : Int := t.fdiv (nrmD t b)
def nrmQ (t b : Int) : Int := b.fdiv (nrmD t b)
structure Am (p q : Int) : Prop where
  pos : 1 ≤ q
  cop : Nat.gcd p.natAbs q.natAbs = 1
theorem nrmD_ne {t b : Int} (h : b ≠ 0) : nrmD t b ≠ 0 := by
  have g : 0 < Nat.gcd t.natAbs b.natAbs := Nat.gcd_pos_of_pos_right _ (Int.natAbs_pos.mpr h)
  unfold nrmD
  split <;> omega
theorem nrmD_abs (t b : Int) : (nrmD t b).natAbs = Nat.gcd t.natAbs b.natAbs := by
  unfold nrmD
  split
  · rw [Int.natAbs_neg, Int.natAbs_natCast]
  · rw [Int.natAbs_natCast]
theorem nrmD_dvd (t b : Int) : nrmD t b ∣ t ∧ nrmD t b ∣ b := by
  have h1 : ((Nat.gcd t.natAbs b.natAbs : Nat) : Int) ∣ t := Int.ofNat_dvd_left.mpr (Nat.gcd_dvd_left _ _)
  have h2 : ((Nat.gcd t.natAbs b.natAbs : Nat) : Int) ∣ b := Int.ofNat_dvd_left.mpr (Nat.gcd_dvd_right _ _)
  unfold nrmD
  split
  · exact ⟨Int.neg_dvd.mpr h1, Int.neg_dvd.mpr h2⟩
  · exact ⟨h1, h2⟩
theorem nrm_eq {t b : Int} (h : b ≠ 0) : t = nrmD t b * nrmP t b ∧ b = nrmD t b * nrmQ t b := by
  obtain ⟨h1, h2⟩ := nrmD_dvd t b
  have n0 := nrmD_ne (t := t) h
  obtain ⟨c, hc⟩ := h1
  obtain ⟨e, he⟩ := h2
  have c1 : nrmP t b = c := by
    unfold nrmP
    generalize nrmD t b = d at *
    subst hc
    exact Int.mul_fdiv_cancel_left c n0
  have c2 : nrmQ t b = e := by
    unfold nrmQ
    generalize nrmD t b = d at *
    subst he
    exact Int.mul_fdiv_cancel_left e n0
  rw [c1, c2]
  exact ⟨hc, he⟩
theorem nrm_am {t b : Int} (h : b ≠ 0) : Am (nrmP t b) (nrmQ t b) := by
  obtain ⟨e1, e2⟩ := nrm_eq (t := t) h
  have n0 := nrmD_ne (t := t) h
  constructor
  · -- the sign
    have s : 0 < nrmQ t b := by
      rcases Int.lt_or_gt_of_ne h with hb | hb
      · have d : nrmD t b < 0 := by
          unfold nrmD at n0 ⊢
          rw [if_pos hb] at n0 ⊢
          omega
        rcases Int.lt_trichotomy (nrmQ t b) 0 with q | q | q
        · have := Int.mul_pos_of_neg_of_neg d q
          omega
        · rw [q, Int.mul_zero] at e2
          omega
        · exact q
      · have d : 0 < nrmD t b := by
          unfold nrmD at n0 ⊢
          rw [if_neg (by omega)] at n0 ⊢
          omega
        rcases Int.lt_trichotomy (nrmQ t b) 0 with q | q | q
        · have := Int.mul_neg_of_pos_of_neg d q
          omega
        · rw [q, Int.mul_zero] at e2
          omega
        · exact q
    omega
  · have g : 0 < Nat.gcd t.natAbs b.natAbs := Nat.gcd_pos_of_pos_right _ (Int.natAbs_pos.mpr h)
    have a1 : t.natAbs = Nat.gcd t.natAbs b.natAbs * (nrmP t b).natAbs := by
      have := congrArg Int.natAbs e1
      rw [Int.natAbs_mul, nrmD_abs] at this
      exact this
    have a2 : b.natAbs = Nat.gcd t.natAbs b.natAbs * (nrmQ t b).natAbs := by
      have := congrArg Int.natAbs e2
      rw [Int.natAbs_mul, nrmD_abs] at this
      exact this
    have k : Nat.gcd t.natAbs b.natAbs = Nat.gcd t.natAbs b.natAbs * Nat.gcd (nrmP t b).natAbs (nrmQ t b).natAbs := by
      have h : Nat.gcd (Nat.gcd t.natAbs b.natAbs * (nrmP t b).natAbs) (Nat.gcd t.natAbs b.natAbs * (nrmQ t b).natAbs) = Nat.gcd t.natAbs b.natAbs := by rw [← a1, ← a2]
      rw [Nat.gcd_mul_left] at h
      exact h.symm
    exact (Nat.eq_of_mul_eq_mul_left g (by rw [Nat.mul_one]; exact k.symm))
theorem nrm_cross {t b : Int} (h : b ≠ 0) : nrmP t b * b = t * nrmQ t b := by
  obtain ⟨e1, e2⟩ := nrm_eq (t := t) h
  have c1 : nrmP t b * b = nrmP t b * (nrmD t b * nrmQ t b) := congrArg _ e2
  have c2 : t * nrmQ t b = (nrmD t b * nrmP t b) * nrmQ t b := congrArg (· * nrmQ t b) e1
  rw [c1, c2, ← Int.mul_assoc, Int.mul_comm (nrmP t b) (nrmD t b)]
theorem nrm_le {t b : Int} (h : b ≠ 0) : (nrmP t b).natAbs ≤ t.natAbs ∧ (nrmQ t b).natAbs ≤ b.natAbs := by
  obtain ⟨e1, e2⟩ := nrm_eq (t := t) h
  have d : 1 ≤ (nrmD t b).natAbs := Int.natAbs_pos.mpr (nrmD_ne h)
  have a1 := congrArg Int.natAbs e1
  have a2 := congrArg Int.natAbs e2
  rw [Int.natAbs_mul] at a1 a2
  constructor
  · rw [a1]
    exact Nat.le_mul_of_pos_left _ d
  · rw [a2]
    exact Nat.le_mul_of_pos_left _ d
/-- amounts that are the same number are the same -/
theorem nrmD_le {t b : Int} (h : b ≠ 0) : (nrmD t b).natAbs ≤ b.natAbs := by
  rw [nrmD_abs]
  exact Nat.le_of_dvd (Int.natAbs_pos.mpr h) (Nat.gcd_dvd_right _ _)
/-- from 0 to below m -/
def In (m : Int) (x : Int) : Prop := 0 ≤ x ∧ x < m
theorem In.bd {m x : Int} {n : Nat} (h : In m x) (l : decide (m.natAbs ≤ 2 ^ n) = true) : Bd n x := by
  have l := of_decide_eq_true l
  unfold In at h
  unfold Bd
  omega
theorem In.mod {a m : Int} (h : 0 < m) : In m (a.fmod m) := fmod_bd h
theorem set_new (s : Store) (o p : O) : (s ++ [o]).set s.length p = s ++ [p] := by
  rw [List.set_append_right _ _ (Nat.le_refl _), Nat.sub_self]
  rfl
theorem fmod_nat (a b : Nat) : Int.fmod (a : Int) (b : Int) = ((a % b : Nat) : Int) := by
  rw [Int.fmod_eq_emod_of_nonneg _ (Int.natCast_nonneg b)]
  exact (Int.natCast_emod a b).symm
theorem gcd_step {x y P j : Nat} (hy : y ≠ 0) (h0 : j = 0 → x * y = P) (h1 : 1 ≤ j → y < x ∧ x * y * 2 ^ (j - 1) ≤ P) : x % y < y ∧ y * (x % y) * 2 ^ j ≤ P := by
  have l : x % y < y := Nat.mod_lt _ (Nat.pos_of_ne_zero hy)
  refine ⟨l, ?_⟩
  cases j with
  | zero =>
    rw [Nat.pow_zero, Nat.mul_one, ← h0 rfl, Nat.mul_comm y]
    exact Nat.mul_le_mul_right _ (Nat.mod_le _ _)
  | succ j =>
    obtain ⟨a, b⟩ := h1 (by omega)
    rw [Nat.add_sub_cancel] at b
    refine Nat.le_trans ?_ b
    have d : x % y + y ≤ x := by
      have e := Nat.mod_add_div x y
      have q : 1 ≤ x / y := Nat.div_pos (Nat.le_of_lt a) (Nat.pos_of_ne_zero hy)
      have m : y * 1 ≤ y * (x / y) := Nat.mul_le_mul_left _ q
      omega
    have t : 2 * (x % y) ≤ x := by omega
    calc y * (x % y) * 2 ^ (j + 1) = y * (2 * (x % y)) * 2 ^ j := by rw [Nat.pow_succ]; ac_rfl
      _ ≤ y * x * 2 ^ j := Nat.mul_le_mul_right _ (Nat.mul_le_mul_left _ t)
      _ = x * y * 2 ^ j := by rw [Nat.mul_comm y x]
theorem gcd_end {x y P j m : Nat} (h : y < x ∧ x * y * 2 ^ (j - 1) ≤ P) (p : P < 2 ^ m) (l : m ≤ j - 1) : y = 0 := by
  rcases Nat.eq_zero_or_pos y with e | e
  · exact e
  · exfalso
    have xy : 1 ≤ x * y := Nat.mul_pos (by omega) e
    have c : 2 ^ (j - 1) ≤ P := by
      calc 2 ^ (j - 1) = 1 * 2 ^ (j - 1) := (Nat.one_mul _).symm
        _ ≤ x * y * 2 ^ (j - 1) := Nat.mul_le_mul_right _ xy
        _ ≤ _ := h.2
    exact absurd (Nat.lt_of_lt_of_le p (Nat.le_trans (Nat.pow_le_pow_right (by omega) l) c)) (Nat.lt_irrefl _)
theorem Bd.prod {n m : Nat} {a b : Int} (ha : Bd n a) (hb : Bd m b) : a.natAbs * b.natAbs < 2 ^ (n + m) := by
  rw [Nat.pow_add]
  exact Nat.mul_lt_mul'' ha hb
/-! ### amounts -/
def aD (x : Int × Int) : D := .tup [.int x.1, .int x.2]
def nrm (t b : Int) : Int × Int := (nrmP t b, nrmQ t b)
def plusA (x y : Int × Int) : Int × Int := nrm (x.1 * y.2 + y.1 * x.2) (x.2 * y.2)
def timesA (x y : Int × Int) : Int × Int := nrm (x.1 * y.1) (x.2 * y.2)
/-- an amount of at most n bits -/
structure Az (n : Nat) (x : Int × Int) : Prop where
  am : Am x.1 x.2
  bp : Bd n x.1
  bq : Bd n x.2
theorem Az.mono {n m : Nat} {x : Int × Int} (h : Az n x) (l : n ≤ m) : Az m x := ⟨h.am, h.bp.mono l, h.bq.mono l⟩
theorem nrm_az {n : Nat} {t b : Int} (h : b ≠ 0) (ht : Bd n t) (hb : Bd n b) : Az n (nrm t b) := ⟨nrm_am h, ht.le (nrm_le h).1, hb.le (nrm_le h).2⟩
theorem mul_ne {a b : Int} (h : 1 ≤ a) (g : 1 ≤ b) : a * b ≠ 0 := Int.ne_of_gt (Int.mul_pos (by omega) (by omega))
theorem plusA_az {n m : Nat} {x y : Int × Int} (h : Az n x) (g : Az m y) : Az (n + m + 1) (plusA x y) := by
  refine nrm_az (mul_ne h.am.pos g.am.pos) ?_ ((h.bq.mul g.bq).mono (by omega))
  have a := h.bp.mul g.bq
  have b := g.bp.mul h.bq
  rw [Nat.add_comm m n] at b
  exact a.add b
theorem timesA_az {n m : Nat} {x y : Int × Int} (h : Az n x) (g : Az m y) : Az (n + m) (timesA x y) := nrm_az (mul_ne h.am.pos g.am.pos) (h.bp.mul g.bp) (h.bq.mul g.bq)
/-- a quotient in lowest terms is itself -/
theorem nrm_self {x : Int × Int} (h : Am x.1 x.2) : nrm x.1 x.2 = x := by
  have p := h.pos
  have g := h.cop
  have e : nrmD x.1 x.2 = 1 := by
    unfold nrmD
    rw [if_neg (by omega), g]
    rfl
  unfold nrm nrmP nrmQ
  rw [e, Int.fdiv_one, Int.fdiv_one]
theorem nrm_scale {t b z : Int} (hz : 0 < z) (hb : b ≠ 0) : nrm (t * z) (b * z) = nrm t b := by
  have g : Nat.gcd (t * z).natAbs (b * z).natAbs = Nat.gcd t.natAbs b.natAbs * z.natAbs := by
    rw [Int.natAbs_mul, Int.natAbs_mul, Nat.gcd_mul_right]
  have e : nrmD (t * z) (b * z) = nrmD t b * z := by
    unfold nrmD
    have zz : ((z.natAbs : Nat) : Int) = z := Int.natAbs_of_nonneg (Int.le_of_lt hz)
    by_cases c : b < 0
    · rw [if_pos c, if_pos (Int.mul_neg_of_neg_of_pos c hz), g, Int.natCast_mul, zz, Int.neg_mul]
    · have c2 : ¬ b * z < 0 := by
        have : 0 ≤ b * z := Int.mul_nonneg (by omega) (Int.le_of_lt hz)
        omega
      rw [if_neg c, if_neg c2, g, Int.natCast_mul, zz]
  have n0 := nrmD_ne (t := t) hb
  obtain ⟨e1, e2⟩ := nrm_eq (t := t) hb
  unfold nrm nrmP nrmQ at *
  rw [e]
  have hz0 : z ≠ 0 := by omega
  have q : ∀ a : Int, (a * z).fdiv (nrmD t b * z) = a.fdiv (nrmD t b) := fun a => Int.mul_fdiv_mul_of_pos_left a (nrmD t b) hz
  rw [q, q]
theorem plusA_comm (x y : Int × Int) : plusA x y = plusA y x := by
  unfold plusA
  rw [Int.add_comm, Int.mul_comm x.2]
theorem plusA_zero {x : Int × Int} (h : Am x.1 x.2) : plusA (0, 1) x = x := by
  unfold plusA
  simp only [Int.zero_mul, Int.zero_add, Int.mul_one, Int.one_mul]
  exact nrm_self h
theorem plusA_zeroR {x : Int × Int} (h : Am x.1 x.2) : plusA x (0, 1) = x := by rw [plusA_comm, plusA_zero h]
theorem timesA_one {x : Int × Int} (h : Am x.1 x.2) : timesA (1, 1) x = x := by
  unfold timesA
  simp only [Int.one_mul]
  exact nrm_self h
theorem az0 (n : Nat) (h : 1 ≤ n) : Az n (0, 1) := ⟨⟨by decide, by decide⟩, Bd.mono (n := 1) (by unfold Bd; decide) h, Bd.mono (n := 1) (by unfold Bd; decide) h⟩
theorem az1 (n : Nat) (h : 1 ≤ n) : Az n (1, 1) := ⟨⟨by decide, by decide⟩, Bd.mono (n := 1) (by unfold Bd; decide) h, Bd.mono (n := 1) (by unfold Bd; decide) h⟩
/-- zero is one pair -/
theorem am_zero {x : Int × Int} (h : Am x.1 x.2) (z : x.1 = 0) : x = (0, 1) := by
  have g := h.cop
  rw [z] at g
  have p := h.pos
  have e : x.2 = 1 := by
    rw [show (0 : Int).natAbs = 0 from rfl, Nat.gcd_zero_left] at g
    omega
  exact Prod.ext z e
theorem nrmP_zero {t b : Int} (hb : b ≠ 0) : (nrm t b).1 = 0 ↔ t = 0 := by
  obtain ⟨e1, _⟩ := nrm_eq (t := t) hb
  constructor
  · intro h
    have h : nrmP t b = 0 := h
    rw [h, Int.mul_zero] at e1
    exact e1
  · intro h
    show nrmP t b = 0
    unfold nrmP
    rw [h]
    exact Int.zero_fdiv _
theorem timesA_ne {x y : Int × Int} (h : Am x.1 x.2) (g : Am y.1 y.2) : (timesA x y).1 = 0 ↔ x.1 = 0 ∨ y.1 = 0 := by
  unfold timesA
  rw [nrmP_zero (mul_ne h.pos g.pos)]
  exact Int.mul_eq_zero
theorem timesA_zero {x y : Int × Int} (h : Am x.1 x.2) (g : Am y.1 y.2) (z : x.1 = 0) : timesA x y = (0, 1) :=
  am_zero (x := timesA x y) (nrm_am (mul_ne h.pos g.pos)) ((timesA_ne h g).mpr (.inl z))
/-! ### values, as lists and tuples -/
mutual
/-- d is v, with lists in the place of some tuples -/
inductive Lk (s : Store) : D → D → Prop
  | flat {d : D} : flatD d = true → Lk s d d
  | seq {d : D} {l m : List D} : seqOf s d = some l → LkAll s l m → Lk s d (.tup m)
inductive LkAll (s : Store) : List D → List D → Prop
  | nil : LkAll s [] []
  | cons {d v : D} {l m : List D} : Lk s d v → LkAll s l m → LkAll s (d :: l) (v :: m)
end
mutual
theorem Lk.ext {s s' : Store} (x : Ext s s') : ∀ {d v : D}, Lk s d v → Lk s' d v
  | _, _, .flat h => .flat h
  | _, _, .seq e r => .seq (x.seq e) (LkAll.ext x r)
theorem LkAll.ext {s s' : Store} (x : Ext s s') : ∀ {d v : List D}, LkAll s d v → LkAll s' d v
  | _, _, .nil => .nil
  | _, _, .cons r t => .cons (Lk.ext x r) (LkAll.ext x t)
end
theorem LkAll.len {s : Store} : ∀ {l m : List D}, LkAll s l m → l.length = m.length
  | _, _, .nil => rfl
  | _, _, .cons _ t => by simp [LkAll.len t]
theorem LkAll.get {s : Store} : ∀ {l m : List D} {i : Nat} {v : D}, LkAll s l m → m[i]? = some v → ∃ d, l[i]? = some d ∧ Lk s d v
  | _, _, _, _, .nil, e => by simp at e
  | _, _, 0, v, .cons r t, e => by simp at e; subst e; exact ⟨_, rfl, r⟩
  | _, _, i + 1, v, .cons r t, e => by
    obtain ⟨d, h, q⟩ := LkAll.get (i := i) t (by simpa using e)
    exact ⟨d, by simpa using h, q⟩
theorem LkAll.flat {s : Store} : ∀ {l m : List D}, LkAll s l m → m.all flatD = true → l = m
  | _, _, .nil, _ => rfl
  | _, _, .cons (v := v) r t, h => by
    rw [List.all_cons, Bool.and_eq_true] at h
    cases r with
    | flat _ => rw [LkAll.flat t h.2]
    | seq _ _ => cases h.1
/-- a list or a tuple of flat things -/
theorem Lk.flats {s : Store} {d : D} {m : List D} (h : Lk s d (.tup m)) (f : m.all flatD = true) : seqOf s d = some m := by
  cases h with
  | flat h => cases h
  | seq e r => rw [e, r.flat f]
theorem Lk.tup {s : Store} {d : D} {m : List D} (h : Lk s d (.tup m)) : ∃ l, seqOf s d = some l ∧ LkAll s l m := by
  cases h with
  | flat h => cases h
  | seq e r => exact ⟨_, e, r⟩
mutual
/-- tuples all through -/
def pureD : D → Bool
  | .tup l => pureDs l
  | .ref _ => false
  | _ => true
def pureDs : List D → Bool
  | [] => true
  | d :: l => pureD d && pureDs l
end
mutual
theorem Lk.self {s : Store} : ∀ {d : D}, pureD d = true → Lk s d d
  | .non, _ => .flat rfl
  | .bl _, _ => .flat rfl
  | .int _, _ => .flat rfl
  | .str _, _ => .flat rfl
  | .tup l, h => .seq (show seqOf s (.tup l) = some l from rfl) (LkAll.self (by unfold pureD at h; exact h))
  | .ref n, h => by unfold pureD at h; cases h
theorem LkAll.self {s : Store} : ∀ {l : List D}, pureDs l = true → LkAll s l l
  | [], _ => .nil
  | d :: l, h => by
    unfold pureDs at h
    rw [Bool.and_eq_true] at h
    exact .cons (Lk.self h.1) (LkAll.self h.2)
end
theorem pure_aD (x : Int × Int) : pureD (aD x) = true := by simp [aD, pureD, pureDs]
theorem pure_keys : ∀ k : List Key, pureDs (k.map ofK) = true
  | [] => by simp [pureDs]
  | x :: k => by
    rw [List.map_cons]
    unfold pureDs
    rw [pure_keys k, Bool.and_true]
    cases x <;> (unfold ofK pureD; rfl)
theorem flat_keys : ∀ k : List Key, (k.map ofK).all flatD = true
  | [] => rfl
  | x :: k => by
    rw [List.map_cons, List.all_cons, flat_keys k, Bool.and_true]
    cases x <;> rfl
theorem pure_kD (k : List Key) : pureD (ofKs k) = true := by unfold ofKs pureD; exact pure_keys k
theorem Lk.key {s : Store} {d : D} {k : List Key} (h : Lk s d (ofKs k)) : seqOf s d = some (k.map ofK) := Lk.flats h (flat_keys k)
theorem Lk.amt {s : Store} {d : D} {x : Int × Int} (h : Lk s d (aD x)) : seqOf s d = some [.int x.1, .int x.2] := Lk.flats h rfl
/-! ### stores -/
theorem Ext.of {s s' : Store} (l : s.length ≤ s'.length) (h : ∀ m, m < s.length → s'[m]? = s[m]?) : Ext s s' := by
  refine ⟨s'.drop s.length, ?_⟩
  have e : s'.take s.length = s := by
    apply List.ext_getElem?
    intro m
    by_cases c : m < s.length
    · rw [List.getElem?_take_of_lt c, h m c]
    · rw [List.getElem?_eq_none (by simp; omega), List.getElem?_eq_none (by omega)]
  conv => lhs; rw [← List.take_append_drop s.length s', e]
theorem Ext.old {s s' : Store} (x : Ext s s') {m : Nat} (h : m < s.length) : s'[m]? = s[m]? := by
  obtain ⟨t, rfl⟩ := x
  exact List.getElem?_append_left h
theorem Ext.new1 (s : Store) (o : O) : Ext s (s ++ [o]) := ⟨[o], rfl⟩
/-- all but the object n stays -/
structure But (n : Nat) (s s' : Store) : Prop where
  le : s.length ≤ s'.length
  old : ∀ m, m < s.length → m ≠ n → s'[m]? = s[m]?
theorem But.refl (n : Nat) (s : Store) : But n s s := ⟨Nat.le_refl _, fun _ _ _ => rfl⟩
theorem But.trans {n : Nat} {s s1 s2 : Store} (a : But n s s1) (b : But n s1 s2) : But n s s2 :=
  ⟨Nat.le_trans a.le b.le, fun m h e => by rw [b.old m (Nat.lt_of_lt_of_le h a.le) e, a.old m h e]⟩
theorem But.ext {n : Nat} {s s' : Store} (x : Ext s s') : But n s s' := ⟨x.len, fun m h _ => x.old h⟩
theorem But.set {n : Nat} {s : Store} {o : O} : But n s (s.set n o) := ⟨by simp, fun m h e => List.getElem?_set_ne (fun z => e z.symm)⟩
theorem But.new {n : Nat} {s s1 s' : Store} (b : But n s1 s') (x : Ext s s1) (h : s.length ≤ n) : Ext s s' :=
  Ext.of (Nat.le_trans x.len b.le) fun m hm => by rw [b.old m (Nat.lt_of_lt_of_le hm x.len) (by omega), x.old hm]
/-! ### comprehensions -/
section
variable {B : Tb} {ρ : Env} {s : Store} {Q : D → Store → Prop} {X : Exn → Store → Prop}
/-- the items give values, the store stays -/
theorem w_lcP {e : E} {t : T} {it : I} {cond : Es} {own : List Nat} (h : wp (evI B it ρ s) (fun w s1 => w.items.length ≤ most ∧ (∀ acc, w.ok (s1 ++ [.lst acc])) ∧ ∃ (c : D → Bool) (f : D → D),
      (∀ d acc, d ∈ w.items → ∃ ρ', asgT t d (wipeD ρ own) (s1 ++ [.lst acc]) = some ρ' ∧ wp (evC B cond ρ' (s1 ++ [.lst acc])) (fun b s2 => b = c d ∧ s2 = s1 ++ [.lst acc]) (fun _ _ => False) ∧ (c d = true → wp (ev B e ρ' (s1 ++ [.lst acc])) (fun x s3 => x = f d ∧ s3 = s1 ++ [.lst acc]) fun _ _ => False)) ∧
      Q (.ref s1.length) (s1 ++ [.lst ((w.items.filter c).map f)])) X) : wp (ev B (.lc e t it cond own) ρ s) Q X := by
  refine w_lc (w_mono h (fun w s1 ⟨le, ok, c, f, step, out⟩ => ?_) fun _ _ z => z)
  refine ⟨fun k s' => s' = s1 ++ [.lst (((w.items.take k).filter c).map f)], rfl, ?_, ?_, ?_⟩
  · rintro k s' rfl
    exact ok _
  · rintro k d s' hd rfl
    obtain ⟨ρ', e1, q1, q2⟩ := step d (((w.items.take k).filter c).map f) (List.mem_of_getElem? hd)
    have hk : k < w.items.length := (List.getElem?_eq_some_iff.mp hd).1
    have tk : w.items.take (k + 1) = w.items.take k ++ [d] := by
      rw [List.take_add_one, hd]
      rfl
    refine ⟨ρ', e1, w_get q1 ?_⟩
    rintro b s2 ⟨rfl, rfl⟩
    refine br (fun cb => ?_) fun cb => ?_
    · refine w_get (q2 cb) ?_
      rintro x s3 ⟨rfl, rfl⟩
      refine ⟨_, get_new _ _, ?_, ?_⟩
      · rw [List.length_map]
        exact Nat.le_trans (List.length_filter_le _ _) (Nat.le_trans (List.length_take_le _ _) (by omega))
      · dsimp only
        rw [set_new, tk, List.filter_append, List.map_append]
        simp [cb]
    · dsimp only
      rw [tk, List.filter_append]
      simp [cb]
  · rintro s' e0
    rw [List.take_length] at e0
    subst e0
    exact out
theorem evC_nil {s : Store} : wp (evC B (Es.of []) ρ s) (fun b s2 => b = true ∧ s2 = s) (fun _ _ => False) := by
  show wp (evC B .nil ρ s) _ _
  rw [evC]
  exact ⟨⟨rfl, rfl⟩⟩
theorem evC_one {e : E} {s : Store} {Qb : Bool → Store → Prop} (h : wp (ev B e ρ s) (fun x s1 => wp (truK x s1) Qb X) X) : wp (evC B (Es.of [e]) ρ s) Qb X := by
  show wp (evC B (.cons e .nil) ρ s) _ _
  rw [evC]
  exact w_truM h
/-- the items give objects; the store grows -/
theorem w_lcE {e : E} {t : T} {it : I} {own : List Nat} (h : wp (evI B it ρ s) (fun w s1 => w.items.length ≤ most ∧ (∀ s', Ext s1 s' → w.ok s') ∧ ∃ P : D → D → Store → Prop,
      (∀ d x s2 s3, P d x s2 → But s1.length s2 s3 → P d x s3) ∧
      (∀ d s', d ∈ w.items → Ext s1 s' → s1.length < s'.length → ∃ ρ', asgT t d (wipeD ρ own) s' = some ρ' ∧ wp (ev B e ρ' s') (fun x s3 => P d x s3 ∧ Ext s' s3) fun _ _ => False) ∧
      (∀ (s' : Store) (l : List D), Ext s1 s' → s'[s1.length]? = some (.lst l) → l.length = w.items.length → (∀ (i : Nat) (d x : D), w.items[i]? = some d → l[i]? = some x → P d x s') → Q (.ref s1.length) s')) X) : wp (ev B (.lc e t it (Es.of []) own) ρ s) Q X := by
  refine w_lc (w_mono h (fun w s1 ⟨le, ok, P, stab, step, out⟩ => ?_) fun _ _ z => z)
  refine ⟨fun k s' => Ext s1 s' ∧ ∃ l : List D, s'[s1.length]? = some (.lst l) ∧ l.length = k ∧ k ≤ w.items.length ∧ ∀ (i : Nat) (d x : D), w.items[i]? = some d → l[i]? = some x → P d x s', ⟨Ext.new1 _ _, [], get_new _ _, rfl, Nat.zero_le _, fun i d x _ h => by simp at h⟩, ?_, ?_, ?_⟩
  · rintro k s' ⟨x, _⟩
    exact ok s' x
  · rintro k d s' hd ⟨x1, l, hl, ll, lk, hp⟩
    have hk : k < w.items.length := (List.getElem?_eq_some_iff.mp hd).1
    have ln : s1.length < s'.length := (List.getElem?_eq_some_iff.mp hl).1
    obtain ⟨ρ', e1, q⟩ := step d s' (List.mem_of_getElem? hd) x1 ln
    refine ⟨ρ', e1, w_get evC_nil ?_⟩
    rintro b s2 ⟨rfl, rfl⟩
    refine br_t (w_get q ?_)
    rintro x s3 ⟨p, x3⟩
    have hl3 := x3.get hl
    refine ⟨l, hl3, by omega, ?_⟩
    have b3 : But s1.length s3 (s3.set s1.length (.lst (l ++ [x]))) := But.set
    have b2 := (But.ext (n := s1.length) x3).trans b3
    refine ⟨b2.new x1 (Nat.le_refl _), l ++ [x], ?_, by simp [ll], by omega, ?_⟩
    · rw [List.getElem?_set_self (List.getElem?_eq_some_iff.mp hl3).1]
    · intro i d' x' hd' hx'
      by_cases c : i < l.length
      · rw [List.getElem?_append_left c] at hx'
        exact stab _ _ _ _ (hp i d' x' hd' hx') b2
      · have ei : i = l.length := by
          have := (List.getElem?_eq_some_iff.mp hx').1
          simp at this
          omega
        subst ei
        rw [List.getElem?_append_right (Nat.le_refl _), Nat.sub_self] at hx'
        have ex : x = x' := by simpa using hx'
        subst ex
        rw [ll, hd] at hd'
        cases hd'
        exact stab _ _ _ _ p b3
  · rintro s' ⟨x, l, hl, ll, _, hp⟩
    exact out s' l x hl ll hp
end
/-! ### one shape -/
mutual
/-- the same, of one shape -/
inductive Sm (s : Store) : Nat → D → D → Prop
  | flat {n : Nat} {d : D} : eqD s d d = some true → Sm s n d d
  | tup {n : Nat} {l m : List D} : SmAll s n l m → Sm s (n + 1) (.tup l) (.tup m)
  | lst {n i j : Nat} {l m : List D} : s[i]? = some (.lst l) → s[j]? = some (.lst m) → SmAll s n l m → Sm s (n + 1) (.ref i) (.ref j)
  | dt {n i j : Nat} {l m : List (List Key × D)} : s[i]? = some (.dt l) → s[j]? = some (.dt m) → l.map (·.1) = m.map (·.1) → (l.map (·.1)).Nodup → SmAll s n (l.map (·.2)) (m.map (·.2)) → Sm s (n + 1) (.ref i) (.ref j)
inductive SmAll (s : Store) : Nat → List D → List D → Prop
  | nil {n : Nat} : SmAll s n [] []
  | cons {n : Nat} {d v : D} {l m : List D} : Sm s n d v → SmAll s n l m → SmAll s n (d :: l) (v :: m)
end
mutual
theorem Sm.dat {s : Store} : ∀ {n : Nat} {d e : D}, Sm s n d e → ∀ (k : Nat) (x y : PyData), dat s k d = some x → dat s k e = some y → x = y
  | _, _, _, .flat h, k, x, y, h1, h2 => by rw [h1] at h2; exact Option.some.inj h2
  | _, _, _, .tup (l := l) (m := m) r, k, x, y, h1, h2 => by
    cases k with
    | zero => cases h1
    | succ k =>
      unfold RI.dat at h1 h2
      cases e1 : optAll (l.map (RI.dat s k)) with
      | none => rw [e1] at h1; cases h1
      | some a =>
        cases e2 : optAll (m.map (RI.dat s k)) with
        | none => rw [e2] at h2; cases h2
        | some b =>
          rw [e1] at h1
          rw [e2] at h2
          cases h1
          cases h2
          rw [SmAll.dat r k a b e1 e2]
  | _, _, _, .lst (i := i) (j := j) (l := l) (m := m) hi hj r, k, x, y, h1, h2 => by
    cases k with
    | zero => cases h1
    | succ k =>
      unfold RI.dat at h1 h2
      rw [lst_at hi, Option.bind_some] at h1
      rw [lst_at hj, Option.bind_some] at h2
      cases e1 : optAll (l.map (RI.dat s k)) with
      | none => rw [e1] at h1; cases h1
      | some a =>
        cases e2 : optAll (m.map (RI.dat s k)) with
        | none => rw [e2] at h2; cases h2
        | some b =>
          rw [e1] at h1
          rw [e2] at h2
          cases h1
          cases h2
          rw [SmAll.dat r k a b e1 e2]
  | _, _, _, .dt (i := i) hi _ _ _ _, k, x, y, h1, _ => by
    cases k with
    | zero => cases h1
    | succ k =>
      unfold RI.dat at h1
      have e : lstOf s (.ref i) = none := by
        show (match s[i]? with
          | some (.lst l) => some l
          | some (.ro l) => some l
          | _ => none) = none
        rw [hi]
      rw [e] at h1
      cases h1
theorem SmAll.dat {s : Store} : ∀ {n : Nat} {l m : List D}, SmAll s n l m → ∀ (k : Nat) (x y : List PyData), optAll (l.map (RI.dat s k)) = some x → optAll (m.map (RI.dat s k)) = some y → x = y
  | _, _, _, .nil, k, x, y, h1, h2 => by cases h1; cases h2; rfl
  | _, _, _, .cons (d := d) (v := v) (l := l) (m := m) r t, k, x, y, h1, h2 => by
    rw [List.map_cons] at h1 h2
    unfold optAll at h1 h2
    cases e1 : RI.dat s k d with
    | none => rw [e1] at h1; cases h1
    | some a =>
      cases e2 : RI.dat s k v with
      | none => rw [e2] at h2; cases h2
      | some b =>
        cases e3 : optAll (l.map (RI.dat s k)) with
        | none => rw [e1, e3] at h1; cases h1
        | some as =>
          cases e4 : optAll (m.map (RI.dat s k)) with
          | none => rw [e2, e4] at h2; cases h2
          | some bs =>
            rw [e1, e3] at h1
            rw [e2, e4] at h2
            cases h1
            cases h2
            rw [Sm.dat r k a b e1 e2, SmAll.dat t k as bs e3 e4]
end
theorem SmAll.len {s : Store} : ∀ {n : Nat} {l m : List D}, SmAll s n l m → l.length = m.length
  | _, _, _, .nil => rfl
  | _, _, _, .cons _ t => by simp [SmAll.len t]
theorem eqD_true {s : Store} {n : Nat} {d e : D} {k : Bool} (h : Sm s n d e) (q : eqD s d e = some k) : k = true := by
  unfold eqD at q
  cases e1 : RI.dat s 64 d with
  | none => rw [e1] at q; cases q
  | some x =>
    cases e2 : RI.dat s 64 e with
    | none => rw [e1, e2] at q; cases q
    | some y =>
      rw [e1, e2] at q
      dsimp only at q
      have exy := h.dat 64 x y e1 e2
      subst exy
      by_cases c : SeqAt.shaped x = true ∧ SeqAt.shaped x = true
      · rw [if_pos c] at q
        have c1 := c.1
        unfold SeqAt.shaped at c1
        rw [Bool.and_eq_true] at c1
        rw [SeqAt.eqv_refl x c1.1] at q
        exact (Option.some.inj q).symm
      · rw [if_neg c] at q
        cases q
theorem valD_at {κ : Type} [DecidableEq κ] : ∀ {m : List (κ × D)}, (m.map (·.1)).Nodup → ∀ p ∈ m, valD m p.1 = some p.2
  | [], _, p, h => by cases h
  | q :: m, nd, p, h => by
    rw [List.map_cons, List.nodup_cons] at nd
    rcases List.mem_cons.mp h with rfl | h
    · simp [valD, List.find?_cons]
    · have ne : ¬ q.1 = p.1 := fun e => nd.1 (by rw [e]; exact List.mem_map_of_mem h)
      have := valD_at nd.2 p h
      simp only [valD, List.find?_cons, decide_eq_false ne] at this ⊢
      exact this
mutual
theorem Sm.eqX {s : Store} : ∀ {n : Nat} {d e : D}, Sm s n d e → ∀ k, n ≤ k → eqX s k d e = some true
  | _, _, _, .flat h, k, _ => eqX_of h k
  | _, _, _, .tup (n := n) (l := l) (m := m) r, k, hk => by
    cases k with
    | zero => omega
    | succ k =>
      have g : Sm s (n + 1) (.tup l) (.tup m) := .tup r
      unfold RI.eqX
      cases q : eqD s (.tup l) (.tup m) with
      | some b => rw [eqD_true g q]
      | none =>
        dsimp only
        rw [SmAll.zip r k (by omega), r.len]
        simp
  | _, _, _, .lst (n := n) (i := i) (j := j) (l := l) (m := m) hi hj r, k, hk => by
    cases k with
    | zero => omega
    | succ k =>
      have g : Sm s (n + 1) (.ref i) (.ref j) := .lst hi hj r
      unfold RI.eqX
      cases q : eqD s (.ref i) (.ref j) with
      | some b => rw [eqD_true g q]
      | none =>
        dsimp only
        rw [hi, hj]
        dsimp only
        rw [if_pos r.len, SmAll.zip r k (by omega)]
        simp
  | _, _, _, .dt (n := n) (i := i) (j := j) (l := l) (m := m) hi hj ek nd r, k, hk => by
    cases k with
    | zero => omega
    | succ k =>
      have g : Sm s (n + 1) (.ref i) (.ref j) := .dt hi hj ek nd r
      unfold RI.eqX
      cases q : eqD s (.ref i) (.ref j) with
      | some b => rw [eqD_true g q]
      | none =>
        dsimp only
        rw [hi, hj]
        dsimp only
        have el : l.length = m.length := by
          have := congrArg List.length ek
          simpa using this
        rw [if_pos el]
        have va := valD_at (m := m) (by rw [← ek]; exact nd)
        exact SmAll.hits r k (by omega) l m m rfl rfl ek va
theorem SmAll.zip {s : Store} : ∀ {n : Nat} {l m : List D}, SmAll s n l m → ∀ k, n ≤ k → zipD (RI.eqX s k) l m = some (l.map fun _ => true)
  | _, _, _, .nil, k, _ => rfl
  | _, _, _, .cons r t, k, hk => by
    unfold zipD
    rw [Sm.eqX r k hk, SmAll.zip t k hk]
    rfl
theorem SmAll.hits {s : Store} : ∀ {n : Nat} {l m : List D}, SmAll s n l m → ∀ k, n ≤ k → ∀ (l' m' M : List (List Key × D)), l'.map (·.2) = l → m'.map (·.2) = m → l'.map (·.1) = m'.map (·.1) → (∀ p ∈ m', valD M p.1 = some p.2) → hitsD (RI.eqX s k) M l' = some true
  | _, _, _, .nil, k, _, l', m', M, e1, _, _, _ => by
    cases l' with
    | nil => rfl
    | cons _ _ => cases e1
  | _, _, _, .cons r t, k, hk, l', m', M, e1, e2, e3, va => by
    cases l' with
    | nil => cases e1
    | cons p l' =>
      cases m' with
      | nil => cases e2
      | cons p' m' =>
        rw [List.map_cons, List.cons.injEq] at e1 e2
        rw [List.map_cons, List.map_cons, List.cons.injEq] at e3
        unfold hitsD
        rw [e3.1, va p' List.mem_cons_self]
        dsimp only
        rw [e1.1, e2.1, Sm.eqX r k hk, SmAll.hits t k hk l' m' M e1.2 e2.2 e3.2 fun q hq => va q (List.mem_cons_of_mem _ hq)]
        rfl
end
end RI
set_option maxRecDepth 100000
set_option maxHeartbeats 4000000
set_option exponentiation.threshold 10000
/-! RQ2: bounds by their form; rows of digits; scripts. -/
namespace RI
open PySem L2
variable [Xs]
theorem Bd.addM {n m : Nat} {x y : Int} (a : Bd n x) (b : Bd m y) : Bd (n + m + 1) (x + y) := (a.mono (Nat.le_add_right _ _)).add (b.mono (Nat.le_add_left _ _))
theorem Bd.subM {n m : Nat} {x y : Int} (a : Bd n x) (b : Bd m y) : Bd (n + m + 1) (x - y) := (a.mono (Nat.le_add_right _ _)).sub (b.mono (Nat.le_add_left _ _))
theorem Bd.modL {n : Nat} {a m : Int} (h : decide (0 < m) = true) (l : Bd n m) : Bd n (a.fmod m) := by
  have p := of_decide_eq_true h
  have q := In.mod (a := a) p
  unfold In at q
  unfold Bd at *
  omega
theorem Bd.fdivL {n : Nat} {a m : Int} (h : decide (0 < m) = true) (l : Bd n a) : Bd (n + 1) (a.fdiv m) := by
  have p := of_decide_eq_true h
  have e := Int.fmod_add_mul_fdiv a m
  have q := In.mod (a := a) p
  unfold In at q
  unfold Bd at *
  have d : (a.fdiv m).natAbs ≤ a.natAbs + 1 := by
    rcases Int.lt_trichotomy (a.fdiv m) 0 with c | c | c
    · have : m * (a.fdiv m + 1) ≤ a.fdiv m + 1 := by
        have := Int.mul_le_mul_of_nonpos_right (show 1 ≤ m by omega) (show a.fdiv m + 1 ≤ 0 by omega)
        omega
      rw [Int.mul_add] at this
      omega
    · omega
    · have : a.fdiv m ≤ m * (a.fdiv m) := by
        have := Int.mul_le_mul_of_nonneg_right (show 1 ≤ m by omega) (Int.le_of_lt c)
        omega
      omega
  have : 2 ^ (n + 1) = 2 ^ n * 2 := Nat.pow_succ _ _
  have : 1 ≤ 2 ^ n := Nat.one_le_two_pow
  omega
theorem Bd.bool (c : Prop) [Decidable c] : Bd 2 (if c then 1 else 0) := by
  split <;> exact Bd.lit (by decide)
theorem Bd.abs {n : Nat} {x : Int} (h : Bd n x) : Bd n (x.natAbs : Int) := by
  unfold Bd at *
  rw [Int.natAbs_natCast]
  exact h
theorem Bd.pow {i : Int} {n : Nat} (h : decide ((i ^ n).natAbs < 2 ^ 128) = true) : Bd 128 (i ^ n) := Bd.lit h
theorem In.bd60 {x : Int} (h : In 60 x) : Bd 6 x := h.bd (by decide)
/-- a row of digits -/
def RowAt (s : Store) (x : D) (m : Nat) (b : Int) : Prop := ∃ l : List Int, seqOf s x = some (l.map D.int) ∧ l.length = m ∧ ∀ i ∈ l, In b i
theorem RowAt.ext {s s' : Store} {x : D} {m : Nat} {b : Int} (h : RowAt s x m b) (e : Ext s s') : RowAt s' x m b := by
  obtain ⟨l, a, c⟩ := h
  exact ⟨l, e.seq a, c⟩
theorem RowAt.at {s : Store} {x : D} {m : Nat} {b i : Int} (h : RowAt s x m b) (h0 : 0 ≤ i) (h1 : i < m) : ∃ l c, seqOf s x = some l ∧ atI l i = some (.int c) ∧ In b c := by
  obtain ⟨l, a, e, c⟩ := h
  obtain ⟨d, hd, g⟩ := atI_lt (l := l.map D.int) h0 (by rw [List.length_map, e]; exact h1)
  obtain ⟨j, hj, rfl⟩ := List.mem_map.mp hd
  exact ⟨_, j, a, g, c j hj⟩
section
variable {B : Tb} {ρ : Env} {s : Store} {Q : D → Store → Prop} {X : Exn → Store → Prop}
theorem w_ixR {x : D} {m : Nat} {b i : Int} (h : RowAt s x m b) (c : 0 ≤ i ∧ i < (m : Int)) (q : ∀ c, In b c → Q (.int c) s) : wp (ixK x (.int i) s) Q X := by
  obtain ⟨l, d, e, g, z⟩ := h.at c.1 c.2
  exact w_ixS e g (q d z)
/-- a list of literals, read at a digit -/
theorem w_ixLit {n : Nat} {l : List D} {i : Int} {P : D → Prop} (e : s[n]? = some (.lst l)) (c : 0 ≤ i ∧ i < (l.length : Int)) (p : ∀ d ∈ l, P d) (q : ∀ d, P d → Q d s) : wp (ixK (.ref n) (.int i) s) Q X := by
  obtain ⟨d, hd, g⟩ := atI_lt (l := l) c.1 c.2
  exact w_ixS (show seqOf s (.ref n) = some l from lst_at e) g (q d (p d hd))
end
section
variable {r1 r2 : Fl} {N : Env → Store → Prop} {R : D → Store → Prop} {Bk Ct : Env → Store → Prop} {Y : Exn → Env → Store → Prop}
/-- both ways of an if, joined behind it -/
theorem br_cut {P : Prop} {_ : Decidable P} (N' : Env → Store → Prop) (h1 : P → wf r1 N' R Bk Ct Y) (h2 : ¬P → wf r2 N' R Bk Ct Y) (n : ∀ ρ s, N' ρ s → N ρ s) : Br (decide P) (wf r1 N R Bk Ct Y) (wf r2 N R Bk Ct Y) :=
  br_d (fun p => f_mono (h1 p) n) fun p => f_mono (h2 p) n
theorem br_cutB {b : Bool} (N' : Env → Store → Prop) (h1 : b = true → wf r1 N' R Bk Ct Y) (h2 : b = false → wf r2 N' R Bk Ct Y) (n : ∀ ρ s, N' ρ s → N ρ s) : Br b (wf r1 N R Bk Ct Y) (wf r2 N R Bk Ct Y) :=
  br (fun p => f_mono (h1 p) n) fun p => f_mono (h2 p) n
end
/-- a script of whole numbers -/
def Scr (s : Store) (d : D) : Prop := ∃ (n : Nat) (ns : List Int), d = .ref n ∧ lstOf s (.ref n) = some (ns.map D.int)
theorem Scr.ext {s s' : Store} {d : D} (h : Scr s d) (x : Ext s s') : Scr s' d := by
  obtain ⟨n, ns, e, g⟩ := h
  exact ⟨n, ns, e, x.lst g⟩
end RI
set_option maxRecDepth 100000
set_option maxHeartbeats 4000000
/-! RQ3: keys of texts: their order, sorted; values of one shape; texts of signs. -/
namespace RI
open PySem L2
variable [Xs]
/-! ### the order of keys -/
theorem ltK_irrefl (a : List Key) : ltK a a = false := PyProof.Rows.lex_irrefl _
theorem ltK_trans {a b c : List Key} (h : ltK a b = true) (g : ltK b c = true) : ltK a c = true := PyProof.Rows.lex_trans _ _ _ h g
theorem ltK_tot {a b : List Key} (n : a ≠ b) (h : ltK a b = false) : ltK b a = true := by
  cases e : ltK b a with
  | true => rfl
  | false => exact absurd (keysI_inj (PyProof.Rows.lex_total (O := PyProof.Rows.itemOrd) _ _ h e)) n
theorem ltK_asymm {a b : List Key} (h : ltK a b = true) : ltK b a = false := by
  cases e : ltK b a with
  | false => rfl
  | true => exact absurd (ltK_trans h e) (by rw [ltK_irrefl]; exact Bool.false_ne_true)
def Asc (l : List (List Key)) : Prop := l.Pairwise fun a b => ltK a b = true
theorem insL_mem {a x : List Key} : ∀ {l : List (List Key)}, a ∈ insL ltK x l ↔ a = x ∨ a ∈ l
  | [] => by simp [insL]
  | y :: r => by
    unfold insL
    split
    · simp
    · rw [List.mem_cons, insL_mem, List.mem_cons]
      constructor
      · rintro (h | h | h)
        · exact .inr (.inl h)
        · exact .inl h
        · exact .inr (.inr h)
      · rintro (h | h | h)
        · exact .inr (.inl h)
        · exact .inl h
        · exact .inr (.inr h)
theorem isrt_mem {a : List Key} : ∀ {l : List (List Key)}, a ∈ isrt ltK l ↔ a ∈ l
  | [] => Iff.rfl
  | x :: r => by
    unfold isrt
    rw [insL_mem, isrt_mem, List.mem_cons]
theorem insL_asc {x : List Key} : ∀ {l : List (List Key)}, Asc l → x ∉ l → Asc (insL ltK x l)
  | [], _, _ => List.pairwise_singleton _ _
  | y :: r, h, n => by
    obtain ⟨h1, h2⟩ := List.pairwise_cons.mp h
    unfold insL
    split
    · rename_i q
      refine List.pairwise_cons.mpr ⟨fun z hz => ?_, h⟩
      rcases List.mem_cons.mp hz with rfl | hz
      · exact q
      · exact ltK_trans q (h1 z hz)
    · rename_i q
      refine List.pairwise_cons.mpr ⟨fun z hz => ?_, insL_asc h2 fun c => n (List.mem_cons_of_mem _ c)⟩
      rcases insL_mem.mp hz with rfl | hz
      · exact ltK_tot (fun e => n (by rw [e]; exact List.mem_cons_self)) (by simpa using q)
      · exact h1 z hz
theorem isrt_asc : ∀ {l : List (List Key)}, l.Nodup → Asc (isrt ltK l)
  | [], _ => List.Pairwise.nil
  | x :: r, h => by
    obtain ⟨a, b⟩ := List.nodup_cons.mp h
    unfold isrt
    exact insL_asc (isrt_asc b) fun c => a (isrt_mem.mp c)
theorem asc_ext : ∀ {l m : List (List Key)}, Asc l → Asc m → (∀ a, a ∈ l ↔ a ∈ m) → l = m
  | [], [], _, _, _ => rfl
  | [], y :: m, _, _, h => absurd ((h y).mpr List.mem_cons_self) (List.not_mem_nil)
  | x :: l, [], _, _, h => absurd ((h x).mp List.mem_cons_self) (List.not_mem_nil)
  | x :: l, y :: m, a, b, h => by
    obtain ⟨a1, a2⟩ := List.pairwise_cons.mp a
    obtain ⟨b1, b2⟩ := List.pairwise_cons.mp b
    have e : x = y := by
      rcases List.mem_cons.mp ((h x).mp List.mem_cons_self) with e | e
      · exact e
      · rcases List.mem_cons.mp ((h y).mpr List.mem_cons_self) with g | g
        · exact g.symm
        · exact absurd (ltK_trans (a1 y g) (b1 x e)) (by rw [ltK_irrefl]; exact Bool.false_ne_true)
    subst e
    rw [asc_ext a2 b2 fun z => ?_]
    constructor
    · intro hz
      rcases List.mem_cons.mp ((h z).mp (List.mem_cons_of_mem _ hz)) with e | e
      · exact absurd (a1 z hz) (by rw [e, ltK_irrefl]; exact Bool.false_ne_true)
      · exact e
    · intro hz
      rcases List.mem_cons.mp ((h z).mpr (List.mem_cons_of_mem _ hz)) with e | e
      · exact absurd (b1 z hz) (by rw [e, ltK_irrefl]; exact Bool.false_ne_true)
      · exact e
theorem Asc.nodup {l : List (List Key)} (h : Asc l) : l.Nodup := h.imp fun {a b} q e => by
  rw [e, ltK_irrefl] at q
  exact Bool.false_ne_true q
theorem isrt_self {l : List (List Key)} (h : Asc l) : isrt ltK l = l := asc_ext (isrt_asc h.nodup) h fun _ => isrt_mem
theorem isrt_len {l : List (List Key)} : (isrt ltK l).length = l.length := by
  have q : ∀ (x : List Key) (l : List (List Key)), (insL ltK x l).length = l.length + 1 := by
    intro x l
    induction l with
    | nil => rfl
    | cons y r ih =>
      unfold insL
      split
      · rfl
      · simp [ih]
  induction l with
  | nil => rfl
  | cons x r ih =>
    unfold isrt
    rw [q, ih]
    rfl
/-! ### keys of texts -/
/-- one to a few texts -/
structure Tx (k : List Key) : Prop where
  ne : k ≠ []
  len : k.length ≤ 100
  tx : ∀ x ∈ k, ∃ w, x = .inr w ∧ PyData.strOk w = true ∧ w.length ≤ 1000
theorem shapeL_tx {l : List (List Key)} (h : ∀ k ∈ l, Tx k) (i : Nat) : shapeL l i = true := by
  have q : ∀ (l : List (List Key)) (m : List Key), (∀ k ∈ l, Tx k) → (∀ x ∈ m, ∃ w, x = .inr w) → ∀ x ∈ l.foldl (fun m t => if m.length < t.length then t else m) m, ∃ w, x = Sum.inr w := by
    intro l
    induction l with
    | nil => intro m _ hm; exact hm
    | cons t r ih =>
      intro m hl hm
      refine ih _ (fun k hk => hl k (List.mem_cons_of_mem _ hk)) ?_
      dsimp only
      split
      · intro x hx
        obtain ⟨w, e, _⟩ := (hl t List.mem_cons_self).tx x hx
        exact ⟨w, e⟩
      · exact hm
  unfold shapeL
  split
  · rename_i x e
    obtain ⟨w, rfl⟩ := q l [] h (fun x hx => absurd hx (List.not_mem_nil)) x (List.mem_of_getElem? e)
    rfl
  · rfl
theorem shapeOk_tx {sh : Nat → Bool} (hs : ∀ i, sh i = true) : ∀ {k : List Key} {i : Nat}, (∀ x ∈ k, ∃ w, x = Sum.inr w) → shapeOk sh i k = true
  | [], _, _ => rfl
  | x :: k, i, h => by
    obtain ⟨w, rfl⟩ := h x List.mem_cons_self
    unfold shapeOk
    rw [hs i, shapeOk_tx hs fun y hy => h y (List.mem_cons_of_mem _ hy)]
    rfl
theorem sortT_tx {l : List (List Key)} (h : ∀ k ∈ l, Tx k) : sortT l = some (isrt ltK l) := by
  unfold sortT
  rw [if_pos]
  refine List.all_eq_true.mpr fun k hk => ?_
  rw [Bool.and_eq_true]
  refine ⟨?_, shapeOk_tx (shapeL_tx h) fun x hx => ?_⟩
  · cases k with
    | nil => exact absurd rfl (h [] hk).ne
    | cons a b => rfl
  · obtain ⟨w, e, _⟩ := (h k hk).tx x hx
    exact ⟨w, e⟩
theorem tupKs_ofKs (k : List Key) : tupKs (ofKs k) = some k := keysD_ofK k
theorem optAll_fun {α β : Type} {f : α → Option β} {g : α → β} : ∀ {l : List α}, (∀ a ∈ l, f a = some (g a)) → optAll (l.map f) = some (l.map g)
  | [], _ => rfl
  | x :: l, h => by
    rw [List.map_cons, List.map_cons]
    unfold optAll
    rw [h x List.mem_cons_self, optAll_fun fun a ha => h a (List.mem_cons_of_mem _ ha)]
theorem sortD_tx {l : List (List Key)} (h : ∀ k ∈ l, Tx k) : sortD (l.map ofKs) = some ((isrt ltK l).map ofKs) := by
  unfold sortD
  have e : optAll ((l.map ofKs).map tupKs) = some l := by
    rw [List.map_map, optAll_fun (f := tupKs ∘ ofKs) (g := id) fun a _ => tupKs_ofKs a, List.map_id]
  rw [e]
  dsimp only
  rw [sortT_tx h]
  rfl
def datK : Key → PyData
  | .inl i => .int i
  | .inr w => .str w
theorem dat_K (s : Store) (n : Nat) (x : Key) : dat s n (ofK x) = some (datK x) := by cases x <;> (unfold ofK dat; rfl)
theorem dat_Ks (s : Store) (n : Nat) (k : List Key) : dat s (n + 1) (ofKs k) = some (.tuple (k.map datK)) := by
  unfold ofKs RI.dat
  rw [List.map_map, optAll_fun (f := RI.dat s n ∘ ofK) (g := datK) fun a _ => dat_K s n a]
  rfl
theorem lay_tx : ∀ {k : List Key}, (∀ x ∈ k, ∃ w, x = Sum.inr w ∧ PyData.strOk w = true ∧ w.length ≤ 1000) → PyData.canLayAll0 (k.map datK) = true ∧ PyData.depthAll (k.map datK) = 0
  | [], _ => ⟨by simp [PyData.canLayAll0], by simp [PyData.depthAll]⟩
  | x :: k, h => by
    obtain ⟨w, rfl, c, _⟩ := h x List.mem_cons_self
    obtain ⟨a, b⟩ := lay_tx fun y hy => h y (List.mem_cons_of_mem _ hy)
    rw [List.map_cons]
    refine ⟨?_, ?_⟩
    · unfold PyData.canLayAll0
      rw [a, Bool.and_true]
      unfold datK PyData.canLay0
      exact c
    · unfold PyData.depthAll
      rw [b]
      unfold datK PyData.depth
      rfl
theorem lay_txs : ∀ {l : List (List Key)}, (∀ k ∈ l, Tx k) → PyData.canLayAll0 (l.map fun k => PyData.tuple (k.map datK)) = true ∧ PyData.depthAll (l.map fun k => PyData.tuple (k.map datK)) ≤ 1
  | [], _ => ⟨by simp [PyData.canLayAll0], by simp [PyData.depthAll]⟩
  | x :: k, h => by
    obtain ⟨c, d⟩ := lay_tx (h x List.mem_cons_self).tx
    obtain ⟨a, b⟩ := lay_txs fun y hy => h y (List.mem_cons_of_mem _ hy)
    rw [List.map_cons]
    refine ⟨?_, ?_⟩
    · unfold PyData.canLayAll0
      rw [a, Bool.and_true]
      unfold PyData.canLay0
      exact c
    · unfold PyData.depthAll
      unfold PyData.depth
      rw [d]
      omega
theorem shaped_tx {k : List Key} (h : Tx k) : SeqAt.shaped (.tuple (k.map datK)) = true := by
  obtain ⟨a, b⟩ := lay_tx h.tx
  unfold SeqAt.shaped
  rw [Bool.and_eq_true]
  refine ⟨?_, decide_eq_true ?_⟩
  · unfold PyData.canLay0
    exact a
  · unfold PyData.depth
    omega
theorem eqD_tx (s : Store) {k : List Key} (h : Tx k) : eqD s (ofKs k) (ofKs k) = some true := by
  unfold eqD
  rw [dat_Ks]
  dsimp only
  rw [if_pos ⟨shaped_tx h, shaped_tx h⟩, SeqAt.eqv_refl _ (Bool.and_eq_true_iff.mp (by have := shaped_tx h; unfold SeqAt.shaped at this; exact this)).1]
/-- a key in a list of keys -/
theorem inA_tx {s : Store} {n : Nat} {l : List (List Key)} {k : List Key} (e : s[n]? = some (.lst (l.map ofKs))) (h : Tx k) (hl : ∀ k ∈ l, Tx k) : ∃ b, inA (ofKs k) (.ref n) s = some b ∧ (b = false → k ∉ l) := by
  have e1 : dgetD s (.ref n) (ofKs k) = none := by
    unfold dgetD
    dsimp only
    rw [e]
  have e2 : RI.dat s 64 (.ref n) = some (.list (l.map fun k => PyData.tuple (k.map datK))) := by
    unfold RI.dat
    rw [lst_at e, Option.bind_some, List.map_map, optAll_fun (f := RI.dat s 63 ∘ ofKs) (g := fun k : List Key => PyData.tuple (k.map datK)) fun a _ => dat_Ks s 62 a]
    rfl
  obtain ⟨a, b⟩ := lay_txs hl
  have sh : SeqAt.shaped (.list (l.map fun k => PyData.tuple (k.map datK))) = true := by
    unfold SeqAt.shaped
    rw [Bool.and_eq_true]
    refine ⟨?_, decide_eq_true ?_⟩
    · unfold PyData.canLay0
      exact a
    · unfold PyData.depth
      omega
  refine ⟨(l.map fun k => PyData.tuple (k.map datK)).any fun z => PyData.eqv z (.tuple (k.map datK)), ?_, ?_⟩
  · unfold inA
    rw [e1]
    dsimp only
    unfold inS ofKs
    dsimp only
    have e3 : ((seqOf s (.ref n)).bind fun l => if flatD (.tup (k.map ofK)) = true ∧ l.all flatD = true then some (inD (.tup (k.map ofK)) l) else none) = none := by
      rw [show seqOf s (.ref n) = some (l.map ofKs) from lst_at e]
      rfl
    rw [e3]
    dsimp only
    have e4 := dat_Ks s 63 k
    unfold ofKs at e4
    rw [e4, e2]
    dsimp only
    rw [if_pos ⟨shaped_tx h, sh⟩]
  · intro f hk
    rw [List.any_eq_false] at f
    refine f _ (List.mem_map_of_mem hk) ?_
    exact SeqAt.eqv_refl _ (Bool.and_eq_true_iff.mp (by have := shaped_tx h; unfold SeqAt.shaped at this; exact this)).1
/-! ### values that are compared -/
/-- whole numbers, texts, tuples of such -/
inductive Pu : Nat → D → Prop
  | int {n : Nat} {i : Int} : Pu n (.int i)
  | str {n : Nat} {w : Str} : PyData.strOk w = true → Pu n (.str w)
  | tup {n : Nat} {l : List D} : l.length ≤ 1000 → (∀ d ∈ l, Pu n d) → Pu (n + 1) (.tup l)
theorem Pu.mono {n m : Nat} {d : D} (h : Pu n d) (l : n ≤ m) : Pu m d := by
  induction h generalizing m with
  | int => exact .int
  | str c => exact .str c
  | tup c _ ih =>
    cases m with
    | zero => omega
    | succ m => exact .tup c fun d hd => ih d hd (by omega)
theorem Tx.pu {k : List Key} (h : Tx k) : Pu 1 (ofKs k) := by
  refine .tup (by rw [List.length_map]; exact Nat.le_trans h.len (by decide)) fun d hd => ?_
  obtain ⟨x, hx, rfl⟩ := List.mem_map.mp hd
  obtain ⟨w, rfl, c, _⟩ := h.tx x hx
  exact .str c
theorem pu_aD (x : Int × Int) : Pu 1 (aD x) := .tup (by simp) fun d hd => by
  rcases List.mem_cons.mp hd with rfl | hd
  · exact .int
  · rcases List.mem_cons.mp hd with rfl | hd
    · exact .int
    · exact absurd hd (List.not_mem_nil)
mutual
theorem Pu.pure : ∀ {n : Nat} {d : D}, Pu n d → pureD d = true
  | _, .int _, _ => by unfold pureD; rfl
  | _, .str _, _ => by unfold pureD; rfl
  | n + 1, .tup l, h => by
    unfold pureD
    cases h with
    | tup _ h => exact Pu.pures l h
theorem Pu.pures : ∀ {n : Nat} (l : List D), (∀ d ∈ l, Pu n d) → pureDs l = true
  | _, [], _ => by unfold pureDs; rfl
  | n, d :: l, h => by
    unfold pureDs
    rw [Pu.pure (h d List.mem_cons_self), Pu.pures l fun x hx => h x (List.mem_cons_of_mem _ hx)]
    rfl
end
theorem am_eq (s : Store) (x y : Int × Int) : eqD s (aD x) (aD y) = some (decide (x = y)) := by
  have e : ∀ z : Int × Int, RI.dat s 64 (aD z) = some (.tuple [.int z.1, .int z.2]) := fun z => by
    unfold aD RI.dat
    rw [List.map_cons, List.map_cons, List.map_nil]
    unfold RI.dat
    rfl
  unfold eqD
  rw [e, e]
  dsimp only
  have sh : ∀ z : Int × Int, SeqAt.shaped (.tuple [.int z.1, .int z.2]) = true := fun z => by
    unfold SeqAt.shaped
    simp [PyData.canLay0, PyData.canLayAll0, PyData.depth, PyData.depthAll]
  rw [if_pos ⟨sh x, sh y⟩]
  congr 1
  simp [PyData.eqv, PyData.eqvAll]
  rw [Bool.eq_iff_iff]
  simp [Prod.ext_iff]
end RI
set_option maxRecDepth 100000
set_option maxHeartbeats 4000000
/-! RQ4: sums of amounts at addresses, in plain Lean. -/
namespace RI
open PySem L2
variable [Xs]
instance memKD (k : List Key) (l : List (List Key)) : Decidable (k ∈ l) := @List.instDecidableMemOfLawfulBEq (List Key) instBEqOfDecidableEq inferInstance k l
abbrev Tm := List Key × (Int × Int)
structure Fm where
  ts : List Tm
  c : Int × Int
def termD (t : Tm) : D := .tup [ofKs t.1, aD t.2]
def fmD (S : Fm) : D := .tup [.tup (S.ts.map termD), aD S.c]
abbrev zeroF : Fm := ⟨[], (0, 1)⟩
/-! ### tables of amounts -/
def findA (l : List Tm) (k : List Key) : Option (Int × Int) := (l.find? fun t => decide (t.1 = k)).map (·.2)
def getA (l : List Tm) (k : List Key) : Int × Int := (findA l k).getD (0, 1)
def putA (l : List Tm) (k : List Key) (a : Int × Int) : List Tm :=
  if (l.any fun t => decide (t.1 = k)) = true then l.map (fun t => if t.1 = k then (t.1, a) else t) else l ++ [(k, a)]
def tbD (l : List Tm) : List (List Key × D) := l.map fun t => (t.1, aD t.2)
theorem tbD_keys (l : List Tm) : (tbD l).map (·.1) = l.map (·.1) := by
  unfold tbD
  rw [List.map_map]
  rfl
theorem valD_tb (l : List Tm) (k : List Key) : valD (tbD l) k = (findA l k).map aD := by
  induction l with
  | nil => rfl
  | cons t l ih =>
    unfold valD findA tbD at *
    rw [List.map_cons, List.find?_cons, List.find?_cons]
    dsimp only
    cases decide (t.1 = k) with
    | true => rfl
    | false => exact ih
theorem putD_tb (l : List Tm) (k : List Key) (a : Int × Int) : putD (tbD l) k (aD a) = tbD (putA l k a) := by
  unfold putD putA
  have e : ((tbD l).any fun p => decide (p.1 = k)) = (l.any fun t => decide (t.1 = k)) := by
    unfold tbD
    rw [List.any_map]
    rfl
  rw [e]
  split
  · unfold tbD
    rw [List.map_map, List.map_map]
    refine List.map_congr_left fun t _ => ?_
    show (if t.1 = k then (t.1, aD a) else (t.1, aD t.2)) = _
    by_cases c : t.1 = k
    · rw [if_pos c]
      show _ = ((if t.1 = k then (t.1, a) else t).1, aD (if t.1 = k then (t.1, a) else t).2)
      rw [if_pos c]
    · rw [if_neg c]
      show _ = ((if t.1 = k then (t.1, a) else t).1, aD (if t.1 = k then (t.1, a) else t).2)
      rw [if_neg c]
  · unfold tbD
    rw [List.map_append]
    rfl
theorem findA_none {l : List Tm} {k : List Key} : findA l k = none ↔ k ∉ l.map (·.1) := by
  unfold findA
  rw [Option.map_eq_none_iff, List.find?_eq_none]
  constructor
  · intro h m
    obtain ⟨t, ht, e⟩ := List.mem_map.mp m
    exact h t ht (decide_eq_true e)
  · intro h t ht e
    exact h (List.mem_map.mpr ⟨t, ht, of_decide_eq_true e⟩)
theorem findA_mem {l : List Tm} {k : List Key} {a : Int × Int} (h : findA l k = some a) : (k, a) ∈ l := by
  unfold findA at h
  obtain ⟨t, ht, e⟩ := Option.map_eq_some_iff.mp h
  have q := List.find?_some ht
  have q : t.1 = k := of_decide_eq_true q
  have m := List.mem_of_find?_eq_some ht
  rw [← q, ← e]
  exact m
theorem findA_at {l : List Tm} (nd : (l.map (·.1)).Nodup) {t : Tm} (h : t ∈ l) : findA l t.1 = some t.2 := by
  cases e : findA l t.1 with
  | none => exact absurd (List.mem_map_of_mem h) (findA_none.mp e)
  | some a =>
    have m := findA_mem e
    induction l with
    | nil => cases h
    | cons u l ih =>
      rw [List.map_cons, List.nodup_cons] at nd
      unfold findA at e
      rw [List.find?_cons] at e
      by_cases c : u.1 = t.1
      · rw [decide_eq_true c] at e
        rcases List.mem_cons.mp h with rfl | h
        · exact e.symm
        · exact absurd (List.mem_map.mpr ⟨t, h, c.symm⟩) nd.1
      · rw [decide_eq_false c] at e
        have h' : t ∈ l := by
          rcases List.mem_cons.mp h with rfl | h
          · exact absurd rfl c
          · exact h
        exact ih nd.2 h' e (findA_mem e)
theorem getA_at {l : List Tm} (nd : (l.map (·.1)).Nodup) {t : Tm} (h : t ∈ l) : getA l t.1 = t.2 := by
  unfold getA
  rw [findA_at nd h]
  rfl
theorem getA_out {l : List Tm} {k : List Key} (h : k ∉ l.map (·.1)) : getA l k = (0, 1) := by
  unfold getA
  rw [findA_none.mpr h]
  rfl
theorem findA_put (l : List Tm) (k j : List Key) (a : Int × Int) : findA (putA l k a) j = if j = k then some a else findA l j := by
  have h := valD_put (tbD l) k j (aD a)
  rw [putD_tb, valD_tb] at h
  have inj : ∀ x y : Option (Int × Int), x.map aD = y.map aD → x = y := by
    intro x y e
    cases x with
    | none =>
      cases y with
      | none => rfl
      | some y => cases e
    | some x =>
      cases y with
      | none => cases e
      | some y =>
        have e := Option.some.inj e
        unfold aD at e
        injection e with e
        injection e with e1 e2
        injection e2 with e2 _
        injection e1 with e1
        injection e2 with e2
        exact congrArg some (Prod.ext e1 e2)
  apply inj
  rw [h]
  split
  · rfl
  · exact valD_tb l j
theorem getA_put (l : List Tm) (k j : List Key) (a : Int × Int) : getA (putA l k a) j = if j = k then a else getA l j := by
  unfold getA
  rw [findA_put]
  split <;> rfl
theorem putA_keys (l : List Tm) (k : List Key) (a : Int × Int) : (putA l k a).map (·.1) = if k ∈ l.map (·.1) then l.map (·.1) else l.map (·.1) ++ [k] := by
  have h := putD_keys (tbD l) k (aD a)
  rw [putD_tb, tbD_keys, tbD_keys] at h
  exact h
theorem putA_mem (l : List Tm) (k j : List Key) (a : Int × Int) : j ∈ (putA l k a).map (·.1) ↔ j = k ∨ j ∈ l.map (·.1) := by
  rw [putA_keys]
  split
  · rename_i h
    constructor
    · exact .inr
    · rintro (rfl | g)
      · exact h
      · exact g
  · rw [List.mem_append, List.mem_singleton, or_comm]
theorem putA_nodup {l : List Tm} (h : (l.map (·.1)).Nodup) (k : List Key) (a : Int × Int) : ((putA l k a).map (·.1)).Nodup := by
  rw [putA_keys]
  split
  · exact h
  · rename_i n
    refine List.nodup_append.mpr ⟨h, List.nodup_cons.mpr ⟨List.not_mem_nil, List.nodup_nil⟩, fun x hx y hy e => n ?_⟩
    rw [← List.mem_singleton.mp hy, ← e]
    exact hx
theorem putA_new {l : List Tm} {k : List Key} (h : k ∉ l.map (·.1)) (a : Int × Int) : putA l k a = l ++ [(k, a)] := by
  unfold putA
  rw [if_neg]
  intro c
  obtain ⟨t, ht, e⟩ := List.any_eq_true.mp c
  exact h (List.mem_map.mpr ⟨t, ht, of_decide_eq_true e⟩)
/-! ### one plus f times two -/
def stepF (f : Int × Int) (F : List Tm) (t : Tm) : List Tm := putA F t.1 (plusA (getA F t.1) (timesA f t.2))
def addF (f : Int × Int) (F : List Tm) (ts : List Tm) : List Tm := ts.foldl (stepF f) F
def outF (F : List Tm) : List Tm := ((isrt ltK (F.map (·.1))).filter fun k => !decide ((getA F k).1 = 0)).map fun k => (k, getA F k)
def addS (f : Int × Int) (S T : Fm) : Fm := ⟨outF (addF f S.ts T.ts), plusA S.c (timesA f T.c)⟩
theorem addF_mem (f : Int × Int) (k : List Key) : ∀ (ts F : List Tm), k ∈ (addF f F ts).map (·.1) ↔ k ∈ F.map (·.1) ∨ k ∈ ts.map (·.1)
  | [], F => by simp [addF]
  | t :: ts, F => by
    show k ∈ (addF f (stepF f F t) ts).map (·.1) ↔ _
    rw [addF_mem f k ts]
    unfold stepF
    rw [putA_mem, List.map_cons, List.mem_cons]
    constructor
    · rintro ((h | h) | h)
      · exact .inr (.inl h)
      · exact .inl h
      · exact .inr (.inr h)
    · rintro (h | h | h)
      · exact .inl (.inr h)
      · exact .inl (.inl h)
      · exact .inr h
theorem addF_nodup (f : Int × Int) : ∀ (ts F : List Tm), (F.map (·.1)).Nodup → ((addF f F ts).map (·.1)).Nodup
  | [], _, h => h
  | t :: ts, F, h => addF_nodup f ts (stepF f F t) (putA_nodup h _ _)
theorem addF_get (f : Int × Int) (k : List Key) : ∀ (ts F : List Tm), (ts.map (·.1)).Nodup → getA (addF f F ts) k = if k ∈ ts.map (·.1) then plusA (getA F k) (timesA f (getA ts k)) else getA F k
  | [], F, _ => by simp [addF]
  | t :: ts, F, nd => by
    rw [List.map_cons, List.nodup_cons] at nd
    show getA (addF f (stepF f F t) ts) k = _
    rw [addF_get f k ts _ nd.2]
    unfold stepF
    rw [getA_put]
    by_cases c : k = t.1
    · subst c
      rw [if_neg nd.1, if_pos rfl, if_pos (by simp)]
      have e : getA (t :: ts) t.1 = t.2 := by
        unfold getA findA
        rw [List.find?_cons, decide_eq_true rfl]
        rfl
      rw [e]
    · rw [if_neg c]
      have e : getA (t :: ts) k = getA ts k := by
        unfold getA findA
        rw [List.find?_cons, decide_eq_false (fun h => c h.symm)]
      rw [e, List.map_cons]
      by_cases m : k ∈ ts.map (·.1)
      · rw [if_pos m, if_pos (List.mem_cons_of_mem _ m)]
      · rw [if_neg m, if_neg (by
          intro h
          rcases List.mem_cons.mp h with h | h
          · exact c h
          · exact m h)]
/-! ### sums in order -/
structure Can (A : List (List Key)) (n : Nat) (S : Fm) : Prop where
  asc : Asc (S.ts.map (·.1))
  sub : ∀ t ∈ S.ts, t.1 ∈ A
  az : ∀ t ∈ S.ts, Az n t.2 ∧ t.2.1 ≠ 0
  caz : Az n S.c
theorem Can.mono {A : List (List Key)} {n m : Nat} {S : Fm} (h : Can A n S) (l : n ≤ m) : Can A m S := ⟨h.asc, h.sub, fun t ht => ⟨(h.az t ht).1.mono l, (h.az t ht).2⟩, h.caz.mono l⟩
theorem asc_len {K A : List (List Key)} (h : Asc K) (nd : A.Nodup) (s : ∀ k ∈ K, k ∈ A) : K.length ≤ A.length := by
  have e : isrt ltK (A.filter fun k => decide (k ∈ K)) = K := by
    refine asc_ext (isrt_asc (nd.filter _)) h fun a => ?_
    rw [isrt_mem, List.mem_filter, decide_eq_true_iff]
    exact ⟨fun q => q.2, fun q => ⟨s a q, q⟩⟩
  rw [← e, isrt_len]
  exact List.length_filter_le _ _
theorem Can.len {A : List (List Key)} {n : Nat} {S : Fm} (h : Can A n S) (nd : A.Nodup) : S.ts.length ≤ A.length := by
  have := asc_len h.asc nd fun k hk => by
    obtain ⟨t, ht, rfl⟩ := List.mem_map.mp hk
    exact h.sub t ht
  rw [List.length_map] at this
  exact this
theorem can_zero (A : List (List Key)) {n : Nat} (h : 1 ≤ n) : Can A n zeroF := ⟨List.Pairwise.nil, fun _ h => absurd h (List.not_mem_nil), fun _ h => absurd h (List.not_mem_nil), az0 n h⟩
theorem getA_az {l : List Tm} {n : Nat} (h1 : 1 ≤ n) (h : ∀ t ∈ l, Az n t.2) (k : List Key) : Az n (getA l k) := by
  unfold getA
  cases e : findA l k with
  | none => exact az0 n h1
  | some a => exact h _ (findA_mem e)
theorem outF_keys (F : List Tm) : (outF F).map (·.1) = (isrt ltK (F.map (·.1))).filter fun k => !decide ((getA F k).1 = 0) := by
  unfold outF
  rw [List.map_map]
  exact List.map_id _
theorem addS_can {A : List (List Key)} {n m p : Nat} {f : Int × Int} {S T : Fm} (hS : Can A n S) (hT : Can A m T) (hf : Az p f) (hn : 1 ≤ n) (hm : 1 ≤ m) : Can A (n + (p + m) + 1) (addS f S T) := by
  have azs : ∀ k, Az (n + (p + m) + 1) (getA (addF f S.ts T.ts) k) := by
    intro k
    rw [addF_get f k T.ts S.ts hT.asc.nodup]
    have a := getA_az hn (fun t ht => (hS.az t ht).1) k
    have b := getA_az hm (fun t ht => (hT.az t ht).1) k
    split
    · exact plusA_az a (timesA_az hf b)
    · exact a.mono (by omega)
  refine ⟨?_, ?_, ?_, plusA_az hS.caz (timesA_az hf hT.caz)⟩
  · show Asc ((outF _).map (·.1))
    rw [outF_keys]
    exact (isrt_asc (addF_nodup f _ _ hS.asc.nodup)).filter _
  · intro t ht
    have m : t.1 ∈ (outF (addF f S.ts T.ts)).map (·.1) := List.mem_map_of_mem ht
    rw [outF_keys, List.mem_filter, isrt_mem, addF_mem] at m
    rcases m.1 with h | h
    · obtain ⟨u, hu, e⟩ := List.mem_map.mp h
      rw [← e]
      exact hS.sub u hu
    · obtain ⟨u, hu, e⟩ := List.mem_map.mp h
      rw [← e]
      exact hT.sub u hu
  · intro t ht
    obtain ⟨k, hk, rfl⟩ := List.mem_map.mp ht
    refine ⟨azs k, ?_⟩
    have := (List.mem_filter.mp hk).2
    simpa using this
theorem outF_eq {F G : List Tm} (hF : (F.map (·.1)).Nodup) (hG : (G.map (·.1)).Nodup) (m : ∀ k, k ∈ F.map (·.1) ↔ k ∈ G.map (·.1)) (g : ∀ k, getA F k = getA G k) : outF F = outF G := by
  unfold outF
  have e : isrt ltK (F.map (·.1)) = isrt ltK (G.map (·.1)) := asc_ext (isrt_asc hF) (isrt_asc hG) fun a => by rw [isrt_mem, isrt_mem]; exact m a
  have g' : getA F = getA G := funext g
  rw [e, g']
theorem addS_swap {A : List (List Key)} {n m : Nat} {S T : Fm} (hS : Can A n S) (hT : Can A m T) : addS (1, 1) T S = addS (1, 1) S T := by
  have one : ∀ {l : List Tm} {n : Nat}, (∀ t ∈ l, Az n t.2 ∧ t.2.1 ≠ 0) → ∀ k, Am (getA l k).1 (getA l k).2 := by
    intro l n h k
    unfold getA
    cases e : findA l k with
    | none => exact ⟨by decide, by decide⟩
    | some a => exact (h _ (findA_mem e)).1.am
  unfold addS
  congr 1
  · refine outF_eq (addF_nodup _ _ _ hT.asc.nodup) (addF_nodup _ _ _ hS.asc.nodup) (fun k => by rw [addF_mem, addF_mem, or_comm]) fun k => ?_
    rw [addF_get _ _ _ _ hS.asc.nodup, addF_get _ _ _ _ hT.asc.nodup, timesA_one (one hS.az k), timesA_one (one hT.az k)]
    by_cases c : k ∈ S.ts.map (·.1)
    · rw [if_pos c]
      by_cases d : k ∈ T.ts.map (·.1)
      · rw [if_pos d, plusA_comm]
      · rw [if_neg d, getA_out d, plusA_zero (one hS.az k)]
    · rw [if_neg c]
      by_cases d : k ∈ T.ts.map (·.1)
      · rw [if_pos d, getA_out c, plusA_zero (one hT.az k)]
      · rw [if_neg d, getA_out c, getA_out d]
  · rw [timesA_one hS.caz.am, timesA_one hT.caz.am, plusA_comm]
def mulF (f : Int × Int) (T : Fm) : Fm := ⟨T.ts.map fun t => (t.1, timesA f t.2), timesA f T.c⟩
theorem addS_mul {A : List (List Key)} {n p : Nat} {f : Int × Int} {T : Fm} (hT : Can A n T) (hf : Az p f) : addS f zeroF T = if f.1 = 0 then zeroF else mulF f T := by
  have g : ∀ t ∈ T.ts, getA (addF f [] T.ts) t.1 = timesA f t.2 := by
    intro t ht
    rw [addF_get _ _ _ _ hT.asc.nodup, if_pos (List.mem_map_of_mem ht), getA_at hT.asc.nodup ht]
    have : getA [] t.1 = (0, 1) := rfl
    rw [this, plusA_zero (timesA_az hf (hT.az t ht).1).am]
  have ke : isrt ltK ((addF f [] T.ts).map (·.1)) = T.ts.map (·.1) := by
    refine asc_ext (isrt_asc (addF_nodup _ _ _ List.nodup_nil)) hT.asc fun a => ?_
    rw [isrt_mem, addF_mem]
    simp
  have ce : plusA (0, 1) (timesA f T.c) = timesA f T.c := plusA_zero (timesA_az hf hT.caz).am
  unfold addS outF
  dsimp only
  rw [ke, ce]
  split
  · rename_i z
    have e : (T.ts.map (·.1)).filter (fun k => !decide ((getA (addF f [] T.ts) k).1 = 0)) = [] := by
      rw [List.filter_eq_nil_iff]
      intro k hk
      obtain ⟨t, ht, rfl⟩ := List.mem_map.mp hk
      rw [g t ht, timesA_zero hf.am (hT.az t ht).1.am z]
      decide
    rw [e, timesA_zero hf.am hT.caz.am z]
    rfl
  · rename_i z
    have e : (T.ts.map (·.1)).filter (fun k => !decide ((getA (addF f [] T.ts) k).1 = 0)) = T.ts.map (·.1) := by
      rw [List.filter_eq_self]
      intro k hk
      obtain ⟨t, ht, rfl⟩ := List.mem_map.mp hk
      rw [g t ht]
      have : ¬ (timesA f t.2).1 = 0 := by
        rw [timesA_ne hf.am (hT.az t ht).1.am]
        rintro (h | h)
        · exact z h
        · exact (hT.az t ht).2 h
      simpa using this
    rw [e]
    unfold mulF
    congr 1
    rw [List.map_map]
    refine List.map_congr_left fun t ht => ?_
    show (t.1, getA (addF f [] T.ts) t.1) = _
    rw [g t ht]
/-- the program's own way: one dict, both sums put in -/
theorem addF_self {n : Nat} : ∀ (ts F : List Tm), (∀ t ∈ ts, Az n t.2) → ((F ++ ts).map (·.1)).Nodup → addF (1, 1) F ts = F ++ ts
  | [], F, _, _ => (List.append_nil F).symm
  | t :: ts, F, az, nd => by
    have n1 : t.1 ∉ F.map (·.1) := by
      rw [List.map_append, List.map_cons] at nd
      intro h
      exact (List.nodup_append.mp nd).2.2 _ h _ List.mem_cons_self rfl
    show addF (1, 1) (stepF (1, 1) F t) ts = _
    have am := (az t List.mem_cons_self).am
    have e : stepF (1, 1) F t = F ++ [t] := by
      unfold stepF
      rw [putA_new n1, getA_out n1, timesA_one am, plusA_zero am]
    rw [e, addF_self ts (F ++ [t]) (fun u hu => az u (List.mem_cons_of_mem _ hu)) (by rw [List.append_assoc]; exact nd), List.append_assoc]
    rfl
/-- the value at a point -/
def valF (p : List Key → Int × Int) (S : Fm) : Int × Int := S.ts.foldl (fun a t => plusA a (timesA t.2 (p t.1))) S.c
end RI
set_option maxRecDepth 100000
set_option maxHeartbeats 4000000
/-! RQ5: walks over lists and tuples alike; sums as values. -/
namespace RI
open PySem L2
variable [Xs]
section
variable {B : Tb} {ρ : Env} {s : Store} {Q : D → Store → Prop} {X : Exn → Store → Prop}
variable {N : Env → Store → Prop} {R : D → Store → Prop} {Bk Ct : Env → Store → Prop} {Y : Exn → Env → Store → Prop}
theorem w_seqA {x : D} {l : List D} {Qw : Walk → Store → Prop} (e : seqOf s x = some l) (h : ∀ w : Walk, w.items = l → (∀ s', seqOf s' x = some l → w.ok s') → Qw w s) : wp (seqK x s) Qw X := by
  cases x with
  | tup t =>
    cases e
    exact w_seqT (h _ rfl fun _ _ p hp => absurd hp (List.not_mem_nil))
  | ref n =>
    have e' : lstOf s (.ref n) = some l := e
    refine w_seqL e' (h _ rfl fun s' hs p hp => ?_)
    have ep : p = (n, l) := by simpa using hp
    subst ep
    exact hs
  | non => cases e
  | bl _ => cases e
  | int _ => cases e
  | str _ => cases e
theorem f_seqT {t : T} {e : E} {b : Ss} (h : wp (ev B e ρ s) (fun x s1 => ∃ (l : List D) (J : Nat → Env → Store → Prop), seqOf s1 x = some l ∧ J 0 ρ s1 ∧ (∀ k ρ s, J k ρ s → seqOf s x = some l) ∧
      (∀ (k : Nat) d ρ s, l[k]? = some d → J k ρ s → ∃ ρ', asgT t d ρ s = some ρ' ∧ wf (exSs B b ρ' s) (J (k + 1)) R N (J (k + 1)) Y) ∧ ∀ ρ s, J l.length ρ s → N ρ s) fun x s1 => Y x ρ s1) : wf (exS B (.for t (.seq e) b) ρ s) N R Bk Ct Y := by
  refine f_forT (w_iseq (w_mono h ?_ fun _ _ z => z))
  rintro x s1 ⟨l, J, e, j0, keep, step, out⟩
  refine w_seqA e fun w hw ok => ?_
  subst hw
  exact ⟨J, j0, fun k ρ s hj => ok s (keep k ρ s hj), step, out⟩
theorem asg2 {i j : Nat} {d a b : D} (e : seqOf s d = some [a, b]) : asgT (.tup (Ts.of [.name i, .name j])) d ρ s = some ((ρ.set i (some a)).set j (some b)) := by
  unfold asgT
  rw [e]
  rfl
theorem asg1 {i : Nat} {d : D} : asgT (.name i) d ρ s = some (ρ.set i (some d)) := by rw [asgT]
/-- a comprehension over a list or a tuple, the items give values -/
theorem w_lcA {e x : E} {t : T} {cond : Es} {own : List Nat} (h : wp (ev B x ρ s) (fun x s1 => ∃ l, seqOf s1 x = some l ∧ l.length ≤ most ∧ ∃ (c : D → Bool) (f : D → D),
      (∀ d acc, d ∈ l → ∃ ρ', asgT t d (wipeD ρ own) (s1 ++ [.lst acc]) = some ρ' ∧ wp (evC B cond ρ' (s1 ++ [.lst acc])) (fun b s2 => b = c d ∧ s2 = s1 ++ [.lst acc]) (fun _ _ => False) ∧ (c d = true → wp (ev B e ρ' (s1 ++ [.lst acc])) (fun x s3 => x = f d ∧ s3 = s1 ++ [.lst acc]) fun _ _ => False)) ∧
      Q (.ref s1.length) (s1 ++ [.lst ((l.filter c).map f)])) X) : wp (ev B (.lc e t (.seq x) cond own) ρ s) Q X := by
  refine w_lcP (w_iseq (w_mono h (fun x s1 ⟨l, e, le, c, f, step, out⟩ => ?_) fun _ _ z => z))
  refine w_seqA e fun w hw ok => ?_
  subst hw
  exact ⟨le, fun acc => ok _ ((Ext.new1 s1 (.lst acc)).seq e), c, f, step, out⟩
theorem src_seq {s : Store} {x : D} {l : List D} (e : seqOf s x = some l) : ∃ h, srcOf s x = some (l, h) ∧ ∀ s', seqOf s' x = some l → ∀ p ∈ h, lstOf s' (.ref p.1) = some p.2 := by
  cases x with
  | tup t =>
    cases e
    exact ⟨[], rfl, fun _ _ p hp => absurd hp (List.not_mem_nil)⟩
  | ref n =>
    have e' : lstOf s (.ref n) = some l := e
    refine ⟨[(n, l)], ?_, fun s' hs p hp => ?_⟩
    · show (lstOf s (.ref n)).map (fun l => (l, [(n, l)])) = _
      rw [e']
      rfl
    · have ep : p = (n, l) := by simpa using hp
      subst ep
      exact hs
  | non => cases e
  | bl _ => cases e
  | int _ => cases e
  | str _ => cases e
/-- for a, b in zip of two sources that stay -/
theorem f_zip {t : T} {a b : E} {c : Ss} (h : wp (ev B a ρ s) (fun x s1 => wp (ev B b ρ s1) (fun y s2 => ∃ (l m : List D) (J : Nat → Env → Store → Prop), seqOf s2 x = some l ∧ seqOf s2 y = some m ∧ J 0 ρ s2 ∧ (∀ k ρ s, J k ρ s → seqOf s x = some l ∧ seqOf s y = some m) ∧
      (∀ (k : Nat) d e ρ s, l[k]? = some d → m[k]? = some e → J k ρ s → ∃ ρ', asgT t (.tup [d, e]) ρ s = some ρ' ∧ wf (exSs B c ρ' s) (J (k + 1)) R N (J (k + 1)) Y) ∧ ∀ ρ s, J (min l.length m.length) ρ s → N ρ s) fun x s1 => Y x ρ s1) fun x s1 => Y x ρ s1) : wf (exS B (.for t (.zip a b) c) ρ s) N R Bk Ct Y := by
  refine f_forT (w_mono (r := evI B (.zip a b) ρ s) (Q' := fun w s1 => ∃ J : Nat → Env → Store → Prop, J 0 ρ s1 ∧ (∀ k ρ s, J k ρ s → w.ok s) ∧
      (∀ k d ρ s, w.items[k]? = some d → J k ρ s → ∃ ρ', asgT t d ρ s = some ρ' ∧ wf (exSs B c ρ' s) (J (k + 1)) R N (J (k + 1)) Y) ∧ ∀ ρ s, J w.items.length ρ s → N ρ s) ?_ (fun _ _ q => q) fun _ _ z => z)
  rw [evI]
  refine w_bnd (w_mono h (fun x s1 q => w_bnd (w_mono q (fun y s2 q => ?_) fun _ _ z => z)) fun _ _ z => z)
  obtain ⟨l, m, J, e1, e2, j0, keep, step, out⟩ := q
  obtain ⟨h1, g1, k1⟩ := src_seq e1
  obtain ⟨h2, g2, k2⟩ := src_seq e2
  unfold zipK
  rw [g1, g2]
  refine ⟨⟨J, j0, fun k ρ s hj p hp => ?_, fun k d ρ s hd hj => ?_, fun ρ s hj => out ρ s ?_⟩⟩
  · obtain ⟨a1, a2⟩ := keep k ρ s hj
    rcases List.mem_append.mp hp with hp | hp
    · exact k1 s a1 p hp
    · exact k2 s a2 p hp
  · have hd : (List.zipWith (fun a b => D.tup [a, b]) l m)[k]? = some d := hd
    rw [List.getElem?_zipWith] at hd
    cases q1 : l[k]? with
    | none => rw [q1] at hd; cases hd
    | some x0 =>
      cases q2 : m[k]? with
      | none => rw [q1, q2] at hd; cases hd
      | some y0 =>
        rw [q1, q2] at hd
        cases hd
        exact step k x0 y0 ρ s q1 q2 hj
  · have hj : J (List.zipWith (fun a b => D.tup [a, b]) l m).length ρ s := hj
    rw [List.length_zipWith] at hj
    exact hj
/-- one over a range -/
theorem w_lcR {e x : E} {i : Nat} {cond : Es} {own : List Nat} (h : wp (ev B x ρ s) (fun x s1 => ∃ n : Nat, x = .int n ∧ n ≤ most ∧ ∃ (c : Nat → Bool) (f : Nat → D),
      (∀ (k : Nat) acc, k < n → wp (evC B cond ((wipeD ρ own).set i (some (.int k))) (s1 ++ [.lst acc])) (fun b s2 => b = c k ∧ s2 = s1 ++ [.lst acc]) (fun _ _ => False) ∧ (c k = true → wp (ev B e ((wipeD ρ own).set i (some (.int k))) (s1 ++ [.lst acc])) (fun x s3 => x = f k ∧ s3 = s1 ++ [.lst acc]) fun _ _ => False)) ∧
      Q (.ref s1.length) (s1 ++ [.lst (((List.range n).filter c).map f)])) X) : wp (ev B (.lc e (.name i) (.rng1 x) cond own) ρ s) Q X := by
  refine w_lcP (w_irng (w_mono h (fun x s1 ⟨n, e, le, c, f, step, out⟩ => ?_) fun _ _ z => z))
  subst e
  refine w_rng1 (by unfold most at le; omega) ?_
  rw [Int.toNat_natCast]
  refine ⟨by simpa using le, fun acc p hp => absurd hp (List.not_mem_nil), fun d => (match d with | .int k => c k.toNat | _ => false), fun d => (match d with | .int k => f k.toNat | _ => .non), ?_, ?_⟩
  · intro d acc hd
    obtain ⟨k, hk, rfl⟩ := List.mem_map.mp hd
    exact ⟨_, asg1, step k acc (List.mem_range.mp hk)⟩
  · dsimp only
    have e1 : (((List.range n).map fun k => D.int (k : Nat)).filter fun d => (match d with | .int k => c k.toNat | _ => false)) = ((List.range n).filter c).map fun k => D.int (k : Nat) := by
      rw [List.filter_map]
      rfl
    rw [e1, List.map_map]
    exact out
end
/-! ### sums as values -/
theorem Lk.cons2 {s : Store} {l : List D} {v w : D} (h : LkAll s l [v, w]) : ∃ a b, l = [a, b] ∧ Lk s a v ∧ Lk s b w := by
  cases h with
  | cons h1 t =>
    cases t with
    | cons h2 t =>
      cases t with
      | nil => exact ⟨_, _, rfl, h1, h2⟩
theorem Lk.pair {s : Store} {d v w : D} (h : Lk s d (.tup [v, w])) : ∃ a b, seqOf s d = some [a, b] ∧ Lk s a v ∧ Lk s b w := by
  obtain ⟨l, e, r⟩ := h.tup
  obtain ⟨a, b, rfl, h1, h2⟩ := Lk.cons2 r
  exact ⟨a, b, e, h1, h2⟩
abbrev LkT (s : Store) (l : List D) (ts : List Tm) : Prop := LkAll s l (ts.map termD)
theorem Lk.fm {s : Store} {d : D} {S : Fm} (h : Lk s d (fmD S)) : ∃ d0 d1 l, seqOf s d = some [d0, d1] ∧ seqOf s d0 = some l ∧ LkT s l S.ts ∧ seqOf s d1 = some [.int S.c.1, .int S.c.2] := by
  obtain ⟨a, b, e, h1, h2⟩ := Lk.pair h
  obtain ⟨l, e1, r⟩ := h1.tup
  exact ⟨a, b, l, e, e1, r, h2.amt⟩
theorem Lk.term {s : Store} {d : D} {t : Tm} (h : Lk s d (termD t)) : ∃ a b, seqOf s d = some [a, b] ∧ seqOf s a = some (t.1.map ofK) ∧ seqOf s b = some [.int t.2.1, .int t.2.2] := by
  obtain ⟨a, b, e, h1, h2⟩ := Lk.pair h
  exact ⟨a, b, e, h1.key, h2.amt⟩
theorem LkT.nth {s : Store} {l : List D} {ts : List Tm} (h : LkT s l ts) {j : Nat} {d : D} (hd : l[j]? = some d) : ∃ t, ts[j]? = some t ∧ Lk s d (termD t) := by
  have hj : j < ts.length := by
    have := (List.getElem?_eq_some_iff.mp hd).1
    rw [h.len, List.length_map] at this
    exact this
  obtain ⟨d', e, r⟩ := h.get (i := j) (v := termD ts[j]) (by rw [List.getElem?_map, List.getElem?_eq_getElem hj]; rfl)
  rw [hd] at e
  cases e
  exact ⟨_, List.getElem?_eq_getElem hj, r⟩
theorem LkT.mem {s : Store} {l : List D} {ts : List Tm} (h : LkT s l ts) {d : D} (hd : d ∈ l) : ∃ t ∈ ts, Lk s d (termD t) := by
  obtain ⟨j, e⟩ := List.mem_iff_getElem?.mp hd
  obtain ⟨t, et, r⟩ := h.nth e
  exact ⟨t, List.mem_of_getElem? et, r⟩
theorem LkAll.app {s : Store} : ∀ {l l' m m' : List D}, LkAll s l m → LkAll s l' m' → LkAll s (l ++ l') (m ++ m')
  | _, _, _, _, .nil, h => h
  | _, _, _, _, .cons a t, h => .cons a (LkAll.app t h)
theorem LkT.app {s : Store} {l l' : List D} {ts us : List Tm} (h : LkT s l ts) (g : LkT s l' us) : LkT s (l ++ l') (ts ++ us) := by
  show LkAll s _ ((ts ++ us).map termD)
  rw [List.map_append]
  exact LkAll.app h g
/-- what is read off an item -/
def itK (s : Store) (d : D) : List Key := match seqOf s d with
  | some [a, _] => ((seqOf s a).bind keysD).getD []
  | _ => []
def itA (s : Store) (d : D) : Int × Int := match seqOf s d with
  | some [_, b] => (match seqOf s b with
    | some [.int p, .int q] => (p, q)
    | _ => (0, 1))
  | _ => (0, 1)
theorem it_at {s : Store} {d : D} {t : Tm} (h : Lk s d (termD t)) : itK s d = t.1 ∧ itA s d = t.2 := by
  obtain ⟨a, b, e, h1, h2⟩ := h.term
  unfold itK itA
  rw [e]
  dsimp only
  rw [h1, h2, Option.bind_some, keysD_ofK]
  exact ⟨rfl, rfl⟩
theorem map_it {s : Store} (g : Tm → D) : ∀ {l : List D} {ts : List Tm}, LkT s l ts → l.map (fun d => g (itK s d, itA s d)) = ts.map g
  | [], [], _ => rfl
  | [], _ :: _, h => by cases h
  | _ :: _, [], h => by cases h
  | d :: l, t :: ts, h => by
    cases h with
    | cons h1 h2 =>
      rw [List.map_cons, List.map_cons, map_it g h2, (it_at h1).1, (it_at h1).2]
theorem filter_true {α : Type} (l : List α) : l.filter (fun _ => true) = l := by simp
theorem fm_pure (S : Fm) : pureD (fmD S) = true := by
  have q : ∀ ts : List Tm, pureDs (ts.map termD) = true := by
    intro ts
    induction ts with
    | nil => unfold List.map pureDs; rfl
    | cons t ts ih =>
      rw [List.map_cons]
      unfold pureDs
      rw [ih, Bool.and_true]
      unfold termD pureD pureDs
      rw [pure_kD, Bool.true_and]
      unfold pureDs
      rw [pure_aD, Bool.true_and]
      unfold pureDs
      rfl
  unfold fmD pureD pureDs
  rw [Bool.and_eq_true]
  refine ⟨?_, ?_⟩
  · unfold pureD
    exact q _
  · unfold pureDs
    rw [pure_aD, Bool.true_and]
    unfold pureDs
    rfl
theorem Lk.fmS (s : Store) (S : Fm) : Lk s (fmD S) (fmD S) := Lk.self (fm_pure S)
theorem lkT_self (s : Store) (ts : List Tm) : LkT s (ts.map termD) ts := by
  obtain ⟨l, e, r⟩ := Lk.tup (Lk.self (s := s) (d := .tup (ts.map termD)) (by
    have := fm_pure ⟨ts, (0, 1)⟩
    unfold fmD pureD pureDs at this
    exact (Bool.and_eq_true_iff.mp this).1))
  cases e
  exact r
theorem pu_fm {A : List (List Key)} {n : Nat} {S : Fm} (tx : ∀ k ∈ A, Tx k) (h : Can A n S) (l : S.ts.length ≤ 1000) : Pu 4 (fmD S) := by
  refine .tup (by simp) fun d hd => ?_
  rcases List.mem_cons.mp hd with rfl | hd
  · refine .tup (by simpa using l) fun d hd => ?_
    obtain ⟨t, ht, rfl⟩ := List.mem_map.mp hd
    refine .tup (by simp) fun d hd => ?_
    rcases List.mem_cons.mp hd with rfl | hd
    · exact (tx _ (h.sub t ht)).pu
    · rcases List.mem_cons.mp hd with rfl | hd
      · exact pu_aD _
      · exact absurd hd (List.not_mem_nil)
  · rcases List.mem_cons.mp hd with rfl | hd
    · exact (pu_aD _).mono (by decide)
    · exact absurd hd (List.not_mem_nil)
/-! ### on the way -/
theorem nd_take {α : Type} {l : List α} (nd : l.Nodup) {j : Nat} {x : α} (h : l[j]? = some x) : x ∉ l.take j := by
  intro hx
  have e := List.take_append_drop j l
  rw [← e] at nd
  refine (List.nodup_append.mp nd).2.2 x hx x ?_ rfl
  obtain ⟨hj, e⟩ := List.getElem?_eq_some_iff.mp h
  rw [← e, List.drop_eq_getElem_cons hj]
  exact List.mem_cons_self
theorem take_succ {α : Type} {l : List α} {j : Nat} {x : α} (h : l[j]? = some x) : l.take (j + 1) = l.take j ++ [x] := by
  rw [List.take_add_one, h]
  rfl
theorem addF_snoc (f : Int × Int) (F ts : List Tm) (t : Tm) : addF f F (ts ++ [t]) = stepF f (addF f F ts) t := by
  unfold addF
  rw [List.foldl_append]
  rfl
theorem addF_app (f : Int × Int) (F ts us : List Tm) : addF f F (ts ++ us) = addF f (addF f F ts) us := by
  unfold addF
  rw [List.foldl_append]
theorem keys_at {ts : List Tm} {j : Nat} {t : Tm} (h : ts[j]? = some t) : (ts.map (·.1))[j]? = some t.1 := by
  rw [List.getElem?_map, h]
  rfl
theorem addF_preT {A : List (List Key)} {n m : Nat} {f : Int × Int} {S T : Fm} (hS : Can A n S) (hT : Can A m T) (hn : 1 ≤ n) {j : Nat} {t : Tm} (h : T.ts[j]? = some t) : Az n (getA (addF f S.ts (T.ts.take j)) t.1) := by
  have nd := hT.asc.nodup
  have o := nd_take nd (keys_at h)
  rw [← List.map_take] at o
  rw [addF_get _ _ _ _ (by rw [List.map_take]; exact nd.sublist (List.take_sublist _ _)), if_neg o]
  exact getA_az hn (fun t ht => (hS.az t ht).1) _
theorem addF_all {A : List (List Key)} {n : Nat} {S : Fm} (hS : Can A n S) (T : List Tm) : addF (1, 1) [] (S.ts ++ T) = addF (1, 1) S.ts T := by
  rw [addF_app, addF_self S.ts [] (fun t ht => (hS.az t ht).1) hS.asc.nodup]
  rfl
theorem addF_pre {A : List (List Key)} {n m : Nat} {S T : Fm} (hS : Can A n S) (hT : Can A m T) (hn : 1 ≤ n) {j : Nat} {t : Tm} (h : (S.ts ++ T.ts)[j]? = some t) : Az n (getA (addF (1, 1) [] ((S.ts ++ T.ts).take j)) t.1) ∧ (Az n t.2 ∨ Az m t.2) ∧ t.1 ∈ A := by
  by_cases c : j < S.ts.length
  · rw [List.getElem?_append_left c] at h
    have o := nd_take hS.asc.nodup (keys_at h)
    rw [← List.map_take] at o
    rw [List.take_append_of_le_length (Nat.le_of_lt c), getA_out (fun q => ((addF_mem _ _ _ _).mp q).elim (fun h => absurd h (List.not_mem_nil)) o)]
    exact ⟨az0 n hn, .inl (hS.az t (List.mem_of_getElem? h)).1, hS.sub t (List.mem_of_getElem? h)⟩
  · rw [List.getElem?_append_right (by omega)] at h
    have e : (S.ts ++ T.ts).take j = S.ts ++ T.ts.take (j - S.ts.length) := by
      rw [List.take_append, List.take_of_length_le (by omega)]
    rw [e, addF_all hS]
    exact ⟨addF_preT hS hT hn h, .inr (hT.az t (List.mem_of_getElem? h)).1, hT.sub t (List.mem_of_getElem? h)⟩
theorem addF_len (f : Int × Int) (ts F : List Tm) : (addF f F ts).length ≤ F.length + ts.length := by
  induction ts generalizing F with
  | nil => exact Nat.le_refl _
  | cons t ts ih =>
    show (addF f (stepF f F t) ts).length ≤ _
    have := ih (stepF f F t)
    have q : (stepF f F t).length ≤ F.length + 1 := by
      unfold stepF putA
      split
      · rw [List.length_map]
        omega
      · simp
    rw [List.length_cons]
    omega
theorem tbD_len (l : List Tm) : (tbD l).length = l.length := List.length_map _
end RI
set_option maxRecDepth 100000
set_option maxHeartbeats 4000000
/-! RQ6: sums under weights: a sum and a multiple of another one, in one step and in two. -/
namespace RI
open PySem L2
variable [Xs]
theorem outF_ext {F G : List Tm} (hF : (F.map (·.1)).Nodup) (hG : (G.map (·.1)).Nodup) (g : ∀ k, getA F k = getA G k) : outF F = outF G := by
  have g' : getA F = getA G := funext g
  have key : ∀ {F : List Tm} {k : List Key}, ¬ (getA F k).1 = 0 → k ∈ F.map (·.1) := by
    intro F k h
    cases e : findA F k with
    | none =>
      exfalso
      apply h
      unfold getA
      rw [e]
      rfl
    | some a => exact List.mem_map.mpr ⟨(k, a), findA_mem e, rfl⟩
  unfold outF
  rw [g']
  congr 1
  refine asc_ext ((isrt_asc hF).filter _) ((isrt_asc hG).filter _) fun k => ?_
  rw [List.mem_filter, List.mem_filter, isrt_mem, isrt_mem]
  constructor
  · rintro ⟨_, h⟩
    exact ⟨key (by simpa using h), h⟩
  · rintro ⟨_, h⟩
    refine ⟨key ?_, h⟩
    rw [g']
    simpa using h
theorem mulF_keys (f : Int × Int) (T : Fm) : (mulF f T).ts.map (·.1) = T.ts.map (·.1) := by
  unfold mulF
  rw [List.map_map]
  rfl
theorem mulF_get {A : List (List Key)} {n p : Nat} {f : Int × Int} {T : Fm} (hT : Can A n T) (hf : Az p f) (k : List Key) : getA (mulF f T).ts k = timesA f (getA T.ts k) := by
  have nd := hT.asc.nodup
  have zr : timesA f (0, 1) = (0, 1) := am_zero (x := timesA f (0, 1)) (timesA_az hf (az0 1 (by decide))).am ((timesA_ne hf.am (az0 1 (by decide)).am).mpr (.inr rfl))
  by_cases m : k ∈ T.ts.map (·.1)
  · obtain ⟨t, ht, rfl⟩ := List.mem_map.mp m
    rw [getA_at nd ht]
    have ht' : (t.1, timesA f t.2) ∈ (mulF f T).ts := List.mem_map.mpr ⟨t, ht, rfl⟩
    exact getA_at (by rw [mulF_keys]; exact nd) ht'
  · rw [getA_out m, getA_out (by rw [mulF_keys]; exact m), zr]
theorem mulF_can {A : List (List Key)} {n p : Nat} {f : Int × Int} {T : Fm} (hT : Can A n T) (hf : Az p f) (z : ¬ f.1 = 0) : Can A (p + n) (mulF f T) := by
  refine ⟨by rw [mulF_keys]; exact hT.asc, ?_, ?_, timesA_az hf hT.caz⟩
  · intro t ht
    obtain ⟨u, hu, rfl⟩ := List.mem_map.mp ht
    exact hT.sub u hu
  · intro t ht
    obtain ⟨u, hu, rfl⟩ := List.mem_map.mp ht
    refine ⟨timesA_az hf (hT.az u hu).1, ?_⟩
    show ¬ (timesA f u.2).1 = 0
    rw [timesA_ne hf.am (hT.az u hu).1.am]
    rintro (h | h)
    · exact z h
    · exact (hT.az u hu).2 h
/-- a sum, and a multiple of another one, are added: in two steps as in one -/
theorem addS_two {A : List (List Key)} {n m p : Nat} {f : Int × Int} {S T : Fm} (hS : Can A n S) (hT : Can A m T) (hf : Az p f) (hn : 1 ≤ n) (hm : 1 ≤ m) : addS (1, 1) S (addS f zeroF T) = addS f S T := by
  rw [addS_mul hT hf]
  have azS : ∀ k, Az n (getA S.ts k) := fun k => getA_az hn (fun t ht => (hS.az t ht).1) k
  have azT : ∀ k, Az m (getA T.ts k) := fun k => getA_az hm (fun t ht => (hT.az t ht).1) k
  by_cases z : f.1 = 0
  · rw [if_pos z]
    have tz : ∀ k, timesA f (getA T.ts k) = (0, 1) := fun k => timesA_zero hf.am (azT k).am z
    unfold addS
    congr 1
    · refine outF_ext hS.asc.nodup (addF_nodup _ _ _ hS.asc.nodup) fun k => ?_
      show getA S.ts k = _
      rw [addF_get _ _ _ _ hT.asc.nodup]
      split
      · rw [tz, plusA_zeroR (azS k).am]
      · rfl
    · rw [timesA_one (az0 1 (by decide)).am, timesA_zero hf.am hT.caz.am z]
  · rw [if_neg z]
    have c := mulF_can hT hf z
    unfold addS
    congr 1
    · refine outF_ext (addF_nodup _ _ _ hS.asc.nodup) (addF_nodup _ _ _ hS.asc.nodup) fun k => ?_
      rw [addF_get _ _ _ _ c.asc.nodup, addF_get _ _ _ _ hT.asc.nodup, mulF_keys, mulF_get hT hf, timesA_one (timesA_az hf (azT k)).am]
    · show plusA S.c (timesA (1, 1) (timesA f T.c)) = _
      rw [timesA_one (timesA_az hf hT.caz).am]
end RI
set_option maxRecDepth 100000
set_option maxHeartbeats 4000000
set_option exponentiation.threshold 10000
/-! RQ7: comprehensions by place; comprehensions whose test grows the store. -/
namespace RI
open PySem L2
variable [Xs]
section
variable {B : Tb} {ρ : Env} {s : Store} {Q : D → Store → Prop} {X : Exn → Store → Prop}
/-- the item i gives the value i of rs, the store stays -/
theorem w_lcI {e x : E} {t : T} {own : List Nat} (h : wp (ev B x ρ s) (fun x s1 => ∃ l rs : List D, seqOf s1 x = some l ∧ l.length ≤ most ∧ rs.length = l.length ∧
      (∀ (i : Nat) d r acc, l[i]? = some d → rs[i]? = some r → ∃ ρ', asgT t d (wipeD ρ own) (s1 ++ [.lst acc]) = some ρ' ∧ wp (ev B e ρ' (s1 ++ [.lst acc])) (fun x s3 => x = r ∧ s3 = s1 ++ [.lst acc]) fun _ _ => False) ∧
      Q (.ref s1.length) (s1 ++ [.lst rs])) X) : wp (ev B (.lc e t (.seq x) (Es.of []) own) ρ s) Q X := by
  refine w_lc (w_iseq (w_mono h (fun x s1 ⟨l, rs, e, le, el, step, out⟩ => ?_) fun _ _ z => z))
  refine w_seqA e fun w hw ok => ?_
  subst hw
  refine ⟨fun k s' => s' = s1 ++ [.lst (rs.take k)] ∧ k ≤ w.items.length, ⟨rfl, Nat.zero_le _⟩, ?_, ?_, ?_⟩
  · rintro k s' ⟨rfl, _⟩
    exact ok _ ((Ext.new1 s1 _).seq e)
  · rintro k d s' hd ⟨rfl, _⟩
    have hk : k < w.items.length := (List.getElem?_eq_some_iff.mp hd).1
    have er : rs[k]? = some rs[k] := List.getElem?_eq_getElem (by omega)
    obtain ⟨ρ', e1, q⟩ := step k d _ (rs.take k) hd er
    refine ⟨ρ', e1, w_get evC_nil ?_⟩
    rintro b s2 ⟨rfl, rfl⟩
    refine br_t (w_get q ?_)
    rintro x s3 ⟨rfl, rfl⟩
    refine ⟨_, get_new _ _, ?_, ?_, by omega⟩
    · exact Nat.le_trans (List.length_take_le _ _) (by omega)
    · rw [set_new, take_succ er]
  · rintro s' ⟨rfl, _⟩
    rw [← el, List.take_length]
    exact out
/-- [x for x in l if c x], where the test grows the store -/
theorem w_lcC {x y : E} {i : Nat} {own : List Nat} (h : wp (ev B x ρ s) (fun x s1 => ∃ (l : List D) (c : D → Bool), seqOf s1 x = some l ∧ l.length ≤ most ∧ (wipeD ρ own).length > i ∧
      (∀ d s', d ∈ l → Ext s1 s' → wp (ev B y ((wipeD ρ own).set i (some d)) s') (fun x s2 => wp (truK x s2) (fun b s3 => b = c d ∧ Ext s' s3) fun _ _ => False) fun _ _ => False) ∧
      ∀ s', Ext s1 s' → s'[s1.length]? = some (.lst (l.filter c)) → Q (.ref s1.length) s') X) : wp (ev B (.lc (.var i) (.name i) (.seq x) (Es.of [y]) own) ρ s) Q X := by
  refine w_lc (w_iseq (w_mono h (fun x s1 ⟨l, c, e, le, il, step, out⟩ => ?_) fun _ _ z => z))
  refine w_seqA e fun w hw ok => ?_
  subst hw
  refine ⟨fun k s' => Ext s1 s' ∧ s'[s1.length]? = some (.lst ((w.items.take k).filter c)), ⟨Ext.new1 _ _, get_new _ _⟩, ?_, ?_, ?_⟩
  · rintro k s' ⟨x, _⟩
    exact ok _ (x.seq e)
  · rintro k d s' hd ⟨x1, hl⟩
    have hk : k < w.items.length := (List.getElem?_eq_some_iff.mp hd).1
    refine ⟨_, asg1, w_get (evC_one (step d s' (List.mem_of_getElem? hd) x1)) ?_⟩
    rintro b s2 ⟨rfl, x2⟩
    have hl2 := x2.get hl
    refine br (fun cb => ?_) (fun cb => ?_)
    · refine w_var (d := d) (by rw [List.getElem?_set_self il]) ?_
      refine ⟨_, hl2, ?_, ?_, ?_⟩
      · exact Nat.le_trans (List.length_filter_le _ _) (Nat.le_trans (List.length_take_le _ _) (by omega))
      · exact (x1.trans x2).set (Nat.le_refl _)
      · rw [List.getElem?_set_self (List.getElem?_eq_some_iff.mp hl2).1, take_succ hd, List.filter_append]
        simp [cb]
    · refine ⟨x1.trans x2, ?_⟩
      rw [hl2, take_succ hd, List.filter_append]
      simp [cb]
  · rintro s' ⟨x1, hl⟩
    rw [List.take_length] at hl
    exact out s' x1 hl
end
theorem cutD_to {α : Type} (A : List α) (a : Nat) : cutD A none (some (a : Int)) = A.take a := by
  unfold cutD HT.sIx
  dsimp only
  rw [if_neg (by omega), Int.toNat_natCast, Nat.sub_zero, List.drop_zero]
  by_cases h : a ≤ A.length
  · rw [Nat.min_eq_left h]
  · rw [Nat.min_eq_right (by omega), List.take_length, List.take_of_length_le (by omega)]
theorem cutD_from {α : Type} (A : List α) (a : Nat) : cutD A (some (a : Int)) none = A.drop a := by
  unfold cutD HT.sIx
  dsimp only
  rw [if_neg (by omega), Int.toNat_natCast]
  by_cases h : a ≤ A.length
  · rw [Nat.min_eq_left h, List.take_of_length_le (by rw [List.length_drop]; omega)]
  · rw [Nat.min_eq_right (by omega), List.drop_eq_nil_of_le (Nat.le_refl _), List.drop_eq_nil_of_le (by omega), List.take_nil]
theorem seq_ref {s : Store} {n : Nat} {l : List D} (h : s[n]? = some (.lst l)) : seqOf s (.ref n) = some l := lst_at h
theorem putD_new {κ : Type} [DecidableEq κ] {l : List (κ × D)} {k : κ} {v : D} (h : k ∉ l.map (·.1)) : putD l k v = l ++ [(k, v)] := by
  have e : (l.any fun p => decide (p.1 = k)) = false := by
    rw [List.any_eq_false]
    intro p hp
    have : p.1 ≠ k := fun e => h (e ▸ List.mem_map_of_mem hp)
    simpa using this
  unfold putD
  rw [e, if_neg Bool.false_ne_true]
theorem seq_new (s : Store) (l : List D) : seqOf (s ++ [.lst l]) (.ref s.length) = some l := lst_new s l
theorem RowAt.old {s : Store} {r : D} {m : Nat} {b : Int} (h : RowAt s r m b) {q : Nat} (e : r = .ref q) : q < s.length := by
  subst e
  obtain ⟨l, e, _⟩ := h
  have e : (match s[q]? with
    | some (.lst l) => some l
    | some (.ro l) => some l
    | _ => none) = some (l.map D.int) := e
  rcases Nat.lt_or_ge q s.length with c | c
  · exact c
  · rw [List.getElem?_eq_none c] at e
    cases e
theorem RowAt.but {s s' : Store} {r : D} {m : Nat} {b : Int} {q : Nat} (h : RowAt s r m b) (bu : But q s s') (n : r ≠ .ref q) : RowAt s' r m b := by
  obtain ⟨l, e, z⟩ := h
  refine ⟨l, ?_, z⟩
  cases r with
  | ref u =>
    have c := RowAt.old ⟨l, e, z⟩ rfl
    have e : (match s[u]? with
      | some (.lst l) => some l
      | some (.ro l) => some l
      | _ => none) = some (l.map D.int) := e
    show (match s'[u]? with
      | some (.lst l) => some l
      | some (.ro l) => some l
      | _ => none) = some (l.map D.int)
    rw [bu.old u c (fun e => n (by rw [e]))]
    exact e
  | _ => exact e
end RI
set_option maxRecDepth 100000
set_option maxHeartbeats 4000000
set_option exponentiation.threshold 10000
/-! RS1: texts as lists of signs; while. -/
namespace RI
open PySem L2 TL
variable [Xs]
/-- a text by its signs -/
def sL (l : List Nat) : Str := ⟨l.toArray⟩
theorem tl_sL (l : List Nat) : tl (sL l) = l := rfl
theorem sL_tl (x : Str) : sL (tl x) = x := mk_tl x
theorem sL_len (l : List Nat) : (sL l).length = l.length := by rw [len_tl, tl_sL]
theorem sL_inj {a b : List Nat} : sL a = sL b ↔ a = b := ⟨fun h => by rw [← tl_sL a, h, tl_sL], fun h => by rw [h]⟩
theorem sL_app (a b : List Nat) : sL a ++ sL b = sL (a ++ b) := ext_tl (by rw [tl_append]; rfl)
def okL (l : List Nat) : Prop := ∀ c ∈ l, c < 0x110000
theorem okL_str {l : List Nat} (h : okL l) : PyData.strOk (sL l) = true := by
  unfold PyData.strOk sL
  rw [List.all_toArray]
  exact List.all_eq_true.mpr fun c hc => decide_eq_true (h c hc)
section
variable {B : Tb} {ρ : Env} {s : Store} {Q : D → Store → Prop} {Qb : Bool → Store → Prop} {X : Exn → Store → Prop}
theorem cutS_nat (l : List Nat) (a b : Nat) : cutS (sL l) (some (a : Int)) (some (b : Int)) = sL ((l.take b).drop a) := by
  unfold cutS
  rw [sL_len]
  show sL ((l.drop _).take _) = _
  congr 1
  unfold HT.sIx
  dsimp only
  rw [if_neg (by omega), if_neg (by omega), Int.toNat_natCast, Int.toNat_natCast]
  apply List.ext_getElem?
  intro i
  rw [List.getElem?_take, List.getElem?_drop, List.getElem?_drop, List.getElem?_take]
  by_cases h1 : i < min b l.length - min a l.length
  · rw [if_pos h1, if_pos (by omega)]
    rw [Nat.min_eq_left (by omega : a ≤ l.length)]
  · rw [if_neg h1]
    by_cases h2 : a + i < b
    · rw [if_pos h2, List.getElem?_eq_none (by omega)]
    · rw [if_neg h2]
theorem w_slN {l : List Nat} {a b : Nat} (hl : l.length ≤ most) (h : Q (.str (sL ((l.take b).drop a))) s) : wp (slK (.str (sL l)) (some (a : Int)) (some (b : Int)) s) Q X :=
  w_slS (by rw [sL_len]; exact hl) (by rw [cutS_nat]; exact h)
theorem w_slTo {l : List Nat} {b : Nat} (hl : l.length ≤ most) (h : Q (.str (sL (l.take b))) s) : wp (slK (.str (sL l)) none (some (b : Int)) s) Q X := by
  refine w_slS (by rw [sL_len]; exact hl) ?_
  have e : cutS (sL l) none (some (b : Int)) = cutS (sL l) (some ((0 : Nat) : Int)) (some (b : Int)) := by
    unfold cutS HT.sIx
    simp
  rw [e, cutS_nat, List.drop_zero]
  exact h
theorem w_slFrom {l : List Nat} {a : Nat} (hl : l.length ≤ most) (h : Q (.str (sL (l.drop a))) s) : wp (slK (.str (sL l)) (some (a : Int)) none s) Q X := by
  refine w_slS (by rw [sL_len]; exact hl) ?_
  have e : cutS (sL l) (some (a : Int)) none = cutS (sL l) (some (a : Int)) (some ((l.length : Nat) : Int)) := by
    unfold cutS HT.sIx
    rw [sL_len]
    simp only [Int.toNat_natCast, Nat.min_self]
    rw [if_neg (show ¬ ((l.length : Nat) : Int) < 0 by omega)]
  rw [e, cutS_nat, List.take_length]
  exact h
theorem w_ixN {l : List Nat} {i c : Nat} (hl : l.length ≤ most) (hi : l[i]? = some c) (h : Q (.str (sL [c])) s) : wp (ixK (.str (sL l)) (.int (i : Int)) s) Q X :=
  w_ixStr (by rw [sL_len]; exact hl) (RI.atI_nat (l := (sL l).cps.toList) hi) h
theorem inA_str (x y : Str) : inA (.str x) (.str y) s = some (!(Builtin.Str.occurrences y x 0 y.length 1).isEmpty) := rfl
theorem occ_one (l : List Nat) (c : Nat) : (!(Builtin.Str.occurrences (sL l) (sL [c]) 0 (sL l).length 1).isEmpty) = decide (c ∈ l) := by
  have h : (!(Builtin.Str.occurrences (sL l) ⟨#[c]⟩ 0 (sL l).length 1).isEmpty) = decide (c ∈ (sL l).cps.toList) := by first | exact Builtin.Str.found_one (sL l) c | exact PySem.StrLaws.found_one (sL l) c | exact found_one (sL l) c
  exact h
theorem w_inC {l : List Nat} {c : Nat} (h : Qb (decide (c ∈ l)) s) : wp (cmpB .In (.str (sL [c])) (.str (sL l)) s) Qb X := w_in (by rw [inA_str, occ_one]) h
theorem w_notInC {l : List Nat} {c : Nat} (h : Qb (!decide (c ∈ l)) s) : wp (cmpB .NotIn (.str (sL [c])) (.str (sL l)) s) Qb X := w_notIn (by rw [inA_str, occ_one]) h
theorem beq_sL (a b : List Nat) : (sL a == sL b) = decide (a = b) := by
  by_cases h : a = b
  · rw [h, decide_eq_true rfl, beq_self_eq_true]
  · rw [decide_eq_false h]
    exact beq_eq_false_iff_ne.mpr fun e => h (sL_inj.mp e)
theorem w_eqL {a b : List Nat} (ha : okL a) (hb : okL b) (h : Qb (decide (a = b)) s) : wp (cmpB .Eq (.str (sL a)) (.str (sL b)) s) Qb X := w_eqS (okL_str ha) (okL_str hb) (by rw [beq_sL]; exact h)
theorem w_neL {a b : List Nat} (ha : okL a) (hb : okL b) (h : Qb (!decide (a = b)) s) : wp (cmpB .NotEq (.str (sL a)) (.str (sL b)) s) Qb X := w_neS (okL_str ha) (okL_str hb) (by rw [beq_sL]; exact h)
theorem w_addL2 {a b : List Nat} (c : a.length + b.length ≤ most) (h : Q (.str (sL (a ++ b))) s) : wp (binD .Add (.str (sL a)) (.str (sL b)) s) Q X := w_addS (by rw [sL_len, sL_len]; exact c) (by rw [sL_app]; exact h)
theorem w_lenL {l : List Nat} (hl : l.length ≤ most) (h : Q (.int l.length) s) : wp (biD .len [.str (sL l)] s) Q X := by
  show wp (if (sL l).length ≤ most then Res.ok (.int (sL l).length) s else .bad) Q X
  rw [sL_len, if_pos hl]
  exact ⟨h⟩
theorem join_sL (a : List Nat) (ps : List (List Nat)) : Txt.join (sL a) (ps.map sL) = sL (joinL a ps) := by
  rw [join_eq]
  refine ext_tl ?_
  rw [tl_join, List.map_map]
  have : tl ∘ sL = id := by funext l; rfl
  rw [this, List.map_id]
  rfl
theorem strs_all (ps : List (List Nat)) : optAll ((ps.map fun p => D.str (sL p)).map strD) = some (ps.map sL) := by
  rw [List.map_map]
  exact optAll_fun (f := strD ∘ fun p => D.str (sL p)) (g := sL) fun p _ => rfl
theorem w_joinL {a : List Nat} {d : D} {ps : List (List Nat)} (e : seqOf s d = some (ps.map fun p => .str (sL p))) (c : (ps.map List.length).sum + ps.length * a.length ≤ most) (h : Q (.str (sL (joinL a ps))) s) : wp (mtD .join (.str (sL a)) [d] s) Q X := by
  refine w_joinK e (strs_all ps) ?_ (by rw [join_sL]; exact h)
  rw [List.map_map, List.length_map, sL_len]
  have : (fun x : Str => x.length) ∘ sL = List.length := by funext l; exact sL_len l
  rw [this]
  exact c
theorem join_len (a : List Nat) : ∀ ps : List (List Nat), (joinL a ps).length ≤ (ps.map List.length).sum + ps.length * a.length
  | [] => by simp [joinL]
  | [p] => by simp [joinL]
  | p :: q :: r => by
    have ih := join_len a (q :: r)
    show (p ++ (a ++ joinL a (q :: r))).length ≤ _
    rw [List.length_append, List.length_append, List.map_cons, List.sum_cons, List.length_cons, Nat.add_mul]
    omega
variable {N Bk Ct : Env → Store → Prop} {R : D → Store → Prop} {Y : Exn → Env → Store → Prop}
/-- while c, by an invariant of the turns done; at most n turns -/
theorem f_whl {c : E} {b : Ss} (n : Nat) (hn : n < 1000000000000) (J : Nat → Env → Store → Prop) (j0 : J 0 ρ s)
    (step : ∀ k ρ s, J k ρ s → wp (ev B c ρ s) (fun x s1 => wp (truK x s1) (fun z s2 => Br z (k < n ∧ wf (exSs B b ρ s2) (J (k + 1)) R N (J (k + 1)) Y) (N ρ s2)) fun x s => Y x ρ s) fun x s => Y x ρ s) : wf (exS B (.whl c b) ρ s) N R Bk Ct Y := by
  rw [exS]
  have go : ∀ (m k t : Nat) (ρ : Env) (s : Store), n - k = m → m < t → J k ρ s → wf (whlL (fun ρ' => truM (ev B c ρ')) (fun ρ' s' => exSs B b ρ' s') t ρ s) N R Bk Ct Y := by
    intro m
    induction m with
    | zero =>
      intro k t ρ s e lt j
      cases t with
      | zero => omega
      | succ t =>
        rw [whlL]
        refine f_fin (w_truM (w_mono (step k ρ s j) (fun x s1 q => w_mono q (fun z s2 q => ?_) fun _ _ z => z) fun _ _ z => z))
        unfold Br at q
        cases z with
        | false => exact ⟨q⟩
        | true =>
          rw [if_pos rfl] at q
          exact absurd q.1 (by omega)
    | succ m ih =>
      intro k t ρ s e lt j
      cases t with
      | zero => omega
      | succ t =>
        rw [whlL]
        refine f_fin (w_truM (w_mono (step k ρ s j) (fun x s1 q => w_mono q (fun z s2 q => ?_) fun _ _ z => z) fun _ _ z => z))
        unfold Br at q
        cases z with
        | false => exact ⟨q⟩
        | true =>
          rw [if_pos rfl] at q
          obtain ⟨lk, q⟩ := q
          show wf (match exSs B b ρ s2 with
            | .nx ρ1 s2 => whlL (fun ρ' => truM (ev B c ρ')) (fun ρ' s' => exSs B b ρ' s') t ρ1 s2
            | .ct ρ1 s2 => whlL (fun ρ' => truM (ev B c ρ')) (fun ρ' s' => exSs B b ρ' s') t ρ1 s2
            | .bk ρ1 s2 => .nx ρ1 s2
            | .rt d s2 => .rt d s2
            | .ex x ρ1 s2 => .ex x ρ1 s2
            | .bad => .bad) N R Bk Ct Y
          cases e2 : exSs B b ρ s2 with
          | nx ρ1 s3 => rw [e2] at q; exact ih (k + 1) t ρ1 s3 (by omega) (by omega) q.out
          | ct ρ1 s3 => rw [e2] at q; exact ih (k + 1) t ρ1 s3 (by omega) (by omega) q.out
          | bk ρ1 s3 => rw [e2] at q; exact ⟨q.out⟩
          | rt d s3 => rw [e2] at q; exact ⟨q.out⟩
          | ex x ρ1 s3 => rw [e2] at q; exact ⟨q.out⟩
          | bad => rw [e2] at q; exact q.out.elim
  exact go (n - 0) 0 turns ρ s rfl (by
    have : turns = 1000000000000 := rfl
    omega) j0
end
end RI
set_option maxRecDepth 100000
set_option maxHeartbeats 4000000
set_option exponentiation.threshold 10000
/-! RS2: walks over texts; all, any, min, max, str, int; dicts of the module. -/
namespace RI
open PySem L2 TL
variable [Xs]
section
variable {B : Tb} {ρ : Env} {s : Store} {Q : D → Store → Prop} {Qb : Bool → Store → Prop} {X : Exn → Store → Prop}
theorem w_kin {n : Bool} {x : Str} {e : E} (h : wp (ev B e ρ s) (fun d s1 => wp (kinK n x d s1) Q X) X) : wp (ev B (.kin n e x) ρ s) Q X := by rw [ev]; exact w_bnd h
theorem w_kix {x : Str} {e : E} (h : wp (ev B e ρ s) (fun d s1 => wp (kixK x d s1) Q X) X) : wp (ev B (.kix x e) ρ s) Q X := by rw [ev]; exact w_bnd h
theorem w_kinK {n : Bool} {x z : Str} {l : List (Str × D)} (e : Xs.cds.lookup x = some l) (h : Q (.bl (n != (l.lookup z).isSome)) s) : wp (kinK n x (.str z) s) Q X := by
  unfold kinK
  rw [e]
  exact ⟨h⟩
theorem w_kixK {x z : Str} {l : List (Str × D)} {d : D} (e : Xs.cds.lookup x = some l) (g : l.lookup z = some d) (h : Q d s) : wp (kixK x (.str z) s) Q X := by
  unfold kixK
  rw [e]
  dsimp only
  rw [g]
  exact ⟨h⟩
theorem w_isBl {d : D} {b : Bool} (h : Qb (sameF d (.bl b)) s) : wp (cmpB .Is d (.bl b) s) Qb X := ⟨h⟩
theorem inS_strs {n : Nat} {ws : List (List Nat)} {l : List Nat} (e : s[n]? = some (.lst (ws.map fun w => .str (sL w)))) : inA (.str (sL l)) (.ref n) s = some (decide (l ∈ ws)) := by
  have g : dgetD s (.ref n) (.str (sL l)) = none := dget_seq (show seqOf s (.ref n) = some _ from lst_at e)
  have q : seqOf s (.ref n) = some (ws.map fun w => .str (sL w)) := lst_at e
  have f : (ws.map fun w => D.str (sL w)).all flatD = true := by
    rw [List.all_map]
    exact List.all_eq_true.mpr fun _ _ => rfl
  have i : inD (.str (sL l)) (ws.map fun w => .str (sL w)) = decide (l ∈ ws) := by
    unfold inD inV
    rw [List.map_map, List.any_map]
    have : ((fun y => L2.eqV y (toV (.str (sL l)))) ∘ (toV ∘ fun w => D.str (sL w))) = fun w => decide (w = l) := by
      funext w
      show (sL w == sL l) = _
      exact beq_sL w l
    rw [this]
    rw [Bool.eq_iff_iff, List.any_eq_true, decide_eq_true_iff]
    constructor
    · rintro ⟨w, hw, ew⟩
      rw [← of_decide_eq_true ew]
      exact hw
    · intro hm
      exact ⟨l, hm, decide_eq_true rfl⟩
  unfold inA
  rw [g]
  dsimp only
  unfold inS
  dsimp only
  rw [q, Option.bind_some, if_pos ⟨rfl, f⟩, i]
theorem bls_all (bs : List Bool) : optAll ((bs.map D.bl).map blD) = some bs := by
  rw [List.map_map]
  have := optAll_fun (f := blD ∘ D.bl) (g := id) (l := bs) fun b _ => rfl
  rw [List.map_id] at this
  exact this
theorem w_all {d : D} {bs : List Bool} (e : lstOf s d = some (bs.map D.bl)) (h : Q (.bl (bs.all id)) s) : wp (biD .all [d] s) Q X := by
  show wp (match (lstOf s d).bind fun l => optAll (l.map blD) with
    | some bs => Res.ok (.bl (bs.all id)) s
    | none => .bad) Q X
  rw [e, Option.bind_some, bls_all]
  exact ⟨h⟩
theorem w_any {d : D} {bs : List Bool} (e : lstOf s d = some (bs.map D.bl)) (h : Q (.bl (bs.any id)) s) : wp (biD .any [d] s) Q X := by
  show wp (match (lstOf s d).bind fun l => optAll (l.map blD) with
    | some bs => Res.ok (.bl (bs.any id)) s
    | none => .bad) Q X
  rw [e, Option.bind_some, bls_all]
  exact ⟨h⟩
theorem w_max2 {i j : Int} (h : Q (.int (if j > i then j else i)) s) : wp (biD .max [.int i, .int j] s) Q X := ⟨h⟩
theorem w_min2 {i j : Int} (h : Q (.int (if j < i then j else i)) s) : wp (biD .min [.int i, .int j] s) Q X := ⟨h⟩
theorem w_strI {i : Int} (c : i.natAbs.log2 < 1920) (h : Q (.str (toString i)) s) : wp (biD .str [.int i] s) Q X := by
  show wp (if i.natAbs.log2 < 1920 then Res.ok (.str (toString i)) s else .bad) Q X
  rw [if_pos c]
  exact ⟨h⟩
theorem w_intS {x : Str} {n : Int} (e : PySem.intText? x = some n) (c : x.length ≤ 640) (h : Q (.int n) s) : wp (biD .int [.str x] s) Q X := by
  show wp (match PySem.intText? x with
    | some n => if x.length ≤ 640 then Res.ok (.int n) s else .bad
    | none => .bad) Q X
  rw [e]
  dsimp only
  rw [if_pos c]
  exact ⟨h⟩
/-- [e for c in a text] -/
theorem w_lcS {e x : E} {i : Nat} {own : List Nat} (h : wp (ev B x ρ s) (fun x s1 => ∃ (l : List Nat) (f : Nat → D), x = .str (sL l) ∧ l.length ≤ most ∧
      (∀ c acc, c ∈ l → wp (ev B e ((wipeD ρ own).set i (some (.str (sL [c])))) (s1 ++ [.lst acc])) (fun y s3 => y = f c ∧ s3 = s1 ++ [.lst acc]) fun _ _ => False) ∧
      Q (.ref s1.length) (s1 ++ [.lst (l.map f)])) X) : wp (ev B (.lc e (.name i) (.seq x) (Es.of []) own) ρ s) Q X := by
  refine w_lc (w_iseq (w_mono h ?_ fun _ _ z => z))
  rintro x s1 ⟨l, f, rfl, le, step, out⟩
  refine w_seqS ⟨fun k s' => s' = s1 ++ [.lst ((l.take k).map f)], rfl, fun _ _ _ p hp => absurd hp (List.not_mem_nil), ?_, ?_⟩
  · rintro k d s' hd rfl
    have hd : (l.map fun c => D.str ⟨#[c]⟩)[k]? = some d := hd
    rw [List.getElem?_map] at hd
    obtain ⟨c, ec, rfl⟩ := Option.map_eq_some_iff.mp hd
    refine ⟨_, asg1, w_get evC_nil ?_⟩
    rintro b s2 ⟨rfl, rfl⟩
    refine br_t (w_get (step c _ (List.mem_of_getElem? ec)) ?_)
    rintro y s3 ⟨rfl, rfl⟩
    refine ⟨_, get_new _ _, by rw [List.length_map]; exact Nat.le_trans (List.length_take_le _ _) (by have := (List.getElem?_eq_some_iff.mp ec).1; omega), ?_⟩
    rw [set_new]
    dsimp only
    rw [take_succ ec, List.map_append]
    rfl
  · rintro s' e
    have e : s' = s1 ++ [.lst ((l.take (l.map fun c => D.str ⟨#[c]⟩).length).map f)] := e
    rw [List.length_map, List.take_length] at e
    rw [e]
    exact out
variable {N Bk Ct : Env → Store → Prop} {R : D → Store → Prop} {Y : Exn → Env → Store → Prop}
/-- for c in a text -/
theorem f_strL {i : Nat} {e : E} {b : Ss} (h : wp (ev B e ρ s) (fun x s1 => ∃ (l : List Nat) (J : Nat → Env → Store → Prop), x = .str (sL l) ∧ J 0 ρ s1 ∧
      (∀ (k : Nat) c ρ s, l[k]? = some c → J k ρ s → wf (exSs B b (ρ.set i (some (.str (sL [c])))) s) (J (k + 1)) R N (J (k + 1)) Y) ∧ ∀ ρ s, J l.length ρ s → N ρ s) fun x s1 => Y x ρ s1) : wf (exS B (.for (.name i) (.seq e) b) ρ s) N R Bk Ct Y := by
  refine f_for (w_iseq (w_mono h ?_ fun _ _ z => z))
  rintro x s1 ⟨l, J, rfl, j0, step, out⟩
  refine w_seqS ⟨J, j0, fun _ _ _ _ p hp => absurd hp (List.not_mem_nil), ?_, ?_⟩
  · intro k d ρ s hd hj
    have hd : (l.map fun c => D.str ⟨#[c]⟩)[k]? = some d := hd
    rw [List.getElem?_map] at hd
    obtain ⟨c, ec, rfl⟩ := Option.map_eq_some_iff.mp hd
    exact step k c ρ s ec hj
  · intro ρ s hj
    have hj : J (l.map fun c => D.str ⟨#[c]⟩).length ρ s := hj
    rw [List.length_map] at hj
    exact out ρ s hj
end
end RI
set_option maxRecDepth 100000
set_option maxHeartbeats 4000000
namespace RK66
open PySem L2 PyProof.Rows RI
def consts : List (Str × D) := [("BACKSLASH", (.str "\\")), ("DIGITS_notes", (.str "0123456789")), ("DIGITS_shapes", (.str "0123456789")), ("LETTERS_notes", (.str "abcdefghijklmnopqrstuvwxyz")), ("LETTERS_shapes", (.str "abcdefghijklmnopqrstuvwxyz")), ("LONGEST_NAME", (.int 12)), ("LONGEST_NUMBER", (.int 60)), ("LONGEST_STRING", (.int 400)), ("QUOTE", (.str "\""))]
def cdsL : List (Str × List (Str × D)) := [("WORDS", [("yes", (.bl true)), ("no", (.bl false)), ("none", .non)])]
def anc : List (Str × List Str) := []
instance theXs : Xs where
  names := []
  sub := fun y t => ((List.lookup y anc).getD []).contains t
  consts := consts
  cds := cdsL
def d_is_key : DefI where
  name := "is_key"
  ps := ["value"]
  N := ["value", "char"]
  ir := (.of [
  .ife (.or (.not (.isi (.var 0) .str)) (.not (.chn .LtE .LtE (.c (.int 1)) (.bi .len (.of [(.var 0)])) (.c (.int 12))))) (.of [
   .ret (.c (.bl false))]) (.of [
]),
  .ret (.bi .all (.of [(.lc (.or (.cmp .In (.var 1) (.glob "LETTERS_shapes")) (.cmp .In (.var 1) (.glob "DIGITS_shapes"))) (.name 1) (.seq (.var 0)) (.of []) [1])]))])
def d_is_name : DefI where
  name := "is_name"
  ps := ["value"]
  N := ["value"]
  ir := (.of [
  .ret (.and (.call "is_key" (.of [(.var 0)])) (.cmp .In (.ix (.var 0) (.c (.int 0))) (.glob "LETTERS_shapes")))])
def d_is_bare : DefI where
  name := "is_bare"
  ps := ["string"]
  N := ["string"]
  ir := (.of [
  .ret (.and (.call "is_name" (.of [(.var 0)])) (.kin true (.var 0) "WORDS"))])
def d_write_note : DefI where
  name := "write_note"
  ps := ["value"]
  N := ["value", "item"]
  ir := (.of [
  .ife (.isi (.var 0) .tuple) (.of [
   .ret (.bin .Add (.bin .Add (.c (.str "(")) (.meth (.c (.str " ")) .join (.of [(.lc (.call "write_note" (.of [(.var 1)])) (.name 1) (.seq (.var 0)) (.of []) [1])]))) (.c (.str ")")))]) (.of [
]),
  .ife (.isi (.var 0) .str) (.of [
   .ret (.ite (.call "is_bare" (.of [(.var 0)])) (.var 0) (.bin .Add (.bin .Add (.glob "QUOTE") (.var 0)) (.glob "QUOTE")))]) (.of [
]),
  .ife (.cmp .Is (.var 0) (.c .non)) (.of [
   .ret (.c (.str "none"))]) (.of [
]),
  .ife (.cmp .Is (.var 0) (.c (.bl true))) (.of [
   .ret (.c (.str "yes"))]) (.of [
]),
  .ife (.cmp .Is (.var 0) (.c (.bl false))) (.of [
   .ret (.c (.str "no"))]) (.of [
]),
  .ret (.bi .str (.of [(.var 0)]))])
def d_read_note : DefI where
  name := "read_note"
  ps := ["text"]
  N := ["text", "value", "end"]
  ir := (.of [
  .asg (.tup (.of [(.name 1), (.name 2)])) (.call "read_value" (.of [(.var 0), (.c (.int 0))])),
  .ife (.cmp .Lt (.var 2) (.bi .len (.of [(.var 0)]))) (.of [
   .never]) (.of [
]),
  .ret (.var 1)])
def d_read_value : DefI where
  name := "read_value"
  ps := ["text", "place"]
  N := ["text", "place", "first"]
  ir := (.of [
  .asg (.name 2) (.sl (.var 0) (.of [(.var 1)]) (.of [(.bin .Add (.var 1) (.c (.int 1)))])),
  .ife (.cmp .Eq (.var 2) (.c (.str "("))) (.of [
   .ret (.call "read_tuple" (.of [(.var 0), (.bin .Add (.var 1) (.c (.int 1)))]))]) (.of [
]),
  .ife (.cmp .Eq (.var 2) (.glob "QUOTE")) (.of [
   .ret (.call "read_quoted" (.of [(.var 0), (.bin .Add (.var 1) (.c (.int 1)))]))]) (.of [
]),
  .ife (.or (.cmp .Eq (.var 2) (.c (.str "-"))) (.and (.cmp .NotEq (.var 2) (.c (.str ""))) (.cmp .In (.var 2) (.glob "DIGITS_notes")))) (.of [
   .ret (.call "read_number" (.of [(.var 0), (.var 1)]))]) (.of [
]),
  .ife (.and (.cmp .NotEq (.var 2) (.c (.str ""))) (.cmp .In (.var 2) (.glob "LETTERS_notes"))) (.of [
   .ret (.call "read_bare" (.of [(.var 0), (.var 1)]))]) (.of [
]),
  .never])
def d_read_tuple : DefI where
  name := "read_tuple"
  ps := ["text", "place"]
  N := ["text", "place", "found", "end", "item"]
  ir := (.of [
  .asg (.name 2) (.lst (.of [])),
  .asg (.name 3) (.var 1),
  .ife (.cmp .Eq (.sl (.var 0) (.of [(.var 3)]) (.of [(.bin .Add (.var 3) (.c (.int 1)))])) (.c (.str ")"))) (.of [
   .ret (.tup (.of [(.tup (.of [])), (.bin .Add (.var 3) (.c (.int 1)))]))]) (.of [
]),
  .whl (.cmp .Lt (.var 3) (.bi .len (.of [(.var 0)]))) (.of [
   .asg (.tup (.of [(.name 4), (.name 3)])) (.call "read_value" (.of [(.var 0), (.var 3)])),
   .expr (.meth (.var 2) .append (.of [(.var 4)])),
   .ife (.cmp .Eq (.sl (.var 0) (.of [(.var 3)]) (.of [(.bin .Add (.var 3) (.c (.int 1)))])) (.c (.str ")"))) (.of [
    .ret (.tup (.of [(.bi .tuple (.of [(.var 2)])), (.bin .Add (.var 3) (.c (.int 1)))]))]) (.of [
]),
   .ife (.cmp .NotEq (.sl (.var 0) (.of [(.var 3)]) (.of [(.bin .Add (.var 3) (.c (.int 1)))])) (.c (.str " "))) (.of [
    .never]) (.of [
]),
   .aug 3 .Add (.c (.int 1))]),
  .never])
def d_run_end : DefI where
  name := "run_end"
  ps := ["text", "place", "allowed", "most"]
  N := ["text", "place", "allowed", "most", "end"]
  ir := (.of [
  .asg (.name 4) (.var 1),
  .whl (.and (.cmp .Lt (.var 4) (.bi .len (.of [(.var 0)]))) (.and (.cmp .Lt (.var 4) (.bin .Add (.var 1) (.var 3))) (.cmp .In (.ix (.var 0) (.var 4)) (.var 2)))) (.of [
   .aug 4 .Add (.c (.int 1))]),
  .ret (.var 4)])
def d_read_bare : DefI where
  name := "read_bare"
  ps := ["text", "place"]
  N := ["text", "place", "end", "word"]
  ir := (.of [
  .asg (.name 2) (.call "run_end" (.of [(.var 0), (.var 1), (.bin .Add (.glob "LETTERS_notes") (.glob "DIGITS_notes")), (.glob "LONGEST_NAME")])),
  .asg (.name 3) (.sl (.var 0) (.of [(.var 1)]) (.of [(.var 2)])),
  .ife (.kin false (.var 3) "WORDS") (.of [
   .ret (.tup (.of [(.kix "WORDS" (.var 3)), (.var 2)]))]) (.of [
]),
  .ret (.tup (.of [(.var 3), (.var 2)]))])
def d_read_number : DefI where
  name := "read_number"
  ps := ["text", "place"]
  N := ["text", "place", "digits", "end"]
  ir := (.of [
  .asg (.name 2) (.ite (.cmp .Eq (.ix (.var 0) (.var 1)) (.c (.str "-"))) (.bin .Add (.var 1) (.c (.int 1))) (.var 1)),
  .ife (.and (.cmp .Eq (.sl (.var 0) (.of [(.var 2)]) (.of [(.bin .Add (.var 2) (.c (.int 1)))])) (.c (.str "0"))) (.cmp .Eq (.var 2) (.var 1))) (.of [
   .ret (.tup (.of [(.c (.int 0)), (.bin .Add (.var 1) (.c (.int 1)))]))]) (.of [
]),
  .asg (.name 3) (.call "run_end" (.of [(.var 0), (.var 2), (.glob "DIGITS_notes"), (.glob "LONGEST_NUMBER")])),
  .ife (.or (.cmp .Eq (.var 3) (.var 2)) (.cmp .Eq (.ix (.var 0) (.var 2)) (.c (.str "0")))) (.of [
   .never]) (.of [
]),
  .ret (.tup (.of [(.bi .int (.of [(.sl (.var 0) (.of [(.var 1)]) (.of [(.var 3)]))])), (.var 3)]))])
def d_read_quoted : DefI where
  name := "read_quoted"
  ps := ["text", "place"]
  N := ["text", "place", "end"]
  ir := (.of [
  .asg (.name 2) (.var 1),
  .whl (.and (.cmp .Lt (.var 2) (.bi .len (.of [(.var 0)]))) (.and (.cmp .Lt (.var 2) (.bin .Add (.var 1) (.glob "LONGEST_STRING"))) (.and (.cmp .NotEq (.ix (.var 0) (.var 2)) (.glob "QUOTE")) (.cmp .NotEq (.ix (.var 0) (.var 2)) (.glob "BACKSLASH"))))) (.of [
   .aug 2 .Add (.c (.int 1))]),
  .ife (.or (.cmp .NotEq (.sl (.var 0) (.of [(.var 2)]) (.of [(.bin .Add (.var 2) (.c (.int 1)))])) (.glob "QUOTE")) (.call "is_bare" (.of [(.sl (.var 0) (.of [(.var 1)]) (.of [(.var 2)]))]))) (.of [
   .never]) (.of [
]),
  .ret (.tup (.of [(.sl (.var 0) (.of [(.var 1)]) (.of [(.var 2)])), (.bin .Add (.var 2) (.c (.int 1)))]))])
def d_law_cell : DefI where
  name := "_law_cell"
  ps := ["_law_script", "_law_k"]
  N := ["_law_script", "_law_k", "_law_seed", "_law_cell_here"]
  ir := (.of [
  .ife (.cmp .Lt (.var 1) (.bi .len (.of [(.var 0)]))) (.of [
   .ret (.ix (.var 0) (.var 1))]) (.of [
]),
  .asg (.name 2) (.c (.int 17)),
  .for (.name 3) (.seq (.var 0)) (.of [
   .asg (.name 2) (.bin .Mod (.bi .int (.of [(.bin .Add (.bin .Mult (.var 2) (.c (.int 31))) (.bin .Mod (.bi .int (.of [(.var 3)])) (.c (.int 1000003))))])) (.c (.int 1000003)))]),
  .ret (.bin .Mod (.bi .int (.of [(.bin .Mult (.bin .Mult (.bin .Add (.var 2) (.c (.int 7))) (.bin .Add (.var 1) (.c (.int 3)))) (.c (.int 69621)))])) (.c (.int 2147483647)))])
def d_law_row : DefI where
  name := "_law_row"
  ps := ["_law_cell_here", "_law_many"]
  N := ["_law_cell_here", "_law_many", "_law_row_here", "_law_rest", "_law_seed", "_law_k", "_law_digit"]
  ir := (.of [
  .asg (.name 2) (.lst (.of [])),
  .asg (.name 3) (.bin .Sub (.bi .int (.of [(.var 0)])) (.bin .Pow (.c (.int 10)) (.c (.int 18)))),
  .asg (.name 4) (.bin .Mod (.bi .int (.of [(.var 0)])) (.c (.int 2147483629))),
  .for (.name 5) (.rng1 (.var 1)) (.of [
   .asg (.name 4) (.bin .Mod (.bi .int (.of [(.bin .Add (.bin .Add (.bin .Mult (.var 4) (.c (.int 48271))) (.bin .Mult (.c (.int 974711)) (.var 5))) (.c (.int 12345)))])) (.c (.int 2147483647))),
   .asg (.name 6) (.bin .FloorDiv (.bin .Mod (.bi .int (.of [(.bin .Mult (.var 4) (.bin .Add (.bin .FloorDiv (.var 4) (.c (.int 65537))) (.c (.int 3))))])) (.c (.int 2147483629))) (.c (.int 19))),
   .ife (.cmp .GtE (.var 0) (.bin .Pow (.c (.int 10)) (.c (.int 18)))) (.of [
    .asg (.name 6) (.var 3),
    .asg (.name 3) (.bin .FloorDiv (.var 3) (.c (.int 92)))]) (.of [
]),
   .expr (.meth (.var 2) .append (.of [(.bin .Mod (.bi .int (.of [(.var 6)])) (.c (.int 92)))]))]),
  .ret (.var 2)])
def d_law_signs : DefI where
  name := "_law_signs"
  ps := ["_law_row_here", "_law_alphabet"]
  N := ["_law_row_here", "_law_alphabet", "_law_digit"]
  ir := (.of [
  .ret (.meth (.c (.str "")) .join (.of [(.lc (.ix (.var 1) (.bin .Mod (.bi .int (.of [(.var 2)])) (.bi .len (.of [(.var 1)])))) (.name 2) (.seq (.var 0)) (.of []) [2])]))])
def d_law_number : DefI where
  name := "_law_number"
  ps := ["_law_row_here", "_law_many", "_law_below"]
  N := ["_law_row_here", "_law_many", "_law_below", "_law_number_here", "_law_k"]
  ir := (.of [
  .asg (.name 3) (.c (.int 0)),
  .for (.name 4) (.rng1 (.var 1)) (.of [
   .asg (.name 3) (.bin .Add (.bin .Mult (.var 3) (.c (.int 10))) (.bin .Mod (.bi .int (.of [(.ix (.var 0) (.bin .Add (.c (.int 2)) (.var 4)))])) (.c (.int 10))))]),
  .ife (.var 2) (.of [
   .ret (.bin .Sub (.c (.int 0)) (.var 3))]) (.of [
]),
  .ret (.var 3)])
def d_law_string : DefI where
  name := "_law_string"
  ps := ["_law_choice", "_law_row_here"]
  N := ["_law_choice", "_law_row_here", "_law_kind", "_law_small", "_law_more", "_law_odd", "_law_many", "_law_piece"]
  ir := (.of [
  .asg (.name 2) (.bin .Mod (.bi .int (.of [(.var 0)])) (.c (.int 5))),
  .asg (.name 3) (.c (.str "abcdefghijklmnopqrstuvwxyz")),
  .asg (.name 4) (.c (.str " !#$&'()*+,-./0123456789:;<=>?@ABCDEFGHIJKLMNOPQRSTUVWXYZ[]^_`{|}~")),
  .asg (.name 5) (.lst (.of [(.c (.str "")), (.c (.str "yes")), (.c (.str "no")), (.c (.str "none")), (.c (.str " ")), (.c (.str "Yes")), (.c (.str "noo")), (.c (.str "1a")), (.c (.str "a1")), (.c (.str "abcdefghijkl")), (.c (.str "abcdefghijklm")), (.c (.str "a b")), (.c (.str "a ")), (.c (.str " a"))])),
  .asg (.name 5) (.bin .Add (.var 5) (.lst (.of [(.c (.str "()")), (.c (.str "(a b)")), (.c (.str "0")), (.c (.str "-7")), (.c (.str "a-b")), (.c (.str "(")), (.c (.str ")")), (.c (.str "A")), (.c (.str "nonE")), (.c (.str "y"))]))),
  .asg (.name 6) (.bi .int (.of [(.ix (.var 1) (.c (.int 1)))])),
  .ife (.cmp .Eq (.var 2) (.c (.int 0))) (.of [
   .ret (.ix (.var 5) (.bin .Mod (.var 6) (.c (.int 24))))]) (.of [
]),
  .ife (.cmp .Lt (.var 2) (.c (.int 3))) (.of [
   .ret (.bin .Add (.ix (.var 3) (.bin .Mod (.bi .int (.of [(.ix (.var 1) (.c (.int 2)))])) (.c (.int 26)))) (.call "_law_signs" (.of [(.sl (.var 1) (.of [(.c (.int 3))]) (.of [(.bin .Add (.c (.int 3)) (.bin .Mod (.var 6) (.c (.int 12))))])), (.bin .Add (.var 3) (.c (.str "0123456789")))])))]) (.of [
]),
  .ife (.and (.cmp .Eq (.var 2) (.c (.int 4))) (.cmp .Eq (.bin .Mod (.var 6) (.c (.int 6))) (.c (.int 0)))) (.of [
   .asg (.name 7) (.call "_law_signs" (.of [(.sl (.var 1) (.of [(.c (.int 3))]) (.of [(.bin .Add (.c (.int 4)) (.bin .Mod (.var 6) (.c (.int 7))))])), (.bin .Add (.var 3) (.sl (.var 4) (.of [(.c (.int 8))]) (.of [])))])),
   .ret (.sl (.bin .Mult (.var 7) (.c (.int 400))) (.of []) (.of [(.bin .Sub (.c (.int 400)) (.bin .Mult (.bin .Mod (.bi .int (.of [(.ix (.var 1) (.c (.int 2)))])) (.c (.int 2))) (.bin .Mod (.var 6) (.c (.int 100)))))]))]) (.of [
]),
  .ret (.call "_law_signs" (.of [(.sl (.var 1) (.of [(.c (.int 2))]) (.of [(.bin .Add (.c (.int 2)) (.bin .Mod (.var 6) (.c (.int 60))))])), (.bin .Add (.var 4) (.var 3))]))])
def d_law_leaf : DefI where
  name := "_law_leaf"
  ps := ["_law_cell_here"]
  N := ["_law_cell_here", "_law_row_here", "_law_choice", "_law_menu"]
  ir := (.of [
  .asg (.name 1) (.call "_law_row" (.of [(.var 0), (.c (.int 62))])),
  .asg (.name 2) (.bin .FloorDiv (.bi .int (.of [(.ix (.var 1) (.c (.int 0)))])) (.c (.int 9))),
  .asg (.name 3) (.lst (.of [(.c (.int 0)), (.c (.int 1)), (.neg (.c (.int 1))), (.c (.int 9)), (.c (.int 10)), (.neg (.c (.int 10))), (.c (.int 99)), (.c (.int 100)), (.neg (.c (.int 7))), (.bin .Pow (.c (.int 10)) (.c (.int 18))), (.bin .Pow (.c (.int 10)) (.c (.int 59))), (.bin .Sub (.bin .Pow (.c (.int 10)) (.c (.int 60))) (.c (.int 1))), (.bin .Sub (.c (.int 1)) (.bin .Pow (.c (.int 10)) (.c (.int 60)))), (.bin .Sub (.c (.int 0)) (.bin .Pow (.c (.int 10)) (.c (.int 59)))), (.c (.int 60))])),
  .ife (.cmp .Lt (.bin .Mod (.bi .int (.of [(.ix (.var 1) (.c (.int 0)))])) (.c (.int 9))) (.c (.int 3))) (.of [
   .ife (.cmp .Eq (.bin .Mod (.var 2) (.c (.int 3))) (.c (.int 0))) (.of [
    .ret (.ix (.var 3) (.bin .Mod (.bi .int (.of [(.ix (.var 1) (.c (.int 1)))])) (.c (.int 15))))]) (.of [
]),
   .ret (.call "_law_number" (.of [(.var 1), (.ix (.lst (.of [(.c (.int 1)), (.c (.int 2)), (.bin .Add (.c (.int 1)) (.bin .Mod (.bi .int (.of [(.ix (.var 1) (.c (.int 1)))])) (.c (.int 60))))])) (.bin .Mod (.bi .int (.of [(.ix (.var 1) (.c (.int 0)))])) (.c (.int 9)))), (.cmp .Eq (.bin .Mod (.var 2) (.c (.int 2))) (.c (.int 1)))]))]) (.of [
]),
  .ife (.cmp .Eq (.bin .Mod (.bi .int (.of [(.ix (.var 1) (.c (.int 0)))])) (.c (.int 9))) (.c (.int 3))) (.of [
   .ret (.ix (.lst (.of [(.c (.bl true)), (.c (.bl false)), (.c .non)])) (.bin .Mod (.bi .int (.of [(.ix (.var 1) (.c (.int 1)))])) (.c (.int 3))))]) (.of [
]),
  .ret (.call "_law_string" (.of [(.var 2), (.var 1)]))])
def d_law_tree : DefI where
  name := "_law_tree"
  ps := ["_law_script", "_law_row_here", "_law_at", "_law_most"]
  N := ["_law_script", "_law_row_here", "_law_at", "_law_most", "_law_levels", "_law_deepest", "_law_k", "_law_digit", "_law_inner_items"]
  ir := (.of [
  .asg (.name 4) (.lst (.of [(.lst (.of []))])),
  .asg (.name 5) (.c (.int 1)),
  .for (.name 6) (.rng1 (.bin .Add (.c (.int 1)) (.bin .Mod (.bi .int (.of [(.ix (.var 1) (.c (.int 0)))])) (.var 3)))) (.of [
   .asg (.name 7) (.bi .int (.of [(.ix (.var 1) (.bin .Add (.c (.int 1)) (.var 6)))])),
   .ife (.and (.cmp .Gt (.bin .Mod (.var 7) (.c (.int 7))) (.c (.int 4))) (.cmp .Lt (.bi .len (.of [(.var 4)])) (.c (.int 40)))) (.of [
    .expr (.meth (.var 4) .append (.of [(.lst (.of []))])),
    .asg (.name 5) (.bi .max (.of [(.var 5), (.bi .len (.of [(.var 4)]))]))]) (.of [
    .ife (.and (.cmp .Eq (.bin .Mod (.var 7) (.c (.int 7))) (.c (.int 4))) (.cmp .Gt (.bi .len (.of [(.var 4)])) (.c (.int 1)))) (.of [
     .asg (.name 8) (.bi .tuple (.of [(.meth (.var 4) .pop (.of []))])),
     .expr (.meth (.ix (.var 4) (.bin .Sub (.bi .len (.of [(.var 4)])) (.c (.int 1)))) .append (.of [(.var 8)]))]) (.of [
     .expr (.meth (.ix (.var 4) (.bin .Sub (.bi .len (.of [(.var 4)])) (.c (.int 1)))) .append (.of [(.call "_law_leaf" (.of [(.call "_law_cell" (.of [(.var 0), (.bin .Add (.var 2) (.var 6))]))]))]))])])]),
  .for (.name 6) (.rng1 (.bin .Sub (.bi .len (.of [(.var 4)])) (.c (.int 1)))) (.of [
   .asg (.name 8) (.bi .tuple (.of [(.meth (.var 4) .pop (.of []))])),
   .expr (.meth (.ix (.var 4) (.bin .Sub (.bi .len (.of [(.var 4)])) (.c (.int 1)))) .append (.of [(.var 8)]))]),
  .ret (.lst (.of [(.bi .tuple (.of [(.ix (.var 4) (.c (.int 0)))])), (.var 5)]))])
def d_law_value : DefI where
  name := "_law_value"
  ps := ["_law_script"]
  N := ["_law_script", "_law_row_here", "_law_tree_here", "_law_value_here", "_law_many", "_law_k"]
  ir := (.of [
  .asg (.name 1) (.call "_law_row" (.of [(.call "_law_cell" (.of [(.var 0), (.c (.int 0))])), (.c (.int 60))])),
  .ife (.cmp .Eq (.bin .Mod (.bi .int (.of [(.ix (.var 1) (.c (.int 50)))])) (.c (.int 9))) (.c (.int 5))) (.of [
   .ret (.call "_law_leaf" (.of [(.call "_law_cell" (.of [(.var 0), (.c (.int 1))]))]))]) (.of [
]),
  .asg (.name 2) (.call "_law_tree" (.of [(.var 0), (.var 1), (.c (.int 1)), (.c (.int 47))])),
  .asg (.name 3) (.ix (.var 2) (.c (.int 0))),
  .asg (.name 4) (.ix (.lst (.of [(.c (.int 1)), (.c (.int 1)), (.c (.int 1)), (.c (.int 1)), (.c (.int 1)), (.c (.int 2)), (.c (.int 9)), (.c (.int 60))])) (.bin .Mod (.bi .int (.of [(.ix (.var 1) (.c (.int 51)))])) (.c (.int 8)))),
  .asg (.name 3) (.bin .Mult (.var 3) (.bi .min (.of [(.var 4), (.bi .max (.of [(.c (.int 1)), (.bin .FloorDiv (.c (.int 19000)) (.bin .Add (.bi .len (.of [(.call "_law_note" (.of [(.var 3)]))])) (.c (.int 1))))]))]))),
  .for (.name 5) (.rng1 (.ix (.lst (.of [(.c (.int 0)), (.c (.int 0)), (.c (.int 0)), (.c (.int 0)), (.c (.int 0)), (.c (.int 1)), (.bin .Mod (.bi .int (.of [(.ix (.var 1) (.c (.int 53)))])) (.c (.int 60))), (.bin .Sub (.c (.int 100)) (.ix (.var 2) (.c (.int 1))))])) (.bin .Mod (.bi .int (.of [(.ix (.var 1) (.c (.int 52)))])) (.c (.int 8))))) (.of [
   .asg (.name 3) (.ix (.lst (.of [(.tup (.of [(.var 3)])), (.tup (.of [(.c (.str "a")), (.var 3)])), (.tup (.of [(.var 3), (.c (.int 7))]))])) (.bin .Mod (.bin .Add (.bi .int (.of [(.ix (.var 1) (.c (.int 54)))])) (.bin .Mult (.var 5) (.bin .Mod (.bi .int (.of [(.ix (.var 1) (.c (.int 55)))])) (.c (.int 3))))) (.c (.int 3))))]),
  .ret (.var 3)])
def d_law_bare : DefI where
  name := "_law_bare"
  ps := ["_law_word"]
  N := ["_law_word", "_law_sign"]
  ir := (.of [
  .ife (.or (.cmp .Lt (.bi .len (.of [(.var 0)])) (.c (.int 1))) (.or (.cmp .Gt (.bi .len (.of [(.var 0)])) (.c (.int 12))) (.or (.cmp .In (.ix (.var 0) (.c (.int 0))) (.c (.str "0123456789"))) (.cmp .In (.var 0) (.lst (.of [(.c (.str "yes")), (.c (.str "no")), (.c (.str "none"))])))))) (.of [
   .ret (.c (.bl false))]) (.of [
]),
  .for (.name 1) (.seq (.var 0)) (.of [
   .ife (.cmp .NotIn (.var 1) (.c (.str "abcdefghijklmnopqrstuvwxyz0123456789"))) (.of [
    .ret (.c (.bl false))]) (.of [
])]),
  .ret (.c (.bl true))])
def d_law_note : DefI where
  name := "_law_note"
  ps := ["_law_value_here"]
  N := ["_law_value_here", "_law_part"]
  ir := (.of [
  .ife (.cmp .Is (.var 0) (.c .non)) (.of [
   .ret (.c (.str "none"))]) (.of [
]),
  .ife (.cmp .Is (.var 0) (.c (.bl true))) (.of [
   .ret (.c (.str "yes"))]) (.of [
]),
  .ife (.cmp .Is (.var 0) (.c (.bl false))) (.of [
   .ret (.c (.str "no"))]) (.of [
]),
  .ife (.isi (.var 0) .tuple) (.of [
   .ret (.bin .Add (.bin .Add (.c (.str "(")) (.meth (.c (.str " ")) .join (.of [(.lc (.call "_law_note" (.of [(.var 1)])) (.name 1) (.seq (.var 0)) (.of []) [1])]))) (.c (.str ")")))]) (.of [
]),
  .ife (.and (.isi (.var 0) .str) (.call "_law_bare" (.of [(.var 0)]))) (.of [
   .ret (.var 0)]) (.of [
]),
  .ife (.isi (.var 0) .str) (.of [
   .ret (.bin .Add (.bin .Add (.c (.str "\"")) (.var 0)) (.c (.str "\"")))]) (.of [
]),
  .ret (.bi .str (.of [(.var 0)]))])
def d_law_same : DefI where
  name := "_law_same"
  ps := ["_law_one", "_law_two"]
  N := ["_law_one", "_law_two", "_law_k"]
  ir := (.of [
  .ife (.isi (.var 1) .tuple) (.of [
   .ife (.or (.not (.isi (.var 0) .tuple)) (.cmp .NotEq (.bi .len (.of [(.var 0)])) (.bi .len (.of [(.var 1)])))) (.of [
    .ret (.c (.bl false))]) (.of [
]),
   .ret (.cmp .NotIn (.c (.bl false)) (.lc (.call "_law_same" (.of [(.ix (.var 0) (.var 2)), (.ix (.var 1) (.var 2))])) (.name 2) (.rng1 (.bi .len (.of [(.var 1)]))) (.of []) [2]))]) (.of [
]),
  .ife (.cmp .Is (.var 1) (.c .non)) (.of [
   .ret (.cmp .Is (.var 0) (.c .non))]) (.of [
]),
  .ife (.or (.cmp .NotEq (.isi (.var 0) .str) (.isi (.var 1) .str)) (.cmp .NotEq (.isi (.var 0) .bool) (.isi (.var 1) .bool))) (.of [
   .ret (.c (.bl false))]) (.of [
]),
  .ret (.and (.cmp .Eq (.isi (.var 0) .int) (.isi (.var 1) .int)) (.cmp .Eq (.var 0) (.var 1)))])
def d_law_round : DefI where
  name := "_law_round"
  ps := ["_law_value_here"]
  N := ["_law_value_here", "_law_due", "_law_told"]
  ir := (.of [
  .asg (.name 1) (.call "_law_note" (.of [(.var 0)])),
  .asg (.name 2) (.call "write_note" (.of [(.var 0)])),
  .ife (.or (.not (.isi (.var 2) .str)) (.cmp .NotEq (.var 2) (.var 1))) (.of [
   .ret (.c (.bl false))]) (.of [
]),
  .try (.of [
   .ret (.call "_law_same" (.of [(.call "read_note" (.of [(.var 1)])), (.var 0)]))]) "FormError" none (.of [
   .ret (.c (.bl false))])])
def d_law : DefI where
  name := "law"
  ps := ["_law_script"]
  N := ["_law_script", "_law_large", "_law_row_here", "_law_small", "_law_value_here"]
  ir := (.of [
  .asg (.name 1) (.call "_law_value" (.of [(.var 0)])),
  .asg (.name 2) (.call "_law_row" (.of [(.call "_law_cell" (.of [(.var 0), (.c (.int 48))])), (.c (.int 20))])),
  .asg (.name 3) (.ix (.call "_law_tree" (.of [(.var 0), (.var 2), (.c (.int 49)), (.c (.int 13))])) (.c (.int 0))),
  .ife (.cmp .Eq (.bin .Mod (.bi .int (.of [(.ix (.var 2) (.c (.int 19)))])) (.c (.int 4))) (.c (.int 3))) (.of [
   .asg (.name 3) (.call "_law_leaf" (.of [(.call "_law_cell" (.of [(.var 0), (.c (.int 62))]))]))]) (.of [
]),
  .for (.name 4) (.seq (.lst (.of [(.var 1), (.var 3), (.tup (.of [(.var 3), (.var 3)])), (.tup (.of [])), (.var 1), (.var 3)]))) (.of [
   .ife (.not (.call "_law_round" (.of [(.var 4)]))) (.of [
    .ret (.c (.bl false))]) (.of [
])]),
  .ret (.cmp .Eq (.cmp .Eq (.call "write_note" (.of [(.var 1)])) (.call "write_note" (.of [(.var 3)]))) (.call "_law_same" (.of [(.var 1), (.var 3)])))])
def tab : List DefI := [d_is_key, d_is_name, d_is_bare, d_write_note, d_read_note, d_read_value, d_read_tuple, d_run_end, d_read_bare, d_read_number, d_read_quoted, d_law_cell, d_law_row, d_law_signs, d_law_number, d_law_string, d_law_leaf, d_law_tree, d_law_value, d_law_bare, d_law_note, d_law_same, d_law_round, d_law]
def glb : Glb := ⟨[.all, .int, .len, .max, .min, .str, .tuple], true, ["FormError"], [], true⟩
def top (i : Nat) : Stmt := PySem.Challenge.pw_takenforms_k66_notes_round.main.body.getD i (.Pass ⟨0, 0, 0, 0⟩)
abbrev e_is_key : He.DefD := ⟨("is_key", none), "is_key", "is_key", defArgs (top 6), defBody (top 6), defScope (top 6), [], []⟩
abbrev e_is_name : He.DefD := ⟨("is_name", none), "is_name", "is_name", defArgs (top 7), defBody (top 7), defScope (top 7), [], []⟩
abbrev e_is_bare : He.DefD := ⟨("is_bare", none), "is_bare", "is_bare", defArgs (top 17), defBody (top 17), defScope (top 17), [], []⟩
abbrev e_write_note : He.DefD := ⟨("write_note", none), "write_note", "write_note", defArgs (top 18), defBody (top 18), defScope (top 18), [], []⟩
abbrev e_read_note : He.DefD := ⟨("read_note", none), "read_note", "read_note", defArgs (top 19), defBody (top 19), defScope (top 19), [], []⟩
abbrev e_read_value : He.DefD := ⟨("read_value", none), "read_value", "read_value", defArgs (top 20), defBody (top 20), defScope (top 20), [], []⟩
abbrev e_read_tuple : He.DefD := ⟨("read_tuple", none), "read_tuple", "read_tuple", defArgs (top 21), defBody (top 21), defScope (top 21), [], []⟩
abbrev e_run_end : He.DefD := ⟨("run_end", none), "run_end", "run_end", defArgs (top 22), defBody (top 22), defScope (top 22), [], []⟩
abbrev e_read_bare : He.DefD := ⟨("read_bare", none), "read_bare", "read_bare", defArgs (top 23), defBody (top 23), defScope (top 23), [], []⟩
abbrev e_read_number : He.DefD := ⟨("read_number", none), "read_number", "read_number", defArgs (top 24), defBody (top 24), defScope (top 24), [], []⟩
abbrev e_read_quoted : He.DefD := ⟨("read_quoted", none), "read_quoted", "read_quoted", defArgs (top 25), defBody (top 25), defScope (top 25), [], []⟩
abbrev e_law_cell : He.DefD := ⟨("_law_cell", none), "_law_cell", "_law_cell", defArgs (top 27), defBody (top 27), defScope (top 27), [], []⟩
abbrev e_law_row : He.DefD := ⟨("_law_row", none), "_law_row", "_law_row", defArgs (top 28), defBody (top 28), defScope (top 28), [], []⟩
abbrev e_law_signs : He.DefD := ⟨("_law_signs", none), "_law_signs", "_law_signs", defArgs (top 29), defBody (top 29), defScope (top 29), [], []⟩
abbrev e_law_number : He.DefD := ⟨("_law_number", none), "_law_number", "_law_number", defArgs (top 30), defBody (top 30), defScope (top 30), [], []⟩
abbrev e_law_string : He.DefD := ⟨("_law_string", none), "_law_string", "_law_string", defArgs (top 31), defBody (top 31), defScope (top 31), [], []⟩
abbrev e_law_leaf : He.DefD := ⟨("_law_leaf", none), "_law_leaf", "_law_leaf", defArgs (top 32), defBody (top 32), defScope (top 32), [], []⟩
abbrev e_law_tree : He.DefD := ⟨("_law_tree", none), "_law_tree", "_law_tree", defArgs (top 33), defBody (top 33), defScope (top 33), [], []⟩
abbrev e_law_value : He.DefD := ⟨("_law_value", none), "_law_value", "_law_value", defArgs (top 34), defBody (top 34), defScope (top 34), [], []⟩
abbrev e_law_bare : He.DefD := ⟨("_law_bare", none), "_law_bare", "_law_bare", defArgs (top 35), defBody (top 35), defScope (top 35), [], []⟩
abbrev e_law_note : He.DefD := ⟨("_law_note", none), "_law_note", "_law_note", defArgs (top 36), defBody (top 36), defScope (top 36), [], []⟩
abbrev e_law_same : He.DefD := ⟨("_law_same", none), "_law_same", "_law_same", defArgs (top 37), defBody (top 37), defScope (top 37), [], []⟩
abbrev e_law_round : He.DefD := ⟨("_law_round", none), "_law_round", "_law_round", defArgs (top 38), defBody (top 38), defScope (top 38), [], []⟩
abbrev e_law : He.DefD := ⟨("law", none), "law", "law", defArgs (top 39), defBody (top 39), defScope (top 39), [], []⟩
theorem f_is_key : Fits tab glb d_is_key e_is_key :=
  .plain rfl rfl rfl rfl rfl ⟨rfl, rfl, rfl, by decide +kernel, rfl, by decide +kernel, by decide +kernel⟩ (by decide +kernel) fun _ _ _ _ _ _ us hl => match us, hl with | [_], _ => rfl
theorem f_is_name : Fits tab glb d_is_name e_is_name :=
  .plain rfl rfl rfl rfl rfl ⟨rfl, rfl, rfl, by decide +kernel, rfl, by decide +kernel, by decide +kernel⟩ (by decide +kernel) fun _ _ _ _ _ _ us hl => match us, hl with | [_], _ => rfl
theorem f_is_bare : Fits tab glb d_is_bare e_is_bare :=
  .plain rfl rfl rfl rfl rfl ⟨rfl, rfl, rfl, by decide +kernel, rfl, by decide +kernel, by decide +kernel⟩ (by decide +kernel) fun _ _ _ _ _ _ us hl => match us, hl with | [_], _ => rfl
theorem f_write_note : Fits tab glb d_write_note e_write_note :=
  .plain rfl rfl rfl rfl rfl ⟨rfl, rfl, rfl, by decide +kernel, rfl, by decide +kernel, by decide +kernel⟩ (by decide +kernel) fun _ _ _ _ _ _ us hl => match us, hl with | [_], _ => rfl
theorem f_read_note : Fits tab glb d_read_note e_read_note :=
  .plain rfl rfl rfl rfl rfl ⟨rfl, rfl, rfl, by decide +kernel, rfl, by decide +kernel, by decide +kernel⟩ (by decide +kernel) fun _ _ _ _ _ _ us hl => match us, hl with | [_], _ => rfl
theorem f_read_value : Fits tab glb d_read_value e_read_value :=
  .plain rfl rfl rfl rfl rfl ⟨rfl, rfl, rfl, by decide +kernel, rfl, by decide +kernel, by decide +kernel⟩ (by decide +kernel) fun _ _ _ _ _ _ us hl => match us, hl with | [_, _], _ => rfl
theorem f_read_tuple : Fits tab glb d_read_tuple e_read_tuple :=
  .plain rfl rfl rfl rfl rfl ⟨rfl, rfl, rfl, by decide +kernel, rfl, by decide +kernel, by decide +kernel⟩ (by decide +kernel) fun _ _ _ _ _ _ us hl => match us, hl with | [_, _], _ => rfl
theorem f_run_end : Fits tab glb d_run_end e_run_end :=
  .plain rfl rfl rfl rfl rfl ⟨rfl, rfl, rfl, by decide +kernel, rfl, by decide +kernel, by decide +kernel⟩ (by decide +kernel) fun _ _ _ _ _ _ us hl => match us, hl with | [_, _, _, _], _ => rfl
theorem f_read_bare : Fits tab glb d_read_bare e_read_bare :=
  .plain rfl rfl rfl rfl rfl ⟨rfl, rfl, rfl, by decide +kernel, rfl, by decide +kernel, by decide +kernel⟩ (by decide +kernel) fun _ _ _ _ _ _ us hl => match us, hl with | [_, _], _ => rfl
theorem f_read_number : Fits tab glb d_read_number e_read_number :=
  .plain rfl rfl rfl rfl rfl ⟨rfl, rfl, rfl, by decide +kernel, rfl, by decide +kernel, by decide +kernel⟩ (by decide +kernel) fun _ _ _ _ _ _ us hl => match us, hl with | [_, _], _ => rfl
theorem f_read_quoted : Fits tab glb d_read_quoted e_read_quoted :=
  .plain rfl rfl rfl rfl rfl ⟨rfl, rfl, rfl, by decide +kernel, rfl, by decide +kernel, by decide +kernel⟩ (by decide +kernel) fun _ _ _ _ _ _ us hl => match us, hl with | [_, _], _ => rfl
theorem f_law_cell : Fits tab glb d_law_cell e_law_cell :=
  .plain rfl rfl rfl rfl rfl ⟨rfl, rfl, rfl, by decide +kernel, rfl, by decide +kernel, by decide +kernel⟩ (by decide +kernel) fun _ _ _ _ _ _ us hl => match us, hl with | [_, _], _ => rfl
theorem f_law_row : Fits tab glb d_law_row e_law_row :=
  .plain rfl rfl rfl rfl rfl ⟨rfl, rfl, rfl, by decide +kernel, rfl, by decide +kernel, by decide +kernel⟩ (by decide +kernel) fun _ _ _ _ _ _ us hl => match us, hl with | [_, _], _ => rfl
theorem f_law_signs : Fits tab glb d_law_signs e_law_signs :=
  .plain rfl rfl rfl rfl rfl ⟨rfl, rfl, rfl, by decide +kernel, rfl, by decide +kernel, by decide +kernel⟩ (by decide +kernel) fun _ _ _ _ _ _ us hl => match us, hl with | [_, _], _ => rfl
theorem f_law_number : Fits tab glb d_law_number e_law_number :=
  .plain rfl rfl rfl rfl rfl ⟨rfl, rfl, rfl, by decide +kernel, rfl, by decide +kernel, by decide +kernel⟩ (by decide +kernel) fun _ _ _ _ _ _ us hl => match us, hl with | [_, _, _], _ => rfl
theorem f_law_string : Fits tab glb d_law_string e_law_string :=
  .plain rfl rfl rfl rfl rfl ⟨rfl, rfl, rfl, by decide +kernel, rfl, by decide +kernel, by decide +kernel⟩ (by decide +kernel) fun _ _ _ _ _ _ us hl => match us, hl with | [_, _], _ => rfl
theorem f_law_leaf : Fits tab glb d_law_leaf e_law_leaf :=
  .plain rfl rfl rfl rfl rfl ⟨rfl, rfl, rfl, by decide +kernel, rfl, by decide +kernel, by decide +kernel⟩ (by decide +kernel) fun _ _ _ _ _ _ us hl => match us, hl with | [_], _ => rfl
theorem f_law_tree : Fits tab glb d_law_tree e_law_tree :=
  .plain rfl rfl rfl rfl rfl ⟨rfl, rfl, rfl, by decide +kernel, rfl, by decide +kernel, by decide +kernel⟩ (by decide +kernel) fun _ _ _ _ _ _ us hl => match us, hl with | [_, _, _, _], _ => rfl
theorem f_law_value : Fits tab glb d_law_value e_law_value :=
  .plain rfl rfl rfl rfl rfl ⟨rfl, rfl, rfl, by decide +kernel, rfl, by decide +kernel, by decide +kernel⟩ (by decide +kernel) fun _ _ _ _ _ _ us hl => match us, hl with | [_], _ => rfl
theorem f_law_bare : Fits tab glb d_law_bare e_law_bare :=
  .plain rfl rfl rfl rfl rfl ⟨rfl, rfl, rfl, by decide +kernel, rfl, by decide +kernel, by decide +kernel⟩ (by decide +kernel) fun _ _ _ _ _ _ us hl => match us, hl with | [_], _ => rfl
theorem f_law_note : Fits tab glb d_law_note e_law_note :=
  .plain rfl rfl rfl rfl rfl ⟨rfl, rfl, rfl, by decide +kernel, rfl, by decide +kernel, by decide +kernel⟩ (by decide +kernel) fun _ _ _ _ _ _ us hl => match us, hl with | [_], _ => rfl
theorem f_law_same : Fits tab glb d_law_same e_law_same :=
  .plain rfl rfl rfl rfl rfl ⟨rfl, rfl, rfl, by decide +kernel, rfl, by decide +kernel, by decide +kernel⟩ (by decide +kernel) fun _ _ _ _ _ _ us hl => match us, hl with | [_, _], _ => rfl
theorem f_law_round : Fits tab glb d_law_round e_law_round :=
  .plain rfl rfl rfl rfl rfl ⟨rfl, rfl, rfl, by decide +kernel, rfl, by decide +kernel, by decide +kernel⟩ (by decide +kernel) fun _ _ _ _ _ _ us hl => match us, hl with | [_], _ => rfl
theorem f_law : Fits tab glb d_law e_law :=
  .plain rfl rfl rfl rfl rfl ⟨rfl, rfl, rfl, by decide +kernel, rfl, by decide +kernel, by decide +kernel⟩ (by decide +kernel) fun _ _ _ _ _ _ us hl => match us, hl with | [_], _ => rfl
def fns : List He.DefD := [e_is_key, e_is_name, e_is_bare, e_write_note, e_read_note, e_read_value, e_read_tuple, e_run_end, e_read_bare, e_read_number, e_read_quoted, e_law_cell, e_law_row, e_law_signs, e_law_number, e_law_string, e_law_leaf, e_law_tree, e_law_value, e_law_bare, e_law_note, e_law_same, e_law_round, e_law]
theorem fitsAll : FitsAll tab glb tab fns := (.cons f_is_key (.cons f_is_name (.cons f_is_bare (.cons f_write_note (.cons f_read_note (.cons f_read_value (.cons f_read_tuple (.cons f_run_end (.cons f_read_bare (.cons f_read_number (.cons f_read_quoted (.cons f_law_cell (.cons f_law_row (.cons f_law_signs (.cons f_law_number (.cons f_law_string (.cons f_law_leaf (.cons f_law_tree (.cons f_law_value (.cons f_law_bare (.cons f_law_note (.cons f_law_same (.cons f_law_round (.cons f_law .nil))))))))))))))))))))))))
theorem uniqTab : uniq tab := uniq_of (by decide +kernel)
end RK66
set_option maxRecDepth 100000
set_option maxHeartbeats 4000000
namespace RK66
open PySem L2 RI
theorem run_is_key {k : Nat} {s : Store} {Q : D → Store → Prop} {X : Exn → Store → Prop} {a0 : D} (h : wf (exSs (tb tab k) d_is_key.ir [some a0, none] s) (fun _ s1 => Q .non s1) Q (fun _ _ => False) (fun _ _ => False) fun x _ s1 => X x s1) : wp (runD tab (k + 1) d_is_key [a0] s) Q X := w_run rfl h
theorem call_is_key {k : Nat} {s : Store} {Q : D → Store → Prop} {X : Exn → Store → Prop} {a0 : D} (h : wp (runD tab k d_is_key [a0] s) Q X) : wp ((tb tab k).call "is_key" [a0] s) Q X := w_tbc rfl h
theorem run_is_name {k : Nat} {s : Store} {Q : D → Store → Prop} {X : Exn → Store → Prop} {a0 : D} (h : wf (exSs (tb tab k) d_is_name.ir [some a0] s) (fun _ s1 => Q .non s1) Q (fun _ _ => False) (fun _ _ => False) fun x _ s1 => X x s1) : wp (runD tab (k + 1) d_is_name [a0] s) Q X := w_run rfl h
theorem call_is_name {k : Nat} {s : Store} {Q : D → Store → Prop} {X : Exn → Store → Prop} {a0 : D} (h : wp (runD tab k d_is_name [a0] s) Q X) : wp ((tb tab k).call "is_name" [a0] s) Q X := w_tbc rfl h
theorem run_is_bare {k : Nat} {s : Store} {Q : D → Store → Prop} {X : Exn → Store → Prop} {a0 : D} (h : wf (exSs (tb tab k) d_is_bare.ir [some a0] s) (fun _ s1 => Q .non s1) Q (fun _ _ => False) (fun _ _ => False) fun x _ s1 => X x s1) : wp (runD tab (k + 1) d_is_bare [a0] s) Q X := w_run rfl h
theorem call_is_bare {k : Nat} {s : Store} {Q : D → Store → Prop} {X : Exn → Store → Prop} {a0 : D} (h : wp (runD tab k d_is_bare [a0] s) Q X) : wp ((tb tab k).call "is_bare" [a0] s) Q X := w_tbc rfl h
theorem run_write_note {k : Nat} {s : Store} {Q : D → Store → Prop} {X : Exn → Store → Prop} {a0 : D} (h : wf (exSs (tb tab k) d_write_note.ir [some a0, none] s) (fun _ s1 => Q .non s1) Q (fun _ _ => False) (fun _ _ => False) fun x _ s1 => X x s1) : wp (runD tab (k + 1) d_write_note [a0] s) Q X := w_run rfl h
theorem call_write_note {k : Nat} {s : Store} {Q : D → Store → Prop} {X : Exn → Store → Prop} {a0 : D} (h : wp (runD tab k d_write_note [a0] s) Q X) : wp ((tb tab k).call "write_note" [a0] s) Q X := w_tbc rfl h
theorem run_read_note {k : Nat} {s : Store} {Q : D → Store → Prop} {X : Exn → Store → Prop} {a0 : D} (h : wf (exSs (tb tab k) d_read_note.ir [some a0, none, none] s) (fun _ s1 => Q .non s1) Q (fun _ _ => False) (fun _ _ => False) fun x _ s1 => X x s1) : wp (runD tab (k + 1) d_read_note [a0] s) Q X := w_run rfl h
theorem call_read_note {k : Nat} {s : Store} {Q : D → Store → Prop} {X : Exn → Store → Prop} {a0 : D} (h : wp (runD tab k d_read_note [a0] s) Q X) : wp ((tb tab k).call "read_note" [a0] s) Q X := w_tbc rfl h
theorem run_read_value {k : Nat} {s : Store} {Q : D → Store → Prop} {X : Exn → Store → Prop} {a0 a1 : D} (h : wf (exSs (tb tab k) d_read_value.ir [some a0, some a1, none] s) (fun _ s1 => Q .non s1) Q (fun _ _ => False) (fun _ _ => False) fun x _ s1 => X x s1) : wp (runD tab (k + 1) d_read_value [a0, a1] s) Q X := w_run rfl h
theorem call_read_value {k : Nat} {s : Store} {Q : D → Store → Prop} {X : Exn → Store → Prop} {a0 a1 : D} (h : wp (runD tab k d_read_value [a0, a1] s) Q X) : wp ((tb tab k).call "read_value" [a0, a1] s) Q X := w_tbc rfl h
theorem run_read_tuple {k : Nat} {s : Store} {Q : D → Store → Prop} {X : Exn → Store → Prop} {a0 a1 : D} (h : wf (exSs (tb tab k) d_read_tuple.ir [some a0, some a1, none, none, none] s) (fun _ s1 => Q .non s1) Q (fun _ _ => False) (fun _ _ => False) fun x _ s1 => X x s1) : wp (runD tab (k + 1) d_read_tuple [a0, a1] s) Q X := w_run rfl h
theorem call_read_tuple {k : Nat} {s : Store} {Q : D → Store → Prop} {X : Exn → Store → Prop} {a0 a1 : D} (h : wp (runD tab k d_read_tuple [a0, a1] s) Q X) : wp ((tb tab k).call "read_tuple" [a0, a1] s) Q X := w_tbc rfl h
theorem run_run_end {k : Nat} {s : Store} {Q : D → Store → Prop} {X : Exn → Store → Prop} {a0 a1 a2 a3 : D} (h : wf (exSs (tb tab k) d_run_end.ir [some a0, some a1, some a2, some a3, none] s) (fun _ s1 => Q .non s1) Q (fun _ _ => False) (fun _ _ => False) fun x _ s1 => X x s1) : wp (runD tab (k + 1) d_run_end [a0, a1, a2, a3] s) Q X := w_run rfl h
theorem call_run_end {k : Nat} {s : Store} {Q : D → Store → Prop} {X : Exn → Store → Prop} {a0 a1 a2 a3 : D} (h : wp (runD tab k d_run_end [a0, a1, a2, a3] s) Q X) : wp ((tb tab k).call "run_end" [a0, a1, a2, a3] s) Q X := w_tbc rfl h
theorem run_read_bare {k : Nat} {s : Store} {Q : D → Store → Prop} {X : Exn → Store → Prop} {a0 a1 : D} (h : wf (exSs (tb tab k) d_read_bare.ir [some a0, some a1, none, none] s) (fun _ s1 => Q .non s1) Q (fun _ _ => False) (fun _ _ => False) fun x _ s1 => X x s1) : wp (runD tab (k + 1) d_read_bare [a0, a1] s) Q X := w_run rfl h
theorem call_read_bare {k : Nat} {s : Store} {Q : D → Store → Prop} {X : Exn → Store → Prop} {a0 a1 : D} (h : wp (runD tab k d_read_bare [a0, a1] s) Q X) : wp ((tb tab k).call "read_bare" [a0, a1] s) Q X := w_tbc rfl h
theorem run_read_number {k : Nat} {s : Store} {Q : D → Store → Prop} {X : Exn → Store → Prop} {a0 a1 : D} (h : wf (exSs (tb tab k) d_read_number.ir [some a0, some a1, none, none] s) (fun _ s1 => Q .non s1) Q (fun _ _ => False) (fun _ _ => False) fun x _ s1 => X x s1) : wp (runD tab (k + 1) d_read_number [a0, a1] s) Q X := w_run rfl h
theorem call_read_number {k : Nat} {s : Store} {Q : D → Store → Prop} {X : Exn → Store → Prop} {a0 a1 : D} (h : wp (runD tab k d_read_number [a0, a1] s) Q X) : wp ((tb tab k).call "read_number" [a0, a1] s) Q X := w_tbc rfl h
theorem run_read_quoted {k : Nat} {s : Store} {Q : D → Store → Prop} {X : Exn → Store → Prop} {a0 a1 : D} (h : wf (exSs (tb tab k) d_read_quoted.ir [some a0, some a1, none] s) (fun _ s1 => Q .non s1) Q (fun _ _ => False) (fun _ _ => False) fun x _ s1 => X x s1) : wp (runD tab (k + 1) d_read_quoted [a0, a1] s) Q X := w_run rfl h
theorem call_read_quoted {k : Nat} {s : Store} {Q : D → Store → Prop} {X : Exn → Store → Prop} {a0 a1 : D} (h : wp (runD tab k d_read_quoted [a0, a1] s) Q X) : wp ((tb tab k).call "read_quoted" [a0, a1] s) Q X := w_tbc rfl h
theorem run_L_cell {k : Nat} {s : Store} {Q : D → Store → Prop} {X : Exn → Store → Prop} {a0 a1 : D} (h : wf (exSs (tb tab k) d_law_cell.ir [some a0, some a1, none, none] s) (fun _ s1 => Q .non s1) Q (fun _ _ => False) (fun _ _ => False) fun x _ s1 => X x s1) : wp (runD tab (k + 1) d_law_cell [a0, a1] s) Q X := w_run rfl h
theorem call_L_cell {k : Nat} {s : Store} {Q : D → Store → Prop} {X : Exn → Store → Prop} {a0 a1 : D} (h : wp (runD tab k d_law_cell [a0, a1] s) Q X) : wp ((tb tab k).call "_law_cell" [a0, a1] s) Q X := w_tbc rfl h
theorem run_L_row {k : Nat} {s : Store} {Q : D → Store → Prop} {X : Exn → Store → Prop} {a0 a1 : D} (h : wf (exSs (tb tab k) d_law_row.ir [some a0, some a1, none, none, none, none, none] s) (fun _ s1 => Q .non s1) Q (fun _ _ => False) (fun _ _ => False) fun x _ s1 => X x s1) : wp (runD tab (k + 1) d_law_row [a0, a1] s) Q X := w_run rfl h
theorem call_L_row {k : Nat} {s : Store} {Q : D → Store → Prop} {X : Exn → Store → Prop} {a0 a1 : D} (h : wp (runD tab k d_law_row [a0, a1] s) Q X) : wp ((tb tab k).call "_law_row" [a0, a1] s) Q X := w_tbc rfl h
theorem run_L_signs {k : Nat} {s : Store} {Q : D → Store → Prop} {X : Exn → Store → Prop} {a0 a1 : D} (h : wf (exSs (tb tab k) d_law_signs.ir [some a0, some a1, none] s) (fun _ s1 => Q .non s1) Q (fun _ _ => False) (fun _ _ => False) fun x _ s1 => X x s1) : wp (runD tab (k + 1) d_law_signs [a0, a1] s) Q X := w_run rfl h
theorem call_L_signs {k : Nat} {s : Store} {Q : D → Store → Prop} {X : Exn → Store → Prop} {a0 a1 : D} (h : wp (runD tab k d_law_signs [a0, a1] s) Q X) : wp ((tb tab k).call "_law_signs" [a0, a1] s) Q X := w_tbc rfl h
theorem run_L_number {k : Nat} {s : Store} {Q : D → Store → Prop} {X : Exn → Store → Prop} {a0 a1 a2 : D} (h : wf (exSs (tb tab k) d_law_number.ir [some a0, some a1, some a2, none, none] s) (fun _ s1 => Q .non s1) Q (fun _ _ => False) (fun _ _ => False) fun x _ s1 => X x s1) : wp (runD tab (k + 1) d_law_number [a0, a1, a2] s) Q X := w_run rfl h
theorem call_L_number {k : Nat} {s : Store} {Q : D → Store → Prop} {X : Exn → Store → Prop} {a0 a1 a2 : D} (h : wp (runD tab k d_law_number [a0, a1, a2] s) Q X) : wp ((tb tab k).call "_law_number" [a0, a1, a2] s) Q X := w_tbc rfl h
theorem run_L_string {k : Nat} {s : Store} {Q : D → Store → Prop} {X : Exn → Store → Prop} {a0 a1 : D} (h : wf (exSs (tb tab k) d_law_string.ir [some a0, some a1, none, none, none, none, none, none] s) (fun _ s1 => Q .non s1) Q (fun _ _ => False) (fun _ _ => False) fun x _ s1 => X x s1) : wp (runD tab (k + 1) d_law_string [a0, a1] s) Q X := w_run rfl h
theorem call_L_string {k : Nat} {s : Store} {Q : D → Store → Prop} {X : Exn → Store → Prop} {a0 a1 : D} (h : wp (runD tab k d_law_string [a0, a1] s) Q X) : wp ((tb tab k).call "_law_string" [a0, a1] s) Q X := w_tbc rfl h
theorem run_L_leaf {k : Nat} {s : Store} {Q : D → Store → Prop} {X : Exn → Store → Prop} {a0 : D} (h : wf (exSs (tb tab k) d_law_leaf.ir [some a0, none, none, none] s) (fun _ s1 => Q .non s1) Q (fun _ _ => False) (fun _ _ => False) fun x _ s1 => X x s1) : wp (runD tab (k + 1) d_law_leaf [a0] s) Q X := w_run rfl h
theorem call_L_leaf {k : Nat} {s : Store} {Q : D → Store → Prop} {X : Exn → Store → Prop} {a0 : D} (h : wp (runD tab k d_law_leaf [a0] s) Q X) : wp ((tb tab k).call "_law_leaf" [a0] s) Q X := w_tbc rfl h
theorem run_L_tree {k : Nat} {s : Store} {Q : D → Store → Prop} {X : Exn → Store → Prop} {a0 a1 a2 a3 : D} (h : wf (exSs (tb tab k) d_law_tree.ir [some a0, some a1, some a2, some a3, none, none, none, none, none] s) (fun _ s1 => Q .non s1) Q (fun _ _ => False) (fun _ _ => False) fun x _ s1 => X x s1) : wp (runD tab (k + 1) d_law_tree [a0, a1, a2, a3] s) Q X := w_run rfl h
theorem call_L_tree {k : Nat} {s : Store} {Q : D → Store → Prop} {X : Exn → Store → Prop} {a0 a1 a2 a3 : D} (h : wp (runD tab k d_law_tree [a0, a1, a2, a3] s) Q X) : wp ((tb tab k).call "_law_tree" [a0, a1, a2, a3] s) Q X := w_tbc rfl h
theorem run_L_value {k : Nat} {s : Store} {Q : D → Store → Prop} {X : Exn → Store → Prop} {a0 : D} (h : wf (exSs (tb tab k) d_law_value.ir [some a0, none, none, none, none, none] s) (fun _ s1 => Q .non s1) Q (fun _ _ => False) (fun _ _ => False) fun x _ s1 => X x s1) : wp (runD tab (k + 1) d_law_value [a0] s) Q X := w_run rfl h
theorem call_L_value {k : Nat} {s : Store} {Q : D → Store → Prop} {X : Exn → Store → Prop} {a0 : D} (h : wp (runD tab k d_law_value [a0] s) Q X) : wp ((tb tab k).call "_law_value" [a0] s) Q X := w_tbc rfl h
theorem run_L_bare {k : Nat} {s : Store} {Q : D → Store → Prop} {X : Exn → Store → Prop} {a0 : D} (h : wf (exSs (tb tab k) d_law_bare.ir [some a0, none] s) (fun _ s1 => Q .non s1) Q (fun _ _ => False) (fun _ _ => False) fun x _ s1 => X x s1) : wp (runD tab (k + 1) d_law_bare [a0] s) Q X := w_run rfl h
theorem call_L_bare {k : Nat} {s : Store} {Q : D → Store → Prop} {X : Exn → Store → Prop} {a0 : D} (h : wp (runD tab k d_law_bare [a0] s) Q X) : wp ((tb tab k).call "_law_bare" [a0] s) Q X := w_tbc rfl h
theorem run_L_note {k : Nat} {s : Store} {Q : D → Store → Prop} {X : Exn → Store → Prop} {a0 : D} (h : wf (exSs (tb tab k) d_law_note.ir [some a0, none] s) (fun _ s1 => Q .non s1) Q (fun _ _ => False) (fun _ _ => False) fun x _ s1 => X x s1) : wp (runD tab (k + 1) d_law_note [a0] s) Q X := w_run rfl h
theorem call_L_note {k : Nat} {s : Store} {Q : D → Store → Prop} {X : Exn → Store → Prop} {a0 : D} (h : wp (runD tab k d_law_note [a0] s) Q X) : wp ((tb tab k).call "_law_note" [a0] s) Q X := w_tbc rfl h
theorem run_L_same {k : Nat} {s : Store} {Q : D → Store → Prop} {X : Exn → Store → Prop} {a0 a1 : D} (h : wf (exSs (tb tab k) d_law_same.ir [some a0, some a1, none] s) (fun _ s1 => Q .non s1) Q (fun _ _ => False) (fun _ _ => False) fun x _ s1 => X x s1) : wp (runD tab (k + 1) d_law_same [a0, a1] s) Q X := w_run rfl h
theorem call_L_same {k : Nat} {s : Store} {Q : D → Store → Prop} {X : Exn → Store → Prop} {a0 a1 : D} (h : wp (runD tab k d_law_same [a0, a1] s) Q X) : wp ((tb tab k).call "_law_same" [a0, a1] s) Q X := w_tbc rfl h
theorem run_L_round {k : Nat} {s : Store} {Q : D → Store → Prop} {X : Exn → Store → Prop} {a0 : D} (h : wf (exSs (tb tab k) d_law_round.ir [some a0, none, none] s) (fun _ s1 => Q .non s1) Q (fun _ _ => False) (fun _ _ => False) fun x _ s1 => X x s1) : wp (runD tab (k + 1) d_law_round [a0] s) Q X := w_run rfl h
theorem call_L_round {k : Nat} {s : Store} {Q : D → Store → Prop} {X : Exn → Store → Prop} {a0 : D} (h : wp (runD tab k d_law_round [a0] s) Q X) : wp ((tb tab k).call "_law_round" [a0] s) Q X := w_tbc rfl h
theorem run_law {k : Nat} {s : Store} {Q : D → Store → Prop} {X : Exn → Store → Prop} {a0 : D} (h : wf (exSs (tb tab k) d_law.ir [some a0, none, none, none, none] s) (fun _ s1 => Q .non s1) Q (fun _ _ => False) (fun _ _ => False) fun x _ s1 => X x s1) : wp (runD tab (k + 1) d_law [a0] s) Q X := w_run rfl h
theorem call_law {k : Nat} {s : Store} {Q : D → Store → Prop} {X : Exn → Store → Prop} {a0 : D} (h : wp (runD tab k d_law [a0] s) Q X) : wp ((tb tab k).call "law" [a0] s) Q X := w_tbc rfl h
end RK66
set_option maxRecDepth 100000
set_option maxHeartbeats 4000000
set_option exponentiation.threshold 10000
namespace RK66
open PySem L2 RI
local macro_rules | `(tactic| walk_at "ri") => `(tactic| first
  | with_reducible refine f_cons ?_
  | with_reducible refine f_nil ?_
  | with_reducible refine f_asg ?_
  | with_reducible refine f_ret ?_
  | with_reducible refine f_ife ?_
  | with_reducible refine f_expr ?_
  | with_reducible refine f_raise ?_
  | with_reducible refine f_brk ?_
  | with_reducible refine f_try ?_
  | with_reducible refine w_c ?_
  | ((with_reducible apply w_var); exact rfl)
  | with_reducible refine w_nil ?_
  | with_reducible refine w_cons ?_
  | with_reducible refine w_tup ?_
  | with_reducible refine w_tupK rfl ?_
  | with_reducible refine w_lst ?_
  | with_reducible refine w_lstK rfl ?_
  | with_reducible refine w_bin ?_
  | with_reducible refine w_add ?_
  | with_reducible refine w_sub ?_
  | with_reducible refine w_neg ?_
  | with_reducible refine w_negK ?_
  | with_reducible refine w_cmp ?_
  | with_reducible refine w_lt ?_
  | with_reducible refine w_le ?_
  | with_reducible refine w_gt ?_
  | with_reducible refine w_ge ?_
  | with_reducible refine w_eqI ?_
  | with_reducible refine w_neI ?_
  | with_reducible refine w_eqB ?_
  | with_reducible refine w_neB ?_
  | with_reducible refine w_trB ?_
  | with_reducible refine w_trI ?_
  | with_reducible refine w_and ?_
  | with_reducible refine w_or ?_
  | with_reducible refine w_not ?_
  | with_reducible refine w_ite ?_
  | with_reducible refine w_ix ?_
  | ((with_reducible apply w_ixS); (first | assumption | exact rfl); exact rfl)
  | with_reducible refine w_call ?_
  | with_reducible refine w_callk ?_
  | with_reducible refine w_bi ?_
  | with_reducible refine w_abs ?_
  | with_reducible refine w_gcd ?_
  | with_reducible refine w_intI ?_
  | with_reducible refine w_intB ?_
  | with_reducible refine w_isi ?_
  | ((with_reducible refine w_isiK_t ?_ ?_); focus (exact rfl))
  | ((with_reducible refine w_isiK_f ?_ ?_); focus (exact rfl))
  | with_reducible refine br_n ?_
  | with_reducible refine br_t ?_
  | with_reducible refine br_f ?_
  | with_reducible refine f_cnt ?_
  | with_reducible refine f_pass ?_
  | with_reducible refine f_retN ?_
  | with_reducible refine w_truM ?_
  | with_reducible refine w_irng ?_
  | with_reducible refine w_iseq ?_
  | with_reducible refine w_dic ?_
  | with_reducible refine w_meth ?_
  | with_reducible refine w_dic0T ?_
  | with_reducible refine w_dic0K ?_
  | with_reducible refine w_isis ?_
  | with_reducible refine f_setiG ?_
  | with_reducible refine w_tupleT ?_
  | ((with_reducible refine w_mod ?_ ?_); (focus decide))
  | ((with_reducible refine w_pow ?_ ?_); (focus decide))
  | ((with_reducible refine w_fdiv ?_ ?_ ?_); (focus decide); (focus (exact Bd.fits (n := 120) (Bd.lit (by decide)) (by decide))))
  | with_reducible refine w_isN ?_
  | with_reducible refine w_isNN ?_
  | ((with_reducible apply w_exis_t); exact rfl; exact rfl; exact rfl)
  | ((with_reducible apply w_exis_f); exact rfl; exact rfl; exact rfl)
  | ((with_reducible apply w_glob); exact rfl)
  | with_reducible refine w_chn ?_
  | with_reducible refine w_sl ?_
  | with_reducible refine w_part0 ?_
  | with_reducible refine w_part1 ?_
  | with_reducible refine w_slT ?_)
local macro_rules | `(tactic| walk_at "bd") => `(tactic| first
  | with_reducible assumption
  | with_reducible exact In.bd60 (by assumption)
  | with_reducible exact Bd.bool _
  | ((with_reducible apply Bd.modL); (focus decide); (walk_at "bd"))
  | ((with_reducible apply Bd.fdivL); (focus decide); (walk_at "bd"))
  | ((with_reducible apply Bd.abs); (walk_at "bd"))
  | with_reducible exact Bd.pow (by decide)
  | ((with_reducible apply Bd.mul); (focus (walk_at "bd")); (focus (walk_at "bd")))
  | ((with_reducible apply Bd.addM); (focus (walk_at "bd")); (focus (walk_at "bd")))
  | ((with_reducible apply Bd.subM); (focus (walk_at "bd")); (focus (walk_at "bd")))
  | ((with_reducible apply Bd.neg); (walk_at "bd"))
  | exact Bd.lit (n := 128) (by decide))
local macro_rules | `(tactic| walk_at "fit") => `(tactic| ((with_reducible apply Bd.fits); (focus (walk_at "bd")); (focus decide)))
local macro_rules | `(tactic| walk_at "rk") => `(tactic| first
  | walk_at "ri"
  | ((with_reducible refine w_mul ?_ ?_ ?_); (focus (walk_at "fit")); (focus (walk_at "fit")))
  | ((with_reducible refine w_ixR (by assumption) ?_ ?_); (focus (first | decide | omega | assumption)); (intro _ _)))
variable {k : Nat} {s : Store} {X : Exn → Store → Prop}
theorem cell_ok {d : D} {j : Int} (h : Scr s d) (hj : RI.In 70 j) : wp (runD tab (k + 1) d_law_cell [d, .int j] s) (fun v s' => (∃ i, v = .int i) ∧ s' = s) X := by
  obtain ⟨n, ns, rfl, h⟩ := h
  refine run_L_cell ?_
  dsimp only [d_law_cell]
  repeat walk_at "ri"
  refine w_len h ?_
  repeat walk_at "ri"
  refine br_d (fun a => ?_) (fun a => ?_)
  · repeat walk_at "ri"
    obtain ⟨d, hd, e⟩ := atI_lt hj.1 a
    obtain ⟨i, _, rfl⟩ := List.mem_map.mp hd
    refine w_ixS h e ?_
    exact ⟨⟨i, rfl⟩, rfl⟩
  · repeat walk_at "ri"
    refine f_seq ?_
    repeat walk_at "ri"
    refine ⟨ns.map D.int, fun _ ρ s' => s' = s ∧ ∃ (z : Int) (x : Option D), Bd 20 z ∧ ρ = [some (.ref n), some (.int j), some (.int z), x], h, ⟨rfl, 17, none, Bd.lit (by decide), rfl⟩, ?_, ?_, ?_⟩
    · rintro i ρ s' ⟨rfl, _⟩
      exact h
    · rintro i d ρ s' hd ⟨rfl, z, x, hz, rfl⟩
      obtain ⟨c, _, rfl⟩ := List.mem_map.mp (List.mem_of_getElem? hd)
      dsimp only [List.set]
      repeat walk_at "rk"
      exact ⟨rfl, _, _, RI.In.bd (RI.In.mod (by decide)) (by decide), rfl⟩
    · rintro ρ s' ⟨rfl, z, x, hz, rfl⟩
      have bj : Bd 7 j := hj.bd (by decide)
      repeat walk_at "rk"
      exact ⟨⟨_, rfl⟩, rfl⟩
def RowI (s0 : Store) (c m : Int) (j : Nat) (ρ : RI.Env) (s : Store) : Prop := ∃ (l : List Int) (a z : Int) (x y : Option D), s = s0 ++ [.lst (l.map D.int)] ∧ l.length = j ∧ (∀ i ∈ l, RI.In 92 i) ∧ RI.In 2147483647 z ∧ ρ = [some (.int c), some (.int m), some (.ref s0.length), some (.int a), some (.int z), x, y]
theorem row_okX {c : Int} {m : Nat} (hm : m ≤ 100) : wp (runD tab (k + 1) d_law_row [.int c, .int m] s) (fun v s' => ∃ l : List Int, v = .ref s.length ∧ s' = s ++ [.lst (l.map D.int)] ∧ l.length = m ∧ ∀ i ∈ l, RI.In 92 i) X := by
  refine run_L_row ?_
  dsimp only [d_law_row]
  repeat walk_at "ri"
  refine f_rng ?_
  repeat walk_at "ri"
  refine ⟨_, RowI s c m, rfl, ⟨by omega, by omega⟩, ⟨[], _, _, none, none, rfl, rfl, fun i h => absurd h (List.not_mem_nil), ?_, rfl⟩, ?_, ?_⟩
  · have := RI.In.mod (a := c) (show (0 : Int) < 2147483629 by decide)
    unfold RI.In at this ⊢
    omega
  · rintro j ρ s1 hj ⟨l, a, z, x, y, rfl, hl, hi, hz, rfl⟩
    dsimp only [List.set]
    have bz : Bd 31 z := hz.bd (by decide)
    have bj : Bd 7 (j : Int) := by
      unfold Bd
      rw [Int.natAbs_natCast]
      omega
    repeat walk_at "rk"
    generalize hz2 : Int.fmod _ 2147483647 = z2
    have iz2 : RI.In 2147483647 z2 := by rw [← hz2]; exact RI.In.mod (by decide)
    have bz2 : Bd 31 z2 := iz2.bd (by decide)
    repeat walk_at "rk"
    refine br_cut (fun ρ s1 => s1 = s ++ [.lst (l.map D.int)] ∧ ∃ a dg : Int, ρ = [some (.int c), some (.int m), some (.ref s.length), some (.int a), some (.int z2), some (.int j), some (.int dg)]) (fun _ => ?_) (fun _ => ?_) ?_
    · repeat walk_at "rk"
      exact ⟨rfl, _, _, rfl⟩
    · repeat walk_at "rk"
      exact ⟨rfl, _, _, rfl⟩
    · rintro ρ s1 ⟨rfl, a, dg, rfl⟩
      repeat walk_at "rk"
      refine ⟨rcv_lst (get_new _ _), ?_⟩
      repeat walk_at "rk"
      refine w_appK (get_new s _) (by rw [List.length_map]; unfold most; omega) ?_
      repeat walk_at "rk"
      refine ⟨l ++ [dg.fmod 92], a, z2, _, _, ?_, by simp [hl], ?_, iz2, rfl⟩
      · rw [set_new, List.map_append]
        rfl
      · intro i h
        rcases List.mem_append.mp h with h | h
        · exact hi i h
        · have e : i = dg.fmod 92 := by simpa using h
          rw [e]
          exact RI.In.mod (by decide)
  · rintro ρ s1 ⟨l, a, z, x, y, rfl, hl, hi, hz, rfl⟩
    repeat walk_at "ri"
    exact ⟨l, rfl, rfl, by rw [hl]; exact Int.toNat_natCast m, hi⟩
theorem row_ok {c : Int} {m : Nat} (hm : m ≤ 100) : wp (runD tab (k + 1) d_law_row [.int c, .int m] s) (fun v s' => RowAt s' v m 92 ∧ Ext s s') X := by
  refine w_mono (row_okX (X := X) hm) ?_ fun _ _ z => z
  rintro _ _ ⟨l, rfl, rfl, h1, h2⟩
  exact ⟨⟨l, lst_new s _, h1, h2⟩, Ext.new1 _ _⟩
end RK66
set_option maxRecDepth 100000
set_option maxHeartbeats 4000000
set_option exponentiation.threshold 10000
namespace RK66
open PySem L2 RI TL
local macro_rules | `(tactic| walk_at "ri") => `(tactic| first
  | with_reducible refine f_cons ?_
  | with_reducible refine f_nil ?_
  | with_reducible refine f_asg ?_
  | with_reducible refine f_ret ?_
  | with_reducible refine f_ife ?_
  | with_reducible refine f_expr ?_
  | with_reducible refine f_raise ?_
  | with_reducible refine f_brk ?_
  | with_reducible refine f_try ?_
  | with_reducible refine w_c ?_
  | ((with_reducible apply w_var); exact rfl)
  | with_reducible refine w_nil ?_
  | with_reducible refine w_cons ?_
  | with_reducible refine w_tup ?_
  | with_reducible refine w_tupK rfl ?_
  | with_reducible refine w_lst ?_
  | with_reducible refine w_lstK rfl ?_
  | with_reducible refine w_bin ?_
  | with_reducible refine w_add ?_
  | with_reducible refine w_sub ?_
  | with_reducible refine w_neg ?_
  | with_reducible refine w_negK ?_
  | with_reducible refine w_cmp ?_
  | with_reducible refine w_lt ?_
  | with_reducible refine w_le ?_
  | with_reducible refine w_gt ?_
  | with_reducible refine w_ge ?_
  | with_reducible refine w_eqI ?_
  | with_reducible refine w_neI ?_
  | with_reducible refine w_eqB ?_
  | with_reducible refine w_neB ?_
  | with_reducible refine w_trB ?_
  | with_reducible refine w_trI ?_
  | with_reducible refine w_and ?_
  | with_reducible refine w_or ?_
  | with_reducible refine w_not ?_
  | with_reducible refine w_ite ?_
  | with_reducible refine w_ix ?_
  | ((with_reducible apply w_ixS); (first | assumption | exact rfl); exact rfl)
  | with_reducible refine w_call ?_
  | with_reducible refine w_callk ?_
  | with_reducible refine w_bi ?_
  | with_reducible refine w_abs ?_
  | with_reducible refine w_gcd ?_
  | with_reducible refine w_intI ?_
  | with_reducible refine w_intB ?_
  | with_reducible refine w_isi ?_
  | ((with_reducible refine w_isiK_t ?_ ?_); focus (exact rfl))
  | ((with_reducible refine w_isiK_f ?_ ?_); focus (exact rfl))
  | with_reducible refine br_n ?_
  | with_reducible refine br_t ?_
  | with_reducible refine br_f ?_
  | with_reducible refine f_cnt ?_
  | with_reducible refine f_pass ?_
  | with_reducible refine f_retN ?_
  | with_reducible refine w_truM ?_
  | with_reducible refine w_irng ?_
  | with_reducible refine w_iseq ?_
  | with_reducible refine w_dic ?_
  | with_reducible refine w_meth ?_
  | with_reducible refine w_dic0T ?_
  | with_reducible refine w_dic0K ?_
  | with_reducible refine w_isis ?_
  | with_reducible refine f_setiG ?_
  | with_reducible refine w_tupleT ?_
  | ((with_reducible refine w_mod ?_ ?_); (focus decide))
  | ((with_reducible refine w_pow ?_ ?_); (focus decide))
  | ((with_reducible refine w_fdiv ?_ ?_ ?_); (focus decide); (focus (exact Bd.fits (n := 120) (Bd.lit (by decide)) (by decide))))
  | with_reducible refine w_isN ?_
  | with_reducible refine w_isNN ?_
  | ((with_reducible apply w_exis_t); exact rfl; exact rfl; exact rfl)
  | ((with_reducible apply w_exis_f); exact rfl; exact rfl; exact rfl)
  | ((with_reducible apply w_glob); exact rfl)
  | with_reducible refine w_chn ?_
  | with_reducible refine w_sl ?_
  | with_reducible refine w_part0 ?_
  | with_reducible refine w_part1 ?_
  | with_reducible refine w_slT ?_)
local macro_rules | `(tactic| walk_at "bd") => `(tactic| first
  | with_reducible assumption
  | with_reducible exact In.bd60 (by assumption)
  | with_reducible exact Bd.bool _
  | ((with_reducible apply Bd.modL); (focus decide); (walk_at "bd"))
  | ((with_reducible apply Bd.fdivL); (focus decide); (walk_at "bd"))
  | ((with_reducible apply Bd.abs); (walk_at "bd"))
  | with_reducible exact Bd.pow (by decide)
  | ((with_reducible apply Bd.mul); (focus (walk_at "bd")); (focus (walk_at "bd")))
  | ((with_reducible apply Bd.addM); (focus (walk_at "bd")); (focus (walk_at "bd")))
  | ((with_reducible apply Bd.subM); (focus (walk_at "bd")); (focus (walk_at "bd")))
  | ((with_reducible apply Bd.neg); (walk_at "bd"))
  | exact Bd.lit (n := 128) (by decide))
local macro_rules | `(tactic| walk_at "fit") => `(tactic| ((with_reducible apply Bd.fits); (focus (walk_at "bd")); (focus decide)))
local macro_rules | `(tactic| walk_at "rk") => `(tactic| first
  | walk_at "ri"
  | ((with_reducible refine w_mul ?_ ?_ ?_); (focus (walk_at "fit")); (focus (walk_at "fit")))
  | ((with_reducible refine w_ixR (by assumption) ?_ ?_); (focus (first | decide | omega | assumption)); (intro _ _)))
variable {k : Nat} {s : Store} {X : Exn → Store → Prop}
def LETS : List Nat := [97, 98, 99, 100, 101, 102, 103, 104, 105, 106, 107, 108, 109, 110, 111, 112, 113, 114, 115, 116, 117, 118, 119, 120, 121, 122]
def DIGS : List Nat := [48, 49, 50, 51, 52, 53, 54, 55, 56, 57]
theorem lit_lets : ("abcdefghijklmnopqrstuvwxyz" : Str) = sL LETS := rfl
theorem lit_digs : ("0123456789" : Str) = sL DIGS := rfl
theorem lit_al : ("abcdefghijklmnopqrstuvwxyz0123456789" : Str) = sL (LETS ++ DIGS) := rfl
def letB (c : Nat) : Bool := decide (97 ≤ c) && decide (c ≤ 122)
def digB (c : Nat) : Bool := decide (48 ≤ c) && decide (c ≤ 57)
def alB (c : Nat) : Bool := letB c || digB c
theorem in_lets (c : Nat) : decide (c ∈ LETS) = letB c := by
  unfold letB LETS
  rw [← Bool.decide_and, decide_eq_decide]
  simp only [List.mem_cons, List.not_mem_nil, or_false]
  omega
theorem in_digs (c : Nat) : decide (c ∈ DIGS) = digB c := by
  unfold digB DIGS
  rw [← Bool.decide_and, decide_eq_decide]
  simp only [List.mem_cons, List.not_mem_nil, or_false]
  omega
theorem in_al (c : Nat) : decide (c ∈ LETS ++ DIGS) = alB c := by
  unfold alB
  rw [← in_lets, ← in_digs, ← Bool.decide_or, decide_eq_decide, List.mem_append]
def keyB (l : List Nat) : Bool := decide (1 ≤ l.length) && (decide (l.length ≤ 12) && l.all alB)
def hd (f : Nat → Bool) : List Nat → Bool
  | [] => false
  | c :: _ => f c
theorem hd_cons (f : Nat → Bool) (c : Nat) (r : List Nat) : hd f (c :: r) = f c := rfl
def nameB (l : List Nat) : Bool := keyB l && hd letB l
def WDS : List (List Nat) := [[121, 101, 115], [110, 111], [110, 111, 110, 101]]
def bareB (l : List Nat) : Bool := nameB l && !decide (l ∈ WDS)
theorem is_key_ok {l : List Nat} (hl : l.length ≤ most) : wp (runD tab (k + 1) d_is_key [.str (sL l)] s) (fun v s' => v = .bl (keyB l) ∧ Ext s s') X := by
  refine run_is_key ?_
  dsimp only [d_is_key]
  repeat walk_at "rk"
  refine w_lenL hl ?_
  repeat walk_at "rk"
  unfold keyB
  refine br_d (fun h1 => ?_) (fun h1 => ?_)
  · repeat walk_at "rk"
    refine br_d (fun h2 => ?_) (fun h2 => ?_)
    · have e1 : decide (1 ≤ l.length) = true := decide_eq_true (by omega)
      have e2 : decide (l.length ≤ 12) = true := decide_eq_true (by omega)
      rw [e1, e2, Bool.true_and, Bool.true_and]
      repeat walk_at "rk"
      refine w_lcS ?_
      repeat walk_at "rk"
      refine ⟨l, fun c => .bl (alB c), rfl, hl, ?_, ?_⟩
      · intro c acc hc
        dsimp only [wipeD, List.set]
        unfold alB
        repeat walk_at "rk"
        rw [lit_lets]
        refine w_inC ?_
        rw [in_lets]
        repeat walk_at "rk"
        refine br (fun z => ?_) (fun z => ?_)
        · rw [z]
          exact ⟨rfl, rfl⟩
        · repeat walk_at "rk"
          rw [lit_digs]
          refine w_inC ?_
          rw [in_digs, z, Bool.false_or]
          exact ⟨rfl, rfl⟩
      · repeat walk_at "rk"
        refine w_all (bs := l.map alB) (by rw [lst_new, List.map_map]; rfl) ?_
        refine ⟨?_, Ext.new1 _ _⟩
        rw [List.all_map]
        rfl
    · have e2 : decide (l.length ≤ 12) = false := decide_eq_false (by omega)
      rw [e2, Bool.false_and, Bool.and_false]
      repeat walk_at "rk"
      exact ⟨rfl, Ext.refl _⟩
  · have e1 : decide (1 ≤ l.length) = false := decide_eq_false (by omega)
    rw [e1, Bool.false_and]
    repeat walk_at "rk"
    exact ⟨rfl, Ext.refl _⟩
theorem is_name_ok {l : List Nat} (hl : l.length ≤ most) : wp (runD tab (k + 2) d_is_name [.str (sL l)] s) (fun v s' => v = .bl (nameB l) ∧ Ext s s') X := by
  refine run_is_name ?_
  dsimp only [d_is_name]
  repeat walk_at "rk"
  refine call_is_key (w_get (is_key_ok (k := k) hl) ?_)
  rintro _ s1 ⟨rfl, x1⟩
  repeat walk_at "rk"
  unfold nameB
  refine br (fun z => ?_) (fun z => ?_)
  · rw [z, Bool.true_and]
    repeat walk_at "rk"
    cases l with
    | nil => cases z
    | cons c r =>
      refine w_ixN (i := 0) hl rfl ?_
      repeat walk_at "rk"
      rw [lit_lets]
      refine w_inC ?_
      rw [in_lets]
      exact ⟨rfl, x1⟩
  · rw [z, Bool.false_and]
    exact ⟨rfl, x1⟩
theorem words_at (l : List Nat) : (List.lookup (sL l) [(("yes" : Str), D.bl true), ("no", .bl false), ("none", .non)]).isSome = decide (l ∈ WDS) := by
  have e : ∀ (m : List Nat), (sL l == sL m) = decide (l = m) := beq_sL l
  show (List.lookup (sL l) [(sL [121, 101, 115], D.bl true), (sL [110, 111], .bl false), (sL [110, 111, 110, 101], .non)]).isSome = _
  unfold List.lookup
  rw [e]
  by_cases h1 : l = [121, 101, 115]
  · rw [decide_eq_true h1]
    exact (decide_eq_true (by rw [h1]; simp [WDS])).symm
  · rw [decide_eq_false h1]
    dsimp only
    unfold List.lookup
    rw [e]
    by_cases h2 : l = [110, 111]
    · rw [decide_eq_true h2]
      exact (decide_eq_true (by rw [h2]; simp [WDS])).symm
    · rw [decide_eq_false h2]
      dsimp only
      unfold List.lookup
      rw [e]
      by_cases h3 : l = [110, 111, 110, 101]
      · rw [decide_eq_true h3]
        exact (decide_eq_true (by rw [h3]; simp [WDS])).symm
      · rw [decide_eq_false h3]
        exact (decide_eq_false (by simp [WDS, h1, h2, h3])).symm
theorem is_bare_ok {l : List Nat} (hl : l.length ≤ most) : wp (runD tab (k + 3) d_is_bare [.str (sL l)] s) (fun v s' => v = .bl (bareB l) ∧ Ext s s') X := by
  refine run_is_bare ?_
  dsimp only [d_is_bare]
  repeat walk_at "rk"
  refine call_is_name (w_get (is_name_ok (k := k) hl) ?_)
  rintro _ s1 ⟨rfl, x1⟩
  repeat walk_at "rk"
  unfold bareB
  refine br (fun z => ?_) (fun z => ?_)
  · rw [z, Bool.true_and]
    refine w_kin ?_
    repeat walk_at "rk"
    refine w_kinK rfl ?_
    rw [words_at]
    refine ⟨?_, x1⟩
    cases decide (l ∈ WDS) <;> rfl
  · rw [z, Bool.false_and]
    exact ⟨rfl, x1⟩
end RK66
set_option maxRecDepth 100000
set_option maxHeartbeats 4000000
set_option exponentiation.threshold 10000
namespace RK66
open PySem L2 RI TL
local macro_rules | `(tactic| walk_at "ri") => `(tactic| first
  | with_reducible refine f_cons ?_
  | with_reducible refine f_nil ?_
  | with_reducible refine f_asg ?_
  | with_reducible refine f_ret ?_
  | with_reducible refine f_ife ?_
  | with_reducible refine f_expr ?_
  | with_reducible refine f_raise ?_
  | with_reducible refine f_brk ?_
  | with_reducible refine f_try ?_
  | with_reducible refine w_c ?_
  | ((with_reducible apply w_var); exact rfl)
  | with_reducible refine w_nil ?_
  | with_reducible refine w_cons ?_
  | with_reducible refine w_tup ?_
  | with_reducible refine w_tupK rfl ?_
  | with_reducible refine w_lst ?_
  | with_reducible refine w_lstK rfl ?_
  | with_reducible refine w_bin ?_
  | with_reducible refine w_add ?_
  | with_reducible refine w_sub ?_
  | with_reducible refine w_neg ?_
  | with_reducible refine w_negK ?_
  | with_reducible refine w_cmp ?_
  | with_reducible refine w_lt ?_
  | with_reducible refine w_le ?_
  | with_reducible refine w_gt ?_
  | with_reducible refine w_ge ?_
  | with_reducible refine w_eqI ?_
  | with_reducible refine w_neI ?_
  | with_reducible refine w_eqB ?_
  | with_reducible refine w_neB ?_
  | with_reducible refine w_trB ?_
  | with_reducible refine w_trI ?_
  | with_reducible refine w_and ?_
  | with_reducible refine w_or ?_
  | with_reducible refine w_not ?_
  | with_reducible refine w_ite ?_
  | with_reducible refine w_ix ?_
  | ((with_reducible apply w_ixS); (first | assumption | exact rfl); exact rfl)
  | with_reducible refine w_call ?_
  | with_reducible refine w_callk ?_
  | with_reducible refine w_bi ?_
  | with_reducible refine w_abs ?_
  | with_reducible refine w_gcd ?_
  | with_reducible refine w_intI ?_
  | with_reducible refine w_intB ?_
  | with_reducible refine w_isi ?_
  | ((with_reducible refine w_isiK_t ?_ ?_); focus (exact rfl))
  | ((with_reducible refine w_isiK_f ?_ ?_); focus (exact rfl))
  | with_reducible refine br_n ?_
  | with_reducible refine br_t ?_
  | with_reducible refine br_f ?_
  | with_reducible refine f_cnt ?_
  | with_reducible refine f_pass ?_
  | with_reducible refine f_retN ?_
  | with_reducible refine w_truM ?_
  | with_reducible refine w_irng ?_
  | with_reducible refine w_iseq ?_
  | with_reducible refine w_dic ?_
  | with_reducible refine w_meth ?_
  | with_reducible refine w_dic0T ?_
  | with_reducible refine w_dic0K ?_
  | with_reducible refine w_isis ?_
  | with_reducible refine f_setiG ?_
  | with_reducible refine w_tupleT ?_
  | ((with_reducible refine w_mod ?_ ?_); (focus decide))
  | ((with_reducible refine w_pow ?_ ?_); (focus decide))
  | ((with_reducible refine w_fdiv ?_ ?_ ?_); (focus decide); (focus (exact Bd.fits (n := 120) (Bd.lit (by decide)) (by decide))))
  | with_reducible refine w_isN ?_
  | with_reducible refine w_isNN ?_
  | ((with_reducible apply w_exis_t); exact rfl; exact rfl; exact rfl)
  | ((with_reducible apply w_exis_f); exact rfl; exact rfl; exact rfl)
  | ((with_reducible apply w_glob); exact rfl)
  | with_reducible refine w_chn ?_
  | with_reducible refine w_sl ?_
  | with_reducible refine w_part0 ?_
  | with_reducible refine w_part1 ?_
  | with_reducible refine w_slT ?_)
local macro_rules | `(tactic| walk_at "bd") => `(tactic| first
  | with_reducible assumption
  | with_reducible exact In.bd60 (by assumption)
  | with_reducible exact Bd.bool _
  | ((with_reducible apply Bd.modL); (focus decide); (walk_at "bd"))
  | ((with_reducible apply Bd.fdivL); (focus decide); (walk_at "bd"))
  | ((with_reducible apply Bd.abs); (walk_at "bd"))
  | with_reducible exact Bd.pow (by decide)
  | ((with_reducible apply Bd.mul); (focus (walk_at "bd")); (focus (walk_at "bd")))
  | ((with_reducible apply Bd.addM); (focus (walk_at "bd")); (focus (walk_at "bd")))
  | ((with_reducible apply Bd.subM); (focus (walk_at "bd")); (focus (walk_at "bd")))
  | ((with_reducible apply Bd.neg); (walk_at "bd"))
  | exact Bd.lit (n := 128) (by decide))
local macro_rules | `(tactic| walk_at "fit") => `(tactic| ((with_reducible apply Bd.fits); (focus (walk_at "bd")); (focus decide)))
local macro_rules | `(tactic| walk_at "rk") => `(tactic| first
  | walk_at "ri"
  | ((with_reducible refine w_mul ?_ ?_ ?_); (focus (walk_at "fit")); (focus (walk_at "fit")))
  | ((with_reducible refine w_ixR (by assumption) ?_ ?_); (focus (first | decide | omega | assumption)); (intro _ _)))
variable {k : Nat} {s : Store} {X : Exn → Store → Prop}
theorem wds_lit : ([.str "yes", .str "no", .str "none"] : List D) = WDS.map fun w => .str (sL w) := rfl
theorem let_head {c : Nat} (h : alB c = true) : letB c = !digB c := by
  unfold alB letB digB at *
  by_cases h1 : 97 ≤ c <;> by_cases h2 : c ≤ 122 <;> by_cases h3 : 48 ≤ c <;> by_cases h4 : c ≤ 57 <;> simp_all <;> omega
theorem law_bare_ok {l : List Nat} (hl : l.length ≤ most) : wp (runD tab (k + 1) d_law_bare [.str (sL l)] s) (fun v s' => v = .bl (bareB l) ∧ Ext s s') X := by
  refine run_L_bare ?_
  dsimp only [d_law_bare]
  repeat walk_at "rk"
  refine w_lenL hl ?_
  repeat walk_at "rk"
  have kf : ¬ 1 ≤ l.length ∨ ¬ l.length ≤ 12 → bareB l = false := by
    intro h
    unfold bareB nameB keyB
    rcases h with h | h
    · rw [decide_eq_false h, Bool.false_and, Bool.false_and, Bool.false_and]
    · rw [decide_eq_false h, Bool.false_and, Bool.and_false, Bool.false_and, Bool.false_and]
  refine br_d (fun h1 => ?_) (fun h1 => ?_)
  · repeat walk_at "rk"
    refine br_dt h1 ?_
    repeat walk_at "rk"
    exact ⟨by rw [kf (.inl (by omega))], Ext.refl _⟩
  repeat walk_at "rk"
  refine w_lenL hl ?_
  repeat walk_at "rk"
  refine br_d (fun h2 => ?_) (fun h2 => ?_)
  · repeat walk_at "rk"
    refine br_dt h2 ?_
    repeat walk_at "rk"
    exact ⟨by rw [kf (.inr (by omega))], Ext.refl _⟩
  cases l with
  | nil => exact absurd (show ((([] : List Nat).length : Nat) : Int) < 1 by decide) h1
  | cons c r =>
  repeat walk_at "rk"
  refine w_ixN (i := 0) hl rfl ?_
  repeat walk_at "rk"
  rw [lit_digs]
  refine w_inC ?_
  rw [in_digs]
  repeat walk_at "rk"
  refine br (fun z => ?_) (fun z => ?_)
  · rw [z]
    repeat walk_at "rk"
    refine ⟨?_, Ext.refl _⟩
    have : letB c = false := by
      unfold digB at z
      rw [Bool.and_eq_true] at z
      unfold letB
      have := of_decide_eq_true z.2
      rw [decide_eq_false (by omega), Bool.false_and]
    unfold bareB nameB
    rw [hd_cons, this, Bool.and_false, Bool.false_and]
  repeat walk_at "rk"
  have x1 := Ext.new1 s (.lst [.str "yes", .str "no", .str "none"])
  refine w_in (inS_strs (ws := WDS) (by rw [← wds_lit]; exact get_new _ _)) ?_
  repeat walk_at "rk"
  refine br_d (fun w => ?_) (fun w => ?_)
  · repeat walk_at "rk"
    refine ⟨?_, x1⟩
    unfold bareB
    rw [decide_eq_true w, Bool.not_true, Bool.and_false]
  generalize s ++ [O.lst [.str "yes", .str "no", .str "none"]] = s1 at *
  have e1 : bareB (c :: r) = (c :: r).all alB := by
    unfold bareB nameB keyB
    rw [hd_cons, decide_eq_true (by simp : 1 ≤ (c :: r).length), decide_eq_true (by omega : (c :: r).length ≤ 12), decide_eq_false w, Bool.not_false, Bool.and_true, Bool.true_and, Bool.true_and]
    cases h : (c :: r).all alB with
    | false => rfl
    | true =>
      rw [List.all_cons, Bool.and_eq_true] at h
      rw [let_head h.1, z]
      rfl
  rw [e1]
  generalize c :: r = l at *
  clear kf h1 h2 w e1 z
  repeat walk_at "rk"
  refine f_strL ?_
  repeat walk_at "rk"
  refine ⟨l, fun j ρ s' => s' = s1 ∧ (l.take j).all alB = true ∧ ∃ y : Option D, ρ = [some (.str (sL l)), y], rfl, ⟨rfl, rfl, none, rfl⟩, ?_, ?_⟩
  · rintro j c ρ _ hc ⟨rfl, al, y, rfl⟩
    dsimp only [List.set]
    repeat walk_at "rk"
    rw [lit_al]
    refine w_notInC ?_
    rw [in_al]
    repeat walk_at "rk"
    refine br (fun z => ?_) (fun z => ?_)
    · repeat walk_at "rk"
      refine ⟨rfl, ?_, _, rfl⟩
      rw [take_succ hc, List.all_append, al, List.all_cons, z]
      rfl
    · repeat walk_at "rk"
      refine ⟨?_, x1⟩
      have : l.all alB = false := by
        rw [List.all_eq_false]
        exact ⟨c, List.mem_of_getElem? hc, by rw [z]; exact Bool.false_ne_true⟩
      rw [this]
  · rintro ρ _ ⟨rfl, al, y, rfl⟩
    rw [List.take_length] at al
    repeat walk_at "rk"
    exact ⟨by rw [al], x1⟩
/-! ### notes -/
def intL (i : Int) : List Nat := tl (toString i : String)
mutual
def noteL : D → List Nat
  | .non => [110, 111, 110, 101]
  | .bl true => [121, 101, 115]
  | .bl false => [110, 111]
  | .int i => intL i
  | .str x => if bareB (tl x) = true then tl x else 34 :: (tl x ++ [34])
  | .tup l => 40 :: (joinL [32] (noteLs l) ++ [41])
  | .ref _ => []
def noteLs : List D → List (List Nat)
  | [] => []
  | d :: l => noteL d :: noteLs l
end
theorem noteLs_map : ∀ l : List D, noteLs l = l.map noteL
  | [] => rfl
  | d :: l => by
    unfold noteLs
    rw [noteLs_map l, List.map_cons]
theorem note_tup (l : List D) : noteL (.tup l) = 40 :: (joinL [32] (l.map noteL) ++ [41]) := by
  unfold noteL
  rw [noteLs_map]
def okc (c : Nat) : Prop := 32 ≤ c ∧ c < 127 ∧ c ≠ 34 ∧ c ≠ 92
inductive Nv : Nat → D → Prop
  | non {n : Nat} : Nv n .non
  | bl {n : Nat} {b : Bool} : Nv n (.bl b)
  | int {n : Nat} {i : Int} : i.natAbs < 10 ^ 60 → Nv n (.int i)
  | str {n : Nat} {l : List Nat} : (∀ c ∈ l, okc c) → l.length ≤ 400 → Nv n (.str (sL l))
  | tup {n : Nat} {l : List D} : (∀ d ∈ l, Nv n d) → Nv (n + 1) (.tup l)
theorem Nv.mono {n m : Nat} {d : D} (h : Nv n d) (l : n ≤ m) : Nv m d := by
  induction h generalizing m with
  | non => exact .non
  | bl => exact .bl
  | int a => exact .int a
  | str a b => exact .str a b
  | tup _ ih =>
    cases m with
    | zero => omega
    | succ m => exact .tup fun d hd => ih d hd (by omega)
theorem joinL_len (c : Nat) : ∀ ps : List (List Nat), (ps.map List.length).sum + ps.length ≤ (joinL [c] ps).length + 1
  | [] => by simp [joinL]
  | [p] => by simp [joinL]
  | p :: q :: r => by
    have ih := joinL_len c (q :: r)
    show _ ≤ (p ++ ([c] ++ joinL [c] (q :: r))).length + 1
    simp only [List.length_append, List.length_cons, List.length_nil, List.map_cons, List.sum_cons] at ih ⊢
    omega
theorem len_mem {l : List Nat} : ∀ {ps : List (List Nat)}, l ∈ ps → l.length ≤ (ps.map List.length).sum
  | p :: ps, h => by
    rw [List.map_cons, List.sum_cons]
    rcases List.mem_cons.mp h with rfl | h
    · omega
    · have := len_mem h
      omega
theorem log60 {i : Int} (h : i.natAbs < 10 ^ 60) : i.natAbs.log2 < 1920 := by
  by_cases z : i.natAbs = 0
  · rw [z]
    decide
  · refine (Nat.log2_lt z).mpr (Nat.lt_of_lt_of_le h ?_)
    decide
abbrev BIG : Nat := 10000000
end RK66
set_option maxRecDepth 100000
set_option maxHeartbeats 4000000
set_option exponentiation.threshold 10000
namespace RK66
open PySem L2 RI TL
local macro_rules | `(tactic| walk_at "ri") => `(tactic| first
  | with_reducible refine f_cons ?_
  | with_reducible refine f_nil ?_
  | with_reducible refine f_asg ?_
  | with_reducible refine f_ret ?_
  | with_reducible refine f_ife ?_
  | with_reducible refine f_expr ?_
  | with_reducible refine f_raise ?_
  | with_reducible refine f_brk ?_
  | with_reducible refine f_try ?_
  | with_reducible refine w_c ?_
  | ((with_reducible apply w_var); exact rfl)
  | with_reducible refine w_nil ?_
  | with_reducible refine w_cons ?_
  | with_reducible refine w_tup ?_
  | with_reducible refine w_tupK rfl ?_
  | with_reducible refine w_lst ?_
  | with_reducible refine w_lstK rfl ?_
  | with_reducible refine w_bin ?_
  | with_reducible refine w_add ?_
  | with_reducible refine w_sub ?_
  | with_reducible refine w_neg ?_
  | with_reducible refine w_negK ?_
  | with_reducible refine w_cmp ?_
  | with_reducible refine w_lt ?_
  | with_reducible refine w_le ?_
  | with_reducible refine w_gt ?_
  | with_reducible refine w_ge ?_
  | with_reducible refine w_eqI ?_
  | with_reducible refine w_neI ?_
  | with_reducible refine w_eqB ?_
  | with_reducible refine w_neB ?_
  | with_reducible refine w_trB ?_
  | with_reducible refine w_trI ?_
  | with_reducible refine w_and ?_
  | with_reducible refine w_or ?_
  | with_reducible refine w_not ?_
  | with_reducible refine w_ite ?_
  | with_reducible refine w_ix ?_
  | ((with_reducible apply w_ixS); (first | assumption | exact rfl); exact rfl)
  | with_reducible refine w_call ?_
  | with_reducible refine w_callk ?_
  | with_reducible refine w_bi ?_
  | with_reducible refine w_abs ?_
  | with_reducible refine w_gcd ?_
  | with_reducible refine w_intI ?_
  | with_reducible refine w_intB ?_
  | with_reducible refine w_isi ?_
  | ((with_reducible refine w_isiK_t ?_ ?_); focus (exact rfl))
  | ((with_reducible refine w_isiK_f ?_ ?_); focus (exact rfl))
  | with_reducible refine br_n ?_
  | with_reducible refine br_t ?_
  | with_reducible refine br_f ?_
  | with_reducible refine f_cnt ?_
  | with_reducible refine f_pass ?_
  | with_reducible refine f_retN ?_
  | with_reducible refine w_truM ?_
  | with_reducible refine w_irng ?_
  | with_reducible refine w_iseq ?_
  | with_reducible refine w_dic ?_
  | with_reducible refine w_meth ?_
  | with_reducible refine w_dic0T ?_
  | with_reducible refine w_dic0K ?_
  | with_reducible refine w_isis ?_
  | with_reducible refine f_setiG ?_
  | with_reducible refine w_tupleT ?_
  | ((with_reducible refine w_mod ?_ ?_); (focus decide))
  | ((with_reducible refine w_pow ?_ ?_); (focus decide))
  | ((with_reducible refine w_fdiv ?_ ?_ ?_); (focus decide); (focus (exact Bd.fits (n := 120) (Bd.lit (by decide)) (by decide))))
  | with_reducible refine w_isN ?_
  | with_reducible refine w_isNN ?_
  | ((with_reducible apply w_exis_t); exact rfl; exact rfl; exact rfl)
  | ((with_reducible apply w_exis_f); exact rfl; exact rfl; exact rfl)
  | ((with_reducible apply w_glob); exact rfl)
  | with_reducible refine w_chn ?_
  | with_reducible refine w_sl ?_
  | with_reducible refine w_part0 ?_
  | with_reducible refine w_part1 ?_
  | with_reducible refine w_slT ?_)
local macro_rules | `(tactic| walk_at "bd") => `(tactic| first
  | with_reducible assumption
  | with_reducible exact In.bd60 (by assumption)
  | with_reducible exact Bd.bool _
  | ((with_reducible apply Bd.modL); (focus decide); (walk_at "bd"))
  | ((with_reducible apply Bd.fdivL); (focus decide); (walk_at "bd"))
  | ((with_reducible apply Bd.abs); (walk_at "bd"))
  | with_reducible exact Bd.pow (by decide)
  | ((with_reducible apply Bd.mul); (focus (walk_at "bd")); (focus (walk_at "bd")))
  | ((with_reducible apply Bd.addM); (focus (walk_at "bd")); (focus (walk_at "bd")))
  | ((with_reducible apply Bd.subM); (focus (walk_at "bd")); (focus (walk_at "bd")))
  | ((with_reducible apply Bd.neg); (walk_at "bd"))
  | exact Bd.lit (n := 128) (by decide))
local macro_rules | `(tactic| walk_at "fit") => `(tactic| ((with_reducible apply Bd.fits); (focus (walk_at "bd")); (focus decide)))
local macro_rules | `(tactic| walk_at "rk") => `(tactic| first
  | walk_at "ri"
  | ((with_reducible refine w_mul ?_ ?_ ?_); (focus (walk_at "fit")); (focus (walk_at "fit")))
  | ((with_reducible refine w_ixR (by assumption) ?_ ?_); (focus (first | decide | omega | assumption)); (intro _ _)))
variable {k : Nat} {s : Store} {X : Exn → Store → Prop}
theorem big_most {n : Nat} (h : n ≤ BIG) : n ≤ most := by unfold BIG at h; unfold most; omega
theorem sL_str (x : Str) : (D.str x) = .str (sL (tl x)) := by rw [sL_tl]
theorem note_str (l : List Nat) : noteL (.str (sL l)) = if bareB l = true then l else 34 :: (l ++ [34]) := by
  unfold noteL
  rw [tl_sL]
theorem note_int (i : Int) : D.str (toString i : String) = .str (sL (noteL (.int i))) := by
  unfold noteL intL
  rw [sL_tl]
theorem tup_bounds {l : List D} (lb : (noteL (.tup l)).length ≤ BIG) : l.length ≤ BIG ∧ (∀ d ∈ l, (noteL d).length ≤ BIG) ∧ ((l.map noteL).map List.length).sum + (l.map noteL).length * [32].length ≤ most ∧ (joinL [32] (l.map noteL)).length ≤ BIG := by
  rw [note_tup] at lb
  have h := joinL_len 32 (l.map noteL)
  rw [List.length_map] at h
  simp only [List.length_cons, List.length_append, List.length_nil] at lb ⊢
  refine ⟨by omega, fun d hd => ?_, by rw [List.length_map]; unfold most; unfold BIG at lb; omega, by omega⟩
  have := len_mem (List.mem_map_of_mem (f := noteL) hd)
  omega
/-- what a tuple's parts give, joined -/
theorem strs_eq {s' : Store} {l l' : List D} (ll : l'.length = l.length) (hp : ∀ (i : Nat) (d x : D), l[i]? = some d → l'[i]? = some x → x = .str (sL (noteL d))) : l' = (l.map noteL).map fun p => .str (sL p) := by
  rw [List.map_map]
  apply List.ext_getElem?
  intro i
  rw [List.getElem?_map]
  by_cases h : i < l.length
  · have e1 : l[i]? = some l[i] := List.getElem?_eq_getElem h
    have e2 : l'[i]? = some l'[i] := List.getElem?_eq_getElem (by omega)
    rw [e1, e2, hp i _ _ e1 e2]
    rfl
  · rw [List.getElem?_eq_none (by omega), List.getElem?_eq_none (by omega)]
    rfl
theorem write_tup {l : List D} (ih : ∀ d ∈ l, ∀ s', wp (runD tab k d_write_note [d] s') (fun v s'' => v = .str (sL (noteL d)) ∧ Ext s' s'') fun _ _ => False) (lb : (noteL (.tup l)).length ≤ BIG) : wp (runD tab (k + 1) d_write_note [.tup l] s) (fun v s' => v = .str (sL (noteL (.tup l))) ∧ Ext s s') X := by
  obtain ⟨b1, b2, b3, b4⟩ := tup_bounds lb
  refine run_write_note ?_
  dsimp only [d_write_note]
  repeat walk_at "rk"
  refine ⟨rfl, ?_⟩
  repeat walk_at "rk"
  refine w_lcE ?_
  repeat walk_at "rk"
  refine w_seqT ⟨big_most b1, fun _ _ p hp => absurd hp (List.not_mem_nil), fun d x _ => x = .str (sL (noteL d)), fun d x _ _ h _ => h, ?_, ?_⟩
  · intro d s' hd x1 ln
    refine ⟨_, asg1, ?_⟩
    dsimp only [wipeD, List.set]
    repeat walk_at "rk"
    exact call_write_note (ih d hd s')
  · intro s' l' x1 hl' ll hp
    repeat walk_at "rk"
    have e := strs_eq (s' := s') ll hp
    subst e
    rw [show (" " : Str) = sL [32] from rfl]
    refine w_joinL (ps := l.map noteL) (lst_at hl') b3 ?_
    rw [show ("(" : Str) = sL [40] from rfl]
    refine w_addL2 (by show 1 + _ ≤ most; unfold most; unfold BIG at b4; omega) ?_
    repeat walk_at "rk"
    rw [show (")" : Str) = sL [41] from rfl]
    refine w_addL2 (by rw [List.length_append]; show 1 + _ + 1 ≤ most; unfold most; unfold BIG at b4; omega) ?_
    refine ⟨?_, x1⟩
    rw [note_tup]
    rfl
theorem write_leaf {d : D} {n : Nat} (h : Nv n d) (t : ∀ l, d ≠ .tup l) : wp (runD tab (k + 4) d_write_note [d] s) (fun v s' => v = .str (sL (noteL d)) ∧ Ext s s') X := by
  refine run_write_note ?_
  dsimp only [d_write_note]
  cases h with
  | tup => exact absurd rfl (t _)
  | non =>
    repeat walk_at "rk"
    refine br_t ?_
    repeat walk_at "rk"
    exact ⟨rfl, Ext.refl _⟩
  | @bl _ b =>
    repeat walk_at "rk"
    refine br_f ?_
    repeat walk_at "rk"
    refine w_isBl ?_
    cases b with
    | true =>
      repeat walk_at "rk"
      refine br_t ?_
      repeat walk_at "rk"
      exact ⟨rfl, Ext.refl _⟩
    | false =>
      repeat walk_at "rk"
      refine br_f ?_
      repeat walk_at "rk"
      refine w_isBl ?_
      repeat walk_at "rk"
      refine br_t ?_
      repeat walk_at "rk"
      exact ⟨rfl, Ext.refl _⟩
  | @int _ i hi =>
    repeat walk_at "rk"
    refine br_f ?_
    repeat walk_at "rk"
    refine w_isBl ?_
    repeat walk_at "rk"
    refine br_f ?_
    repeat walk_at "rk"
    refine w_isBl ?_
    repeat walk_at "rk"
    refine br_f ?_
    repeat walk_at "rk"
    refine w_strI (log60 hi) ?_
    exact ⟨note_int i, Ext.refl _⟩
  | @str _ l hc hl =>
    have lm : l.length ≤ most := by unfold most; omega
    repeat walk_at "rk"
    refine call_is_bare (w_get (is_bare_ok (k := k) lm) ?_)
    rintro _ s1 ⟨rfl, x1⟩
    repeat walk_at "rk"
    rw [note_str]
    refine br (fun z => ?_) (fun z => ?_)
    · repeat walk_at "rk"
      rw [if_pos z]
      exact ⟨rfl, x1⟩
    · rw [if_neg (by rw [z]; exact Bool.false_ne_true)]
      repeat walk_at "rk"
      rw [show ("\"" : Str) = sL [34] from rfl]
      refine w_addL2 (by show 1 + _ ≤ most; unfold most; omega) ?_
      repeat walk_at "rk"
      rw [show ("\"" : Str) = sL [34] from rfl]
      refine w_addL2 (by rw [List.length_append]; show 1 + _ + 1 ≤ most; unfold most; omega) ?_
      exact ⟨rfl, x1⟩
theorem write_ok : ∀ {n k : Nat} {d : D} {s : Store} {X : Exn → Store → Prop}, Nv n d → (noteL d).length ≤ BIG → wp (runD tab (k + n + 4) d_write_note [d] s) (fun v s' => v = .str (sL (noteL d)) ∧ Ext s s') X
  | n + 1, k, .tup l, s, X, h, lb => by
    have hh : ∀ d ∈ l, Nv n d := by cases h; assumption
    exact write_tup (k := k + n + 4) (fun d hd s' => write_ok (hh d hd) ((tup_bounds lb).2.1 d hd)) lb
  | 0, k, .tup l, s, X, h, lb => by cases h
  | n, k, .non, s, X, h, lb => write_leaf (k := k + n) h fun l e => by cases e
  | n, k, .bl _, s, X, h, lb => write_leaf (k := k + n) h fun l e => by cases e
  | n, k, .int _, s, X, h, lb => write_leaf (k := k + n) h fun l e => by cases e
  | n, k, .str _, s, X, h, lb => write_leaf (k := k + n) h fun l e => by cases e
  | n, k, .ref _, s, X, h, lb => by cases h
end RK66
set_option maxRecDepth 100000
set_option maxHeartbeats 4000000
set_option exponentiation.threshold 10000
namespace RK66
open PySem L2 RI TL
local macro_rules | `(tactic| walk_at "ri") => `(tactic| first
  | with_reducible refine f_cons ?_
  | with_reducible refine f_nil ?_
  | with_reducible refine f_asg ?_
  | with_reducible refine f_ret ?_
  | with_reducible refine f_ife ?_
  | with_reducible refine f_expr ?_
  | with_reducible refine f_raise ?_
  | with_reducible refine f_brk ?_
  | with_reducible refine f_try ?_
  | with_reducible refine w_c ?_
  | ((with_reducible apply w_var); exact rfl)
  | with_reducible refine w_nil ?_
  | with_reducible refine w_cons ?_
  | with_reducible refine w_tup ?_
  | with_reducible refine w_tupK rfl ?_
  | with_reducible refine w_lst ?_
  | with_reducible refine w_lstK rfl ?_
  | with_reducible refine w_bin ?_
  | with_reducible refine w_add ?_
  | with_reducible refine w_sub ?_
  | with_reducible refine w_neg ?_
  | with_reducible refine w_negK ?_
  | with_reducible refine w_cmp ?_
  | with_reducible refine w_lt ?_
  | with_reducible refine w_le ?_
  | with_reducible refine w_gt ?_
  | with_reducible refine w_ge ?_
  | with_reducible refine w_eqI ?_
  | with_reducible refine w_neI ?_
  | with_reducible refine w_eqB ?_
  | with_reducible refine w_neB ?_
  | with_reducible refine w_trB ?_
  | with_reducible refine w_trI ?_
  | with_reducible refine w_and ?_
  | with_reducible refine w_or ?_
  | with_reducible refine w_not ?_
  | with_reducible refine w_ite ?_
  | with_reducible refine w_ix ?_
  | ((with_reducible apply w_ixS); (first | assumption | exact rfl); exact rfl)
  | with_reducible refine w_call ?_
  | with_reducible refine w_callk ?_
  | with_reducible refine w_bi ?_
  | with_reducible refine w_abs ?_
  | with_reducible refine w_gcd ?_
  | with_reducible refine w_intI ?_
  | with_reducible refine w_intB ?_
  | with_reducible refine w_isi ?_
  | ((with_reducible refine w_isiK_t ?_ ?_); focus (exact rfl))
  | ((with_reducible refine w_isiK_f ?_ ?_); focus (exact rfl))
  | with_reducible refine br_n ?_
  | with_reducible refine br_t ?_
  | with_reducible refine br_f ?_
  | with_reducible refine f_cnt ?_
  | with_reducible refine f_pass ?_
  | with_reducible refine f_retN ?_
  | with_reducible refine w_truM ?_
  | with_reducible refine w_irng ?_
  | with_reducible refine w_iseq ?_
  | with_reducible refine w_dic ?_
  | with_reducible refine w_meth ?_
  | with_reducible refine w_dic0T ?_
  | with_reducible refine w_dic0K ?_
  | with_reducible refine w_isis ?_
  | with_reducible refine f_setiG ?_
  | with_reducible refine w_tupleT ?_
  | ((with_reducible refine w_mod ?_ ?_); (focus decide))
  | ((with_reducible refine w_pow ?_ ?_); (focus decide))
  | ((with_reducible refine w_fdiv ?_ ?_ ?_); (focus decide); (focus (exact Bd.fits (n := 120) (Bd.lit (by decide)) (by decide))))
  | with_reducible refine w_isN ?_
  | with_reducible refine w_isNN ?_
  | ((with_reducible apply w_exis_t); exact rfl; exact rfl; exact rfl)
  | ((with_reducible apply w_exis_f); exact rfl; exact rfl; exact rfl)
  | ((with_reducible apply w_glob); exact rfl)
  | with_reducible refine w_chn ?_
  | with_reducible refine w_sl ?_
  | with_reducible refine w_part0 ?_
  | with_reducible refine w_part1 ?_
  | with_reducible refine w_slT ?_)
local macro_rules | `(tactic| walk_at "bd") => `(tactic| first
  | with_reducible assumption
  | with_reducible exact In.bd60 (by assumption)
  | with_reducible exact Bd.bool _
  | ((with_reducible apply Bd.modL); (focus decide); (walk_at "bd"))
  | ((with_reducible apply Bd.fdivL); (focus decide); (walk_at "bd"))
  | ((with_reducible apply Bd.abs); (walk_at "bd"))
  | with_reducible exact Bd.pow (by decide)
  | ((with_reducible apply Bd.mul); (focus (walk_at "bd")); (focus (walk_at "bd")))
  | ((with_reducible apply Bd.addM); (focus (walk_at "bd")); (focus (walk_at "bd")))
  | ((with_reducible apply Bd.subM); (focus (walk_at "bd")); (focus (walk_at "bd")))
  | ((with_reducible apply Bd.neg); (walk_at "bd"))
  | exact Bd.lit (n := 128) (by decide))
local macro_rules | `(tactic| walk_at "fit") => `(tactic| ((with_reducible apply Bd.fits); (focus (walk_at "bd")); (focus decide)))
local macro_rules | `(tactic| walk_at "rk") => `(tactic| first
  | walk_at "ri"
  | ((with_reducible refine w_mul ?_ ?_ ?_); (focus (walk_at "fit")); (focus (walk_at "fit")))
  | ((with_reducible refine w_ixR (by assumption) ?_ ?_); (focus (first | decide | omega | assumption)); (intro _ _)))
variable {k : Nat} {s : Store} {X : Exn → Store → Prop}
theorem lnote_tup {l : List D} (ih : ∀ d ∈ l, ∀ s', wp (runD tab k d_law_note [d] s') (fun v s'' => v = .str (sL (noteL d)) ∧ Ext s' s'') fun _ _ => False) (lb : (noteL (.tup l)).length ≤ BIG) : wp (runD tab (k + 1) d_law_note [.tup l] s) (fun v s' => v = .str (sL (noteL (.tup l))) ∧ Ext s s') X := by
  obtain ⟨b1, b2, b3, b4⟩ := tup_bounds lb
  refine run_L_note ?_
  dsimp only [d_law_note]
  repeat walk_at "rk"
  refine br_f ?_
  repeat walk_at "rk"
  refine w_isBl ?_
  repeat walk_at "rk"
  refine br_f ?_
  repeat walk_at "rk"
  refine w_isBl ?_
  repeat walk_at "rk"
  refine br_f ?_
  repeat walk_at "rk"
  refine ⟨rfl, ?_⟩
  repeat walk_at "rk"
  refine w_lcE ?_
  repeat walk_at "rk"
  refine w_seqT ⟨big_most b1, fun _ _ p hp => absurd hp (List.not_mem_nil), fun d x _ => x = .str (sL (noteL d)), fun d x _ _ h _ => h, ?_, ?_⟩
  · intro d s' hd x1 ln
    refine ⟨_, asg1, ?_⟩
    dsimp only [wipeD, List.set]
    repeat walk_at "rk"
    exact call_L_note (ih d hd s')
  · intro s' l' x1 hl' ll hp
    repeat walk_at "rk"
    have e := strs_eq (s' := s') ll hp
    subst e
    rw [show (" " : Str) = sL [32] from rfl]
    refine w_joinL (ps := l.map noteL) (lst_at hl') b3 ?_
    rw [show ("(" : Str) = sL [40] from rfl]
    refine w_addL2 (by show 1 + _ ≤ most; unfold most; unfold BIG at b4; omega) ?_
    repeat walk_at "rk"
    rw [show (")" : Str) = sL [41] from rfl]
    refine w_addL2 (by rw [List.length_append]; show 1 + _ + 1 ≤ most; unfold most; unfold BIG at b4; omega) ?_
    refine ⟨?_, x1⟩
    rw [note_tup]
    rfl
theorem lnote_leaf {d : D} {n : Nat} (h : Nv n d) (t : ∀ l, d ≠ .tup l) : wp (runD tab (k + 2) d_law_note [d] s) (fun v s' => v = .str (sL (noteL d)) ∧ Ext s s') X := by
  refine run_L_note ?_
  dsimp only [d_law_note]
  cases h with
  | tup => exact absurd rfl (t _)
  | non =>
    repeat walk_at "rk"
    refine br_t ?_
    repeat walk_at "rk"
    exact ⟨rfl, Ext.refl _⟩
  | @bl _ b =>
    repeat walk_at "rk"
    refine br_f ?_
    repeat walk_at "rk"
    refine w_isBl ?_
    cases b with
    | true =>
      repeat walk_at "rk"
      refine br_t ?_
      repeat walk_at "rk"
      exact ⟨rfl, Ext.refl _⟩
    | false =>
      repeat walk_at "rk"
      refine br_f ?_
      repeat walk_at "rk"
      refine w_isBl ?_
      repeat walk_at "rk"
      refine br_t ?_
      repeat walk_at "rk"
      exact ⟨rfl, Ext.refl _⟩
  | @int _ i hi =>
    repeat walk_at "rk"
    refine br_f ?_
    repeat walk_at "rk"
    refine w_isBl ?_
    repeat walk_at "rk"
    refine br_f ?_
    repeat walk_at "rk"
    refine w_isBl ?_
    repeat walk_at "rk"
    refine br_f ?_
    repeat walk_at "rk"
    refine w_strI (log60 hi) ?_
    exact ⟨note_int i, Ext.refl _⟩
  | @str _ l hc hl =>
    have lm : l.length ≤ most := by unfold most; omega
    repeat walk_at "rk"
    refine br_f ?_
    repeat walk_at "rk"
    refine w_isBl ?_
    repeat walk_at "rk"
    refine br_f ?_
    repeat walk_at "rk"
    refine w_isBl ?_
    repeat walk_at "rk"
    refine br_f ?_
    repeat walk_at "rk"
    refine call_L_bare (w_get (law_bare_ok (k := k) lm) ?_)
    rintro _ s1 ⟨rfl, x1⟩
    repeat walk_at "rk"
    rw [note_str]
    refine br (fun z => ?_) (fun z => ?_)
    · repeat walk_at "rk"
      rw [if_pos z]
      exact ⟨rfl, x1⟩
    · rw [if_neg (by rw [z]; exact Bool.false_ne_true)]
      repeat walk_at "rk"
      rw [show ("\"" : Str) = sL [34] from rfl]
      refine w_addL2 (by show 1 + _ ≤ most; unfold most; omega) ?_
      repeat walk_at "rk"
      refine w_addL2 (by rw [List.length_append]; show 1 + _ + 1 ≤ most; unfold most; omega) ?_
      exact ⟨rfl, x1⟩
theorem lnote_ok : ∀ {n k : Nat} {d : D} {s : Store} {X : Exn → Store → Prop}, Nv n d → (noteL d).length ≤ BIG → wp (runD tab (k + n + 2) d_law_note [d] s) (fun v s' => v = .str (sL (noteL d)) ∧ Ext s s') X
  | n + 1, k, .tup l, s, X, h, lb => by
    have hh : ∀ d ∈ l, Nv n d := by cases h; assumption
    exact lnote_tup (k := k + n + 2) (fun d hd s' => lnote_ok (hh d hd) ((tup_bounds lb).2.1 d hd)) lb
  | 0, k, .tup l, s, X, h, lb => by cases h
  | n, k, .non, s, X, h, lb => lnote_leaf (k := k + n) h fun l e => by cases e
  | n, k, .bl _, s, X, h, lb => lnote_leaf (k := k + n) h fun l e => by cases e
  | n, k, .int _, s, X, h, lb => lnote_leaf (k := k + n) h fun l e => by cases e
  | n, k, .str _, s, X, h, lb => lnote_leaf (k := k + n) h fun l e => by cases e
  | n, k, .ref _, s, X, h, lb => by cases h
/-! ### the same -/
mutual
def sameN : D → D → Bool
  | .non, .non => true
  | .bl a, .bl b => a == b
  | .int a, .int b => decide (a = b)
  | .str a, .str b => a == b
  | .tup a, .tup b => sameNs a b
  | _, _ => false
def sameNs : List D → List D → Bool
  | [], [] => true
  | a :: as, b :: bs => sameN a b && sameNs as bs
  | _, _ => false
end
mutual
theorem sameN_refl : ∀ {n : Nat} {d : D}, Nv n d → sameN d d = true
  | _, .non, _ => by unfold sameN; rfl
  | _, .bl _, _ => by unfold sameN; rw [beq_self_eq_true]
  | _, .int _, _ => by unfold sameN; rw [decide_eq_true rfl]
  | _, .str _, _ => by unfold sameN; rw [beq_self_eq_true]
  | n + 1, .tup l, h => by unfold sameN; exact sameNs_refl l (by cases h; assumption)
  | 0, .tup l, h => by cases h
  | _, .ref _, h => by cases h
theorem sameNs_refl : ∀ {n : Nat} (l : List D), (∀ d ∈ l, Nv n d) → sameNs l l = true
  | _, [], _ => by unfold sameNs; rfl
  | _, d :: l, h => by
    unfold sameNs
    rw [sameN_refl (h d List.mem_cons_self), sameNs_refl l fun x hx => h x (List.mem_cons_of_mem _ hx)]
    rfl
end
mutual
theorem sameN_eq : ∀ {d e : D}, sameN d e = true → d = e
  | .non, .non, _ => rfl
  | .bl a, .bl b, h => by unfold sameN at h; rw [beq_iff_eq.mp h]
  | .int a, .int b, h => by unfold sameN at h; rw [of_decide_eq_true h]
  | .str a, .str b, h => by unfold sameN at h; rw [beq_iff_eq.mp h]
  | .tup a, .tup b, h => by unfold sameN at h; rw [sameNs_eq h]
  | .non, .bl _, h | .non, .int _, h | .non, .str _, h | .non, .tup _, h | .non, .ref _, h => by unfold sameN at h; cases h
  | .bl _, .non, h | .bl _, .int _, h | .bl _, .str _, h | .bl _, .tup _, h | .bl _, .ref _, h => by unfold sameN at h; cases h
  | .int _, .non, h | .int _, .bl _, h | .int _, .str _, h | .int _, .tup _, h | .int _, .ref _, h => by unfold sameN at h; cases h
  | .str _, .non, h | .str _, .bl _, h | .str _, .int _, h | .str _, .tup _, h | .str _, .ref _, h => by unfold sameN at h; cases h
  | .tup _, .non, h | .tup _, .bl _, h | .tup _, .int _, h | .tup _, .str _, h | .tup _, .ref _, h => by unfold sameN at h; cases h
  | .ref _, .non, h | .ref _, .bl _, h | .ref _, .int _, h | .ref _, .str _, h | .ref _, .tup _, h | .ref _, .ref _, h => by unfold sameN at h; cases h
theorem sameNs_eq : ∀ {d e : List D}, sameNs d e = true → d = e
  | [], [], _ => rfl
  | a :: as, b :: bs, h => by
    unfold sameNs at h
    rw [Bool.and_eq_true] at h
    rw [sameN_eq h.1, sameNs_eq h.2]
  | [], _ :: _, h => by unfold sameNs at h; cases h
  | _ :: _, [], h => by unfold sameNs at h; cases h
end
theorem ok_okL {l : List Nat} (h : ∀ c ∈ l, okc c) : okL l := fun c hc => by
  have := h c hc
  unfold okc at this
  omega
local macro_rules | `(tactic| walk_at "st") => `(tactic| repeat (first | (walk_at "rk") | (refine br_t ?_) | (refine br_f ?_)))
theorem same_leaf {n m : Nat} {d e : D} (h : Nv n d) (g : Nv m e) (t : ∀ l, e ≠ .tup l) : wp (runD tab (k + 1) d_law_same [d, e] s) (fun v s' => v = .bl (sameN d e) ∧ Ext s s') X := by
  refine run_L_same ?_
  dsimp only [d_law_same]
  cases g with
  | tup => exact absurd rfl (t _)
  | non =>
    cases h <;> (walk_at "st"; exact ⟨by unfold sameN; rfl, Ext.refl _⟩)
  | @bl _ b =>
    cases h with
    | @bl _ a =>
      walk_at "st"
      exact ⟨by unfold sameN; rfl, Ext.refl _⟩
    | _ =>
      walk_at "st"
      exact ⟨by unfold sameN; rfl, Ext.refl _⟩
  | @int _ j hj =>
    cases h with
    | @int _ i hi =>
      walk_at "st"
      exact ⟨by unfold sameN; rfl, Ext.refl _⟩
    | _ =>
      walk_at "st"
      exact ⟨by unfold sameN; rfl, Ext.refl _⟩
  | @str _ l hc hl =>
    cases h with
    | @str _ l' hc' hl' =>
      walk_at "st"
      refine w_eqL (ok_okL hc') (ok_okL hc) ?_
      exact ⟨by unfold sameN; rw [beq_sL], Ext.refl _⟩
    | _ =>
      walk_at "st"
      exact ⟨by unfold sameN; rfl, Ext.refl _⟩
theorem sameNs_zip : ∀ {l m : List D}, l.length = m.length → sameNs l m = (List.zipWith sameN l m).all id
  | [], [], _ => by unfold sameNs; rfl
  | a :: l, b :: m, h => by
    unfold sameNs
    rw [sameNs_zip (l := l) (m := m) (by simpa using h), List.zipWith_cons_cons, List.all_cons]
    rfl
  | [], _ :: _, h => by simp at h
  | _ :: _, [], h => by simp at h
theorem sameNs_len {l m : List D} (h : l.length ≠ m.length) : sameNs l m = false := by
  cases q : sameNs l m with
  | false => rfl
  | true => exact absurd (congrArg List.length (sameNs_eq q)) h
theorem in_bools {n : Nat} {bs : List Bool} (e : s[n]? = some (.lst (bs.map D.bl))) : inA (.bl false) (.ref n) s = some (!bs.all id) := by
  have g : dgetD s (.ref n) (.bl false) = none := dget_seq (show seqOf s (.ref n) = some _ from lst_at e)
  have q : seqOf s (.ref n) = some (bs.map D.bl) := lst_at e
  have f : (bs.map D.bl).all flatD = true := by
    rw [List.all_map]
    exact List.all_eq_true.mpr fun _ _ => rfl
  have i : inD (.bl false) (bs.map D.bl) = !bs.all id := by
    unfold inD inV
    rw [List.map_map, List.any_map]
    clear e g q f
    induction bs with
    | nil => rfl
    | cons b r ih =>
      rw [List.any_cons, List.all_cons, ih]
      cases b <;> rfl
  unfold inA
  rw [g]
  dsimp only
  unfold inS
  dsimp only
  rw [q, Option.bind_some, if_pos ⟨rfl, f⟩, i]
theorem same_tup {l m : List D} (ih : ∀ (i : Nat) (a b : D), l[i]? = some a → m[i]? = some b → ∀ s', wp (runD tab k d_law_same [a, b] s') (fun v s'' => v = .bl (sameN a b) ∧ Ext s' s'') fun _ _ => False) (lm : m.length ≤ BIG) : wp (runD tab (k + 1) d_law_same [.tup l, .tup m] s) (fun v s' => v = .bl (sameN (.tup l) (.tup m)) ∧ Ext s s') X := by
  have eq : sameN (.tup l) (.tup m) = sameNs l m := by
    show sameN (.tup l) (.tup m) = _
    unfold sameN
    rfl
  rw [eq]
  refine run_L_same ?_
  dsimp only [d_law_same]
  repeat walk_at "rk"
  refine w_len rfl ?_
  repeat walk_at "rk"
  refine w_len rfl ?_
  repeat walk_at "rk"
  refine br_d (fun z => ?_) (fun z => ?_)
  · have z : l.length = m.length := by omega
    repeat walk_at "rk"
    refine w_lcE ?_
    repeat walk_at "rk"
    refine w_len rfl ?_
    refine w_rng1 (by unfold BIG at lm; omega) ⟨by rw [List.length_map, List.length_range]; unfold most; unfold BIG at lm; omega, fun s' _ p hp => absurd hp (List.not_mem_nil), fun d x _ => ∃ (i : Nat) (a b : D), d = .int i ∧ l[i]? = some a ∧ m[i]? = some b ∧ x = .bl (sameN a b), fun d x _ _ h _ => h, ?_, ?_⟩
    · intro d s' hd x1 ln
      obtain ⟨i, hi, rfl⟩ := List.mem_map.mp hd
      have hi' : i < m.length := by
        have := List.mem_range.mp hi
        omega
      have e1 : l[i]? = some l[i] := List.getElem?_eq_getElem (by omega)
      have e2 : m[i]? = some m[i] := List.getElem?_eq_getElem hi'
      refine ⟨_, asg1, ?_⟩
      dsimp only [wipeD, List.set]
      repeat walk_at "rk"
      refine w_ixS (l := l) rfl (RI.atI_nat e1) ?_
      repeat walk_at "rk"
      refine w_ixS (l := m) rfl (RI.atI_nat e2) ?_
      repeat walk_at "rk"
      refine call_L_same (w_get (ih i _ _ e1 e2 s') ?_)
      rintro _ s2 ⟨rfl, x2⟩
      exact ⟨⟨i, _, _, rfl, e1, e2, rfl⟩, x2⟩
    · intro s' l' x1 hl' ll hp
      rw [List.length_map, List.length_range, Int.toNat_natCast] at ll
      have e : l' = (List.zipWith sameN l m).map D.bl := by
        apply List.ext_getElem?
        intro i
        rw [List.getElem?_map, List.getElem?_zipWith]
        by_cases h : i < m.length
        · have e1 : l[i]? = some l[i] := List.getElem?_eq_getElem (by omega)
          have e2 : m[i]? = some m[i] := List.getElem?_eq_getElem h
          have e3 : l'[i]? = some l'[i] := List.getElem?_eq_getElem (by omega)
          obtain ⟨i', a, b, q0, q1, q2, q3⟩ := hp i (.int i) _ (by rw [List.getElem?_map, List.getElem?_range (by omega)]; rfl) e3
          have : i = i' := by injection q0 with q0; omega
          subst this
          rw [e1] at q1 ⊢
          rw [e2] at q2 ⊢
          rw [e3, q3]
          cases q1
          cases q2
          rfl
        · rw [List.getElem?_eq_none (by omega), List.getElem?_eq_none (show m.length ≤ i by omega)]
          cases l[i]? <;> rfl
      subst e
      refine w_notIn (in_bools hl') ?_
      refine ⟨?_, x1⟩
      rw [Bool.not_not, sameNs_zip z]
  · repeat walk_at "rk"
    exact ⟨by rw [sameNs_len (by omega)], Ext.refl _⟩
theorem same_ntup {n : Nat} {d : D} {m : List D} (h : Nv n d) (t : ∀ l, d ≠ .tup l) : wp (runD tab (k + 1) d_law_same [d, .tup m] s) (fun v s' => v = .bl (sameN d (.tup m)) ∧ Ext s s') X := by
  refine run_L_same ?_
  dsimp only [d_law_same]
  cases h with
  | tup => exact absurd rfl (t _)
  | _ =>
    walk_at "st"
    exact ⟨by unfold sameN; rfl, Ext.refl _⟩
theorem same_ok : ∀ {n n' k : Nat} {d e : D} {s : Store} {X : Exn → Store → Prop}, Nv n' d → Nv n e → (noteL e).length ≤ BIG → wp (runD tab (k + n + 1) d_law_same [d, e] s) (fun v s' => v = .bl (sameN d e) ∧ Ext s s') X
  | n + 1, n', k, .tup l, .tup m, s, X, h, g, lb => by
    have hh : ∃ q, ∀ d ∈ l, Nv q d := by cases h; exact ⟨_, by assumption⟩
    have gg : ∀ d ∈ m, Nv n d := by cases g; assumption
    obtain ⟨q, hh⟩ := hh
    exact same_tup (k := k + n + 1) (fun i a b ha hb s' => same_ok (hh a (List.mem_of_getElem? ha)) (gg b (List.mem_of_getElem? hb)) ((tup_bounds lb).2.1 b (List.mem_of_getElem? hb))) (tup_bounds lb).1
  | 0, n', k, d, .tup m, s, X, h, g, lb => by cases g
  | n + 1, n', k, .non, .tup m, s, X, h, g, lb | n + 1, n', k, .bl _, .tup m, s, X, h, g, lb | n + 1, n', k, .int _, .tup m, s, X, h, g, lb | n + 1, n', k, .str _, .tup m, s, X, h, g, lb => same_ntup (k := k + n + 1) h fun l e => by cases e
  | n + 1, n', k, .ref _, .tup m, s, X, h, g, lb => by cases h
  | n, n', k, d, .non, s, X, h, g, lb => same_leaf (k := k + n) h g fun l e => by cases e
  | n, n', k, d, .bl _, s, X, h, g, lb => same_leaf (k := k + n) h g fun l e => by cases e
  | n, n', k, d, .int _, s, X, h, g, lb => same_leaf (k := k + n) h g fun l e => by cases e
  | n, n', k, d, .str _, s, X, h, g, lb => same_leaf (k := k + n) h g fun l e => by cases e
  | n, n', k, d, .ref _, s, X, h, g, lb => by cases g
end RK66
set_option maxRecDepth 100000
set_option maxHeartbeats 4000000
set_option exponentiation.threshold 10000
namespace RK66
open PySem L2 RI TL
local macro_rules | `(tactic| walk_at "ri") => `(tactic| first
  | with_reducible refine f_cons ?_
  | with_reducible refine f_nil ?_
  | with_reducible refine f_asg ?_
  | with_reducible refine f_ret ?_
  | with_reducible refine f_ife ?_
  | with_reducible refine f_expr ?_
  | with_reducible refine f_raise ?_
  | with_reducible refine f_brk ?_
  | with_reducible refine f_try ?_
  | with_reducible refine w_c ?_
  | ((with_reducible apply w_var); exact rfl)
  | with_reducible refine w_nil ?_
  | with_reducible refine w_cons ?_
  | with_reducible refine w_tup ?_
  | with_reducible refine w_tupK rfl ?_
  | with_reducible refine w_lst ?_
  | with_reducible refine w_lstK rfl ?_
  | with_reducible refine w_bin ?_
  | with_reducible refine w_add ?_
  | with_reducible refine w_sub ?_
  | with_reducible refine w_neg ?_
  | with_reducible refine w_negK ?_
  | with_reducible refine w_cmp ?_
  | with_reducible refine w_lt ?_
  | with_reducible refine w_le ?_
  | with_reducible refine w_gt ?_
  | with_reducible refine w_ge ?_
  | with_reducible refine w_eqI ?_
  | with_reducible refine w_neI ?_
  | with_reducible refine w_eqB ?_
  | with_reducible refine w_neB ?_
  | with_reducible refine w_trB ?_
  | with_reducible refine w_trI ?_
  | with_reducible refine w_and ?_
  | with_reducible refine w_or ?_
  | with_reducible refine w_not ?_
  | with_reducible refine w_ite ?_
  | with_reducible refine w_ix ?_
  | ((with_reducible apply w_ixS); (first | assumption | exact rfl); exact rfl)
  | with_reducible refine w_call ?_
  | with_reducible refine w_callk ?_
  | with_reducible refine w_bi ?_
  | with_reducible refine w_abs ?_
  | with_reducible refine w_gcd ?_
  | with_reducible refine w_intI ?_
  | with_reducible refine w_intB ?_
  | with_reducible refine w_isi ?_
  | ((with_reducible refine w_isiK_t ?_ ?_); focus (exact rfl))
  | ((with_reducible refine w_isiK_f ?_ ?_); focus (exact rfl))
  | with_reducible refine br_n ?_
  | with_reducible refine br_t ?_
  | with_reducible refine br_f ?_
  | with_reducible refine f_cnt ?_
  | with_reducible refine f_pass ?_
  | with_reducible refine f_retN ?_
  | with_reducible refine w_truM ?_
  | with_reducible refine w_irng ?_
  | with_reducible refine w_iseq ?_
  | with_reducible refine w_dic ?_
  | with_reducible refine w_meth ?_
  | with_reducible refine w_dic0T ?_
  | with_reducible refine w_dic0K ?_
  | with_reducible refine w_isis ?_
  | with_reducible refine f_setiG ?_
  | with_reducible refine w_tupleT ?_
  | ((with_reducible refine w_mod ?_ ?_); (focus decide))
  | ((with_reducible refine w_pow ?_ ?_); (focus decide))
  | ((with_reducible refine w_fdiv ?_ ?_ ?_); (focus decide); (focus (exact Bd.fits (n := 120) (Bd.lit (by decide)) (by decide))))
  | with_reducible refine w_isN ?_
  | with_reducible refine w_isNN ?_
  | ((with_reducible apply w_exis_t); exact rfl; exact rfl; exact rfl)
  | ((with_reducible apply w_exis_f); exact rfl; exact rfl; exact rfl)
  | ((with_reducible apply w_glob); exact rfl)
  | with_reducible refine w_chn ?_
  | with_reducible refine w_sl ?_
  | with_reducible refine w_part0 ?_
  | with_reducible refine w_part1 ?_
  | with_reducible refine w_slT ?_)
local macro_rules | `(tactic| walk_at "bd") => `(tactic| first
  | with_reducible assumption
  | with_reducible exact In.bd60 (by assumption)
  | with_reducible exact Bd.bool _
  | ((with_reducible apply Bd.modL); (focus decide); (walk_at "bd"))
  | ((with_reducible apply Bd.fdivL); (focus decide); (walk_at "bd"))
  | ((with_reducible apply Bd.abs); (walk_at "bd"))
  | with_reducible exact Bd.pow (by decide)
  | ((with_reducible apply Bd.mul); (focus (walk_at "bd")); (focus (walk_at "bd")))
  | ((with_reducible apply Bd.addM); (focus (walk_at "bd")); (focus (walk_at "bd")))
  | ((with_reducible apply Bd.subM); (focus (walk_at "bd")); (focus (walk_at "bd")))
  | ((with_reducible apply Bd.neg); (walk_at "bd"))
  | exact Bd.lit (n := 128) (by decide))
local macro_rules | `(tactic| walk_at "fit") => `(tactic| ((with_reducible apply Bd.fits); (focus (walk_at "bd")); (focus decide)))
local macro_rules | `(tactic| walk_at "rk") => `(tactic| first
  | walk_at "ri"
  | ((with_reducible refine w_mul ?_ ?_ ?_); (focus (walk_at "fit")); (focus (walk_at "fit")))
  | ((with_reducible refine w_ixR (by assumption) ?_ ?_); (focus (first | decide | omega | assumption)); (intro _ _)))
variable {k : Nat} {s : Store} {X : Exn → Store → Prop}
/-- a text that is read -/
structure Tt (T : List Nat) : Prop where
  len : T.length ≤ BIG
  low : ∀ c ∈ T, c < 128
theorem Tt.most {T : List Nat} (h : Tt T) : T.length ≤ most := big_most h.len
theorem at_drop {T U : List Nat} {p c : Nat} (h : T.drop p = c :: U) : T[p]? = some c ∧ p < T.length ∧ T.drop (p + 1) = U := by
  have e : (T.drop p)[0]? = some c := by rw [h]; rfl
  rw [List.getElem?_drop, Nat.add_zero] at e
  refine ⟨e, (List.getElem?_eq_some_iff.mp e).1, ?_⟩
  rw [← List.drop_drop, h]
  rfl
theorem slice1 {T : List Nat} {p c : Nat} (h : T[p]? = some c) : (T.take (p + 1)).drop p = [c] := by
  rw [take_succ h, List.drop_append_of_le_length (by rw [List.length_take]; have := (List.getElem?_eq_some_iff.mp h).1; omega), List.drop_of_length_le (by rw [List.length_take]; omega)]
  rfl
theorem slice_of {T U R : List Nat} {p : Nat} (h : T.drop p = U ++ R) : (T.take (p + U.length)).drop p = U := by
  rw [List.drop_take, h, Nat.add_sub_cancel_left, List.take_left']
  rfl
theorem drop_more {T U R : List Nat} {p : Nat} (h : T.drop p = U ++ R) : T.drop (p + U.length) = R := by
  rw [← List.drop_drop, h, List.drop_left']
  rfl
theorem len_drop {T U R : List Nat} {p : Nat} (h : T.drop p = U ++ R) (ne : U ++ R ≠ []) : p + U.length ≤ T.length ∧ p < T.length := by
  have e := congrArg List.length h
  rw [List.length_drop, List.length_append] at e
  have : 0 < (U ++ R).length := List.length_pos_iff.mpr ne
  rw [List.length_append] at this
  omega
theorem w_sl1 {T : List Nat} {p c : Nat} {Q : D → Store → Prop} (hT : Tt T) (h : T[p]? = some c) (q : Q (.str (sL [c])) s) : wp (slK (.str (sL T)) (some (p : Int)) (some ((p : Int) + 1)) s) Q X := by
  rw [show (p : Int) + 1 = ((p + 1 : Nat) : Int) by omega]
  refine w_slN hT.most ?_
  rw [slice1 h]
  exact q
theorem ok1 {T : List Nat} {p c : Nat} (hT : Tt T) (h : T[p]? = some c) : okL [c] := by
  intro x hx
  rw [List.mem_singleton.mp hx]
  have := hT.low c (List.mem_of_getElem? h)
  omega
theorem okS {c : Nat} (h : c < 1114112) : okL [c] := by
  intro x hx
  rw [List.mem_singleton.mp hx]
  exact h
theorem run_end_ok {T U R A : List Nat} {p m : Nat} (hT : Tt T) (h : T.drop p = U ++ R) (hp : p ≤ T.length) (hU : ∀ c ∈ U, c ∈ A) (lU : U.length ≤ m) (lm : m ≤ 1000) (st : U.length = m ∨ R = [] ∨ ∃ c r, R = c :: r ∧ c ∉ A) : wp (runD tab (k + 1) d_run_end [.str (sL T), .int (p : Int), .str (sL A), .int (m : Int)] s) (fun v s' => v = .int ((p + U.length : Nat) : Int) ∧ s' = s) X := by
  have el : T.length = p + (U.length + R.length) := by
    have e := congrArg List.length h
    rw [List.length_drop, List.length_append] at e
    omega
  refine run_run_end ?_
  dsimp only [d_run_end]
  repeat walk_at "rk"
  refine f_whl (U.length) (by have := hT.len; unfold BIG at this; omega) (fun j ρ s' => s' = s ∧ j ≤ U.length ∧ ρ = [some (.str (sL T)), some (.int (p : Int)), some (.str (sL A)), some (.int (m : Int)), some (.int ((p + j : Nat) : Int))]) ⟨rfl, Nat.zero_le _, rfl⟩ ?_
  rintro j ρ s ⟨rfl, hj, rfl⟩
  repeat walk_at "rk"
  refine w_lenL hT.most ?_
  repeat walk_at "rk"
  refine br_d (fun z1 => ?_) (fun z1 => ?_)
  · repeat walk_at "rk"
    refine br_d (fun z2 => ?_) (fun z2 => ?_)
    · have e1 : T[p + j]? = (U ++ R)[j]? := by rw [← h, List.getElem?_drop]
      have lt : p + j < T.length := by omega
      repeat walk_at "rk"
      refine w_ixN hT.most (List.getElem?_eq_getElem lt) ?_
      repeat walk_at "rk"
      refine w_inC ?_
      repeat walk_at "rk"
      refine br_d (fun z3 => ?_) (fun z3 => ?_)
      · have jl : j < U.length := by
          rcases Nat.lt_or_ge j U.length with c | c
          · exact c
          · exfalso
            have ej : j = U.length := by omega
            subst ej
            rcases st with st | st | ⟨c, r, st, nc⟩
            · omega
            · rw [st, List.length_nil] at el
              omega
            · rw [List.getElem?_append_right (Nat.le_refl _), Nat.sub_self, st, List.getElem?_eq_getElem lt] at e1
              have e1 := Option.some.inj e1
              rw [e1] at z3
              exact nc z3
        refine ⟨jl, ?_⟩
        repeat walk_at "rk"
        refine f_augA rfl ?_
        repeat walk_at "rk"
        refine ⟨1, rfl, ?_⟩
        repeat walk_at "rk"
        refine ⟨rfl, jl, ?_⟩
        rw [show ((p + j : Nat) : Int) + 1 = ((p + (j + 1) : Nat) : Int) by omega]
        rfl
      · have ej : j = U.length := by
          rcases Nat.lt_or_ge j U.length with c | c
          · exfalso
            rw [List.getElem?_append_left c, List.getElem?_eq_getElem lt, List.getElem?_eq_getElem c] at e1
            have e1 := Option.some.inj e1
            rw [e1] at z3
            exact z3 (hU _ (List.getElem_mem c))
          · omega
        subst ej
        repeat walk_at "rk"
        exact ⟨rfl, rfl⟩
    · have ej : j = U.length := by omega
      subst ej
      repeat walk_at "rk"
      refine br_df z2 ?_
      repeat walk_at "rk"
      exact ⟨rfl, rfl⟩
  · have ej : j = U.length := by omega
    subst ej
    repeat walk_at "rk"
    refine br_df z1 ?_
    repeat walk_at "rk"
    exact ⟨rfl, rfl⟩
/-- what may stand behind a value -/
def Stp (R : List Nat) : Prop := R = [] ∨ ∃ c r, R = c :: r ∧ (c = 32 ∨ c = 41)
theorem Stp.out {R : List Nat} (h : Stp R) : R = [] ∨ ∃ c r, R = c :: r ∧ alB c = false := by
  rcases h with h | ⟨c, r, e, h⟩
  · exact .inl h
  · refine .inr ⟨c, r, e, ?_⟩
    rcases h with rfl | rfl <;> decide
theorem al_mem {c : Nat} : alB c = true ↔ c ∈ LETS ++ DIGS := by rw [← in_al, decide_eq_true_iff]
theorem bare_parts {l : List Nat} (h : bareB l = true) : nameB l = true ∧ l ∉ WDS := by
  unfold bareB at h
  rw [Bool.and_eq_true] at h
  exact ⟨h.1, by simpa using h.2⟩
theorem name_parts {l : List Nat} (h : nameB l = true) : 1 ≤ l.length ∧ l.length ≤ 12 ∧ (∀ c ∈ l, alB c = true) ∧ ∃ c r, l = c :: r ∧ letB c = true := by
  unfold nameB keyB at h
  rw [Bool.and_eq_true, Bool.and_eq_true, Bool.and_eq_true] at h
  obtain ⟨⟨h1, h2, h3⟩, h4⟩ := h
  refine ⟨of_decide_eq_true h1, of_decide_eq_true h2, List.all_eq_true.mp h3, ?_⟩
  cases l with
  | nil => cases h4
  | cons c r => exact ⟨c, r, rfl, h4⟩
def wordV (W : List Nat) : D := if W = [121, 101, 115] then .bl true else if W = [110, 111] then .bl false else if W = [110, 111, 110, 101] then .non else .str (sL W)
theorem read_bare_ok {T W R : List Nat} {p : Nat} (hT : Tt T) (h : T.drop p = W ++ R) (hW : nameB W = true) (st : Stp R) : wp (runD tab (k + 2) d_read_bare [.str (sL T), .int (p : Int)] s) (fun v s' => v = .tup [wordV W, .int ((p + W.length : Nat) : Int)] ∧ s' = s) X := by
  obtain ⟨w1, w2, w3, _⟩ := name_parts hW
  have ne : W ++ R ≠ [] := by
    cases W with
    | nil => simp at w1
    | cons c r => simp
  have lp := (len_drop h ne).2
  refine run_read_bare ?_
  dsimp only [d_read_bare]
  repeat walk_at "rk"
  rw [lit_lets, lit_digs]
  refine w_addL2 (by unfold most; decide) ?_
  repeat walk_at "rk"
  refine call_run_end (w_get (run_end_ok (k := k) (m := 12) hT h (by omega) (fun c hc => al_mem.mp (w3 c hc)) w2 (by decide) (.inr (st.out.imp id fun ⟨c, r, e, q⟩ => ⟨c, r, e, fun m => by rw [al_mem.mpr m] at q; cases q⟩))) ?_)
  rintro _ s ⟨rfl, rfl⟩
  repeat walk_at "rk"
  refine w_slN hT.most ?_
  rw [slice_of h]
  dsimp only [List.set]
  repeat walk_at "rk"
  refine w_kin ?_
  repeat walk_at "rk"
  refine w_kinK rfl ?_
  rw [words_at]
  repeat walk_at "rk"
  by_cases m : W ∈ WDS
  · rw [decide_eq_true m]
    repeat walk_at "rk"
    refine br_t ?_
    repeat walk_at "rk"
    refine w_kix ?_
    repeat walk_at "rk"
    have look : ∃ d, ([(("yes" : Str), D.bl true), ("no", .bl false), ("none", .non)]).lookup (sL W) = some d ∧ d = wordV W := by
      simp only [WDS, List.mem_cons, List.not_mem_nil, or_false] at m
      rcases m with rfl | rfl | rfl
      · exact ⟨_, rfl, rfl⟩
      · exact ⟨_, rfl, rfl⟩
      · exact ⟨_, rfl, rfl⟩
    obtain ⟨d, g, rfl⟩ := look
    refine w_kixK (l := [(("yes" : Str), D.bl true), ("no", .bl false), ("none", .non)]) rfl g ?_
    repeat walk_at "rk"
    exact ⟨rfl, rfl⟩
  · rw [decide_eq_false m]
    repeat walk_at "rk"
    refine br_f ?_
    repeat walk_at "rk"
    refine ⟨?_, rfl⟩
    unfold wordV
    simp only [WDS, List.mem_cons, List.not_mem_nil, or_false, not_or] at m
    rw [if_neg m.1, if_neg m.2.1, if_neg m.2.2]
theorem intL_nat (n : Nat) : intL (n : Int) = numL n := by
  unfold intL
  exact tl_num n
theorem intL_neg (n : Nat) : intL (-((n + 1 : Nat) : Int)) = 45 :: numL (n + 1) := by
  have e : (toString (-((n + 1 : Nat) : Int)) : String) = "-" ++ toString ((n + 1 : Nat) : Int) := rfl
  unfold intL
  rw [e]
  show tl (Str.ofString ("-" ++ toString ((n + 1 : Nat) : Int))) = _
  rw [tl_ofString, String.toList_append, List.map_append, ← tl_ofString (toString ((n + 1 : Nat) : Int)), tl_num]
  rfl
theorem numL_head : ∀ {n : Nat}, n ≠ 0 → ∃ c r, numL n = c :: r ∧ c ≠ 48 := by
  intro n
  induction n using Nat.strongRecOn with
  | _ n ih =>
    intro h
    by_cases c : n < 10
    · rw [numL_lt c]
      exact ⟨_, _, rfl, by omega⟩
    · obtain ⟨c', r, e, q⟩ := ih (n / 10) (by omega) (by omega)
      rw [numL_step (by omega), e]
      exact ⟨c', _, rfl, q⟩
theorem dig_mem {c : Nat} (h : 48 ≤ c ∧ c ≤ 57) : c ∈ DIGS := by
  have := in_digs c
  unfold digB at this
  rw [decide_eq_true h.1, decide_eq_true h.2] at this
  exact of_decide_eq_true this
theorem stp_digs {R : List Nat} (h : Stp R) : R = [] ∨ ∃ c r, R = c :: r ∧ c ∉ DIGS := by
  rcases h with h | ⟨c, r, e, h⟩
  · exact .inl h
  · refine .inr ⟨c, r, e, ?_⟩
    rcases h with rfl | rfl <;> decide
theorem num60 {n : Nat} (h : n < 10 ^ 60) : (numL n).length ≤ 60 := numL_len (by decide) h
/-- a number with its sign -/
theorem read_number_ok {T R : List Nat} {p : Nat} {i : Int} (hT : Tt T) (hi : i.natAbs < 10 ^ 60) (h : T.drop p = intL i ++ R) (st : Stp R) : wp (runD tab (k + 2) d_read_number [.str (sL T), .int (p : Int)] s) (fun v s' => v = .tup [.int i, .int ((p + (intL i).length : Nat) : Int)] ∧ s' = s) X := by
  refine run_read_number ?_
  dsimp only [d_read_number]
  repeat walk_at "rk"
  rcases (show i < 0 ∨ 0 ≤ i by omega) with neg | nn
  · obtain ⟨n, rfl⟩ : ∃ n : Nat, i = -((n + 1 : Nat) : Int) := ⟨i.natAbs - 1, by omega⟩
    rw [intL_neg] at h ⊢
    obtain ⟨a1, a2, a3⟩ := at_drop (show T.drop p = 45 :: (numL (n + 1) ++ R) from h)
    have l60 := num60 (n := n + 1) (by rw [Int.natAbs_neg] at hi; exact hi)
    obtain ⟨c, r, eh, c0⟩ := numL_head (n := n + 1) (by omega)
    have b1 := at_drop (show T.drop (p + 1) = c :: (r ++ R) by rw [a3, eh]; rfl)
    refine w_ixN hT.most a1 ?_
    repeat walk_at "rk"
    try rw [show ("-" : Str) = sL [45] from rfl]
    refine w_eqL (okS (by decide)) (okS (by decide)) ?_
    repeat walk_at "rk"
    refine br_dt rfl ?_
    repeat walk_at "rk"
    rw [show (p : Int) + 1 = ((p + 1 : Nat) : Int) by omega]
    dsimp only [List.set]
    repeat walk_at "rk"
    refine w_sl1 hT b1.1 ?_
    repeat walk_at "rk"
    try rw [show ("0" : Str) = sL [48] from rfl]
    refine w_eqL (ok1 hT b1.1) (okS (by decide)) ?_
    repeat walk_at "rk"
    refine br_df (fun e => c0 (by simpa using e)) ?_
    repeat walk_at "rk"
    refine br_df (fun e => c0 (by simpa using e)) ?_
    repeat walk_at "rk"
    rw [lit_digs]
    refine call_run_end (w_get (run_end_ok (k := k) (m := 60) hT a3 (by omega) (fun c hc => dig_mem (numL_digits _ c hc)) l60 (by decide) (.inr (stp_digs st))) ?_)
    rintro _ s ⟨rfl, rfl⟩
    dsimp only [List.set]
    repeat walk_at "rk"
    have ln : 1 ≤ (numL (n + 1)).length := by rw [eh]; simp
    refine br_df (by omega) ?_
    repeat walk_at "rk"
    refine w_ixN hT.most b1.1 ?_
    repeat walk_at "rk"
    try rw [show ("0" : Str) = sL [48] from rfl]
    refine w_eqL (ok1 hT b1.1) (okS (by decide)) ?_
    repeat walk_at "rk"
    refine br_df (fun e => c0 (by simpa using e)) ?_
    repeat walk_at "rk"
    have e1 : p + 1 + (numL (n + 1)).length = p + (45 :: numL (n + 1)).length := by rw [List.length_cons]; omega
    rw [e1]
    refine w_slN hT.most ?_
    rw [slice_of h]
    repeat walk_at "rk"
    refine w_intS (n := -((n + 1 : Nat) : Int)) ?_ (by rw [sL_len, List.length_cons]; omega) ?_
    · have := PySem.intText_neg (x := sL (45 :: numL (n + 1))) (cs := numL (n + 1)) rfl (numL_digits _) (numL_ne _) (by rw [sL_len, List.length_cons]; omega)
      rw [numL_val] at this
      exact this
    repeat walk_at "rk"
    exact ⟨rfl, rfl⟩
  · obtain ⟨n, rfl⟩ : ∃ n : Nat, i = (n : Int) := ⟨i.toNat, by omega⟩
    rw [intL_nat] at h ⊢
    have l60 := num60 (n := n) (by simpa using hi)
    by_cases z : n = 0
    · subst z
      rw [numL_lt (by decide)] at h ⊢
      obtain ⟨a1, a2, a3⟩ := at_drop (show T.drop p = 48 :: R from h)
      refine w_ixN hT.most a1 ?_
      repeat walk_at "rk"
      try rw [show ("-" : Str) = sL [45] from rfl]
      refine w_eqL (okS (by decide)) (okS (by decide)) ?_
      repeat walk_at "rk"
      refine br_df (by decide) ?_
      repeat walk_at "rk"
      dsimp only [List.set]
      repeat walk_at "rk"
      refine w_sl1 hT a1 ?_
      repeat walk_at "rk"
      try rw [show ("0" : Str) = sL [48] from rfl]
      refine w_eqL (okS (by decide)) (okS (by decide)) ?_
      repeat walk_at "rk"
      refine br_dt rfl ?_
      repeat walk_at "rk"
      refine br_dt rfl ?_
      repeat walk_at "rk"
      refine ⟨?_, rfl⟩
      rw [show (p : Int) + 1 = ((p + 1 : Nat) : Int) by omega]
      rfl
    · obtain ⟨c, r, eh, c0⟩ := numL_head z
      have b1 := at_drop (show T.drop p = c :: (r ++ R) by rw [h, eh]; rfl)
      have cd : 48 ≤ c ∧ c ≤ 57 := numL_digits n c (by rw [eh]; exact List.mem_cons_self)
      refine w_ixN hT.most b1.1 ?_
      repeat walk_at "rk"
      try rw [show ("-" : Str) = sL [45] from rfl]
      refine w_eqL (ok1 hT b1.1) (okS (by decide)) ?_
      repeat walk_at "rk"
      refine br_df (fun e => by have : c = 45 := by simpa using e
                                omega) ?_
      repeat walk_at "rk"
      dsimp only [List.set]
      repeat walk_at "rk"
      refine w_sl1 hT b1.1 ?_
      repeat walk_at "rk"
      try rw [show ("0" : Str) = sL [48] from rfl]
      refine w_eqL (ok1 hT b1.1) (okS (by decide)) ?_
      repeat walk_at "rk"
      refine br_df (fun e => c0 (by simpa using e)) ?_
      repeat walk_at "rk"
      refine br_df (fun e => c0 (by simpa using e)) ?_
      repeat walk_at "rk"
      rw [lit_digs]
      refine call_run_end (w_get (run_end_ok (k := k) (m := 60) hT h (by omega) (fun c hc => dig_mem (numL_digits _ c hc)) l60 (by decide) (.inr (stp_digs st))) ?_)
      rintro _ s ⟨rfl, rfl⟩
      dsimp only [List.set]
      repeat walk_at "rk"
      have ln : 1 ≤ (numL n).length := by rw [eh]; simp
      refine br_df (by omega) ?_
      repeat walk_at "rk"
      refine w_ixN hT.most b1.1 ?_
      repeat walk_at "rk"
      try rw [show ("0" : Str) = sL [48] from rfl]
      refine w_eqL (ok1 hT b1.1) (okS (by decide)) ?_
      repeat walk_at "rk"
      refine br_df (fun e => c0 (by simpa using e)) ?_
      repeat walk_at "rk"
      refine w_slN hT.most ?_
      rw [slice_of h]
      repeat walk_at "rk"
      refine w_intS (n := (n : Int)) ?_ (by rw [sL_len]; omega) ?_
      · have := int_num (n := n) (by omega)
        rw [show Str.ofString (toString ((n : Nat) : Int)) = sL (numL n) from ext_tl (by rw [tl_num]; rfl)] at this
        exact this
      repeat walk_at "rk"
      exact ⟨rfl, rfl⟩
end RK66
set_option maxRecDepth 100000
set_option maxHeartbeats 4000000
set_option exponentiation.threshold 10000
namespace RK66
open PySem L2 RI TL
local macro_rules | `(tactic| walk_at "ri") => `(tactic| first
  | with_reducible refine f_cons ?_
  | with_reducible refine f_nil ?_
  | with_reducible refine f_asg ?_
  | with_reducible refine f_ret ?_
  | with_reducible refine f_ife ?_
  | with_reducible refine f_expr ?_
  | with_reducible refine f_raise ?_
  | with_reducible refine f_brk ?_
  | with_reducible refine f_try ?_
  | with_reducible refine w_c ?_
  | ((with_reducible apply w_var); exact rfl)
  | with_reducible refine w_nil ?_
  | with_reducible refine w_cons ?_
  | with_reducible refine w_tup ?_
  | with_reducible refine w_tupK rfl ?_
  | with_reducible refine w_lst ?_
  | with_reducible refine w_lstK rfl ?_
  | with_reducible refine w_bin ?_
  | with_reducible refine w_add ?_
  | with_reducible refine w_sub ?_
  | with_reducible refine w_neg ?_
  | with_reducible refine w_negK ?_
  | with_reducible refine w_cmp ?_
  | with_reducible refine w_lt ?_
  | with_reducible refine w_le ?_
  | with_reducible refine w_gt ?_
  | with_reducible refine w_ge ?_
  | with_reducible refine w_eqI ?_
  | with_reducible refine w_neI ?_
  | with_reducible refine w_eqB ?_
  | with_reducible refine w_neB ?_
  | with_reducible refine w_trB ?_
  | with_reducible refine w_trI ?_
  | with_reducible refine w_and ?_
  | with_reducible refine w_or ?_
  | with_reducible refine w_not ?_
  | with_reducible refine w_ite ?_
  | with_reducible refine w_ix ?_
  | ((with_reducible apply w_ixS); (first | assumption | exact rfl); exact rfl)
  | with_reducible refine w_call ?_
  | with_reducible refine w_callk ?_
  | with_reducible refine w_bi ?_
  | with_reducible refine w_abs ?_
  | with_reducible refine w_gcd ?_
  | with_reducible refine w_intI ?_
  | with_reducible refine w_intB ?_
  | with_reducible refine w_isi ?_
  | ((with_reducible refine w_isiK_t ?_ ?_); focus (exact rfl))
  | ((with_reducible refine w_isiK_f ?_ ?_); focus (exact rfl))
  | with_reducible refine br_n ?_
  | with_reducible refine br_t ?_
  | with_reducible refine br_f ?_
  | with_reducible refine f_cnt ?_
  | with_reducible refine f_pass ?_
  | with_reducible refine f_retN ?_
  | with_reducible refine w_truM ?_
  | with_reducible refine w_irng ?_
  | with_reducible refine w_iseq ?_
  | with_reducible refine w_dic ?_
  | with_reducible refine w_meth ?_
  | with_reducible refine w_dic0T ?_
  | with_reducible refine w_dic0K ?_
  | with_reducible refine w_isis ?_
  | with_reducible refine f_setiG ?_
  | with_reducible refine w_tupleT ?_
  | ((with_reducible refine w_mod ?_ ?_); (focus decide))
  | ((with_reducible refine w_pow ?_ ?_); (focus decide))
  | ((with_reducible refine w_fdiv ?_ ?_ ?_); (focus decide); (focus (exact Bd.fits (n := 120) (Bd.lit (by decide)) (by decide))))
  | with_reducible refine w_isN ?_
  | with_reducible refine w_isNN ?_
  | ((with_reducible apply w_exis_t); exact rfl; exact rfl; exact rfl)
  | ((with_reducible apply w_exis_f); exact rfl; exact rfl; exact rfl)
  | ((with_reducible apply w_glob); exact rfl)
  | with_reducible refine w_chn ?_
  | with_reducible refine w_sl ?_
  | with_reducible refine w_part0 ?_
  | with_reducible refine w_part1 ?_
  | with_reducible refine w_slT ?_)
local macro_rules | `(tactic| walk_at "bd") => `(tactic| first
  | with_reducible assumption
  | with_reducible exact In.bd60 (by assumption)
  | with_reducible exact Bd.bool _
  | ((with_reducible apply Bd.modL); (focus decide); (walk_at "bd"))
  | ((with_reducible apply Bd.fdivL); (focus decide); (walk_at "bd"))
  | ((with_reducible apply Bd.abs); (walk_at "bd"))
  | with_reducible exact Bd.pow (by decide)
  | ((with_reducible apply Bd.mul); (focus (walk_at "bd")); (focus (walk_at "bd")))
  | ((with_reducible apply Bd.addM); (focus (walk_at "bd")); (focus (walk_at "bd")))
  | ((with_reducible apply Bd.subM); (focus (walk_at "bd")); (focus (walk_at "bd")))
  | ((with_reducible apply Bd.neg); (walk_at "bd"))
  | exact Bd.lit (n := 128) (by decide))
local macro_rules | `(tactic| walk_at "fit") => `(tactic| ((with_reducible apply Bd.fits); (focus (walk_at "bd")); (focus decide)))
local macro_rules | `(tactic| walk_at "rk") => `(tactic| first
  | walk_at "ri"
  | ((with_reducible refine w_mul ?_ ?_ ?_); (focus (walk_at "fit")); (focus (walk_at "fit")))
  | ((with_reducible refine w_ixR (by assumption) ?_ ?_); (focus (first | decide | omega | assumption)); (intro _ _)))
variable {k : Nat} {s : Store} {X : Exn → Store → Prop}
/-- behind the first quote -/
theorem read_quoted_ok {T l R : List Nat} {p : Nat} (hT : Tt T) (h : T.drop p = l ++ 34 :: R) (hc : ∀ c ∈ l, okc c) (hl : l.length ≤ 400) (nb : bareB l = false) : wp (runD tab (k + 4) d_read_quoted [.str (sL T), .int (p : Int)] s) (fun v s' => v = .tup [.str (sL l), .int ((p + l.length + 1 : Nat) : Int)] ∧ Ext s s') X := by
  have ne : l ++ 34 :: R ≠ [] := by simp
  obtain ⟨le, lp⟩ := len_drop h ne
  have el : T.length = p + (l.length + (R.length + 1)) := by
    have e := congrArg List.length h
    rw [List.length_drop, List.length_append, List.length_cons] at e
    omega
  have hq : T.drop (p + l.length) = 34 :: R := drop_more h
  have a1 := at_drop hq
  refine run_read_quoted ?_
  dsimp only [d_read_quoted]
  repeat walk_at "rk"
  refine f_whl l.length (by omega) (fun j ρ s' => s' = s ∧ j ≤ l.length ∧ ρ = [some (.str (sL T)), some (.int (p : Int)), some (.int ((p + j : Nat) : Int))]) ⟨rfl, Nat.zero_le _, rfl⟩ ?_
  rintro j ρ s ⟨rfl, hj, rfl⟩
  have lt : p + j < T.length := by omega
  have e1 : T[p + j]? = (l ++ 34 :: R)[j]? := by rw [← h, List.getElem?_drop]
  have eT : T[p + j]? = some T[p + j] := List.getElem?_eq_getElem lt
  generalize T[p + j] = c at eT
  have fin : j = l.length → wf (exSs (tb tab (k + 3)) (Ss.of [.ife (.or (.cmp .NotEq (.sl (.var 0) (Es.of [(.var 2)]) (Es.of [(.bin .Add (.var 2) (.c (.int 1)))])) (.glob "QUOTE")) (.call "is_bare" (Es.of [(.sl (.var 0) (Es.of [(.var 1)]) (Es.of [(.var 2)]))]))) (Ss.of [.never]) (Ss.of []), .ret (.tup (Es.of [(.sl (.var 0) (Es.of [(.var 1)]) (Es.of [(.var 2)])), (.bin .Add (.var 2) (.c (.int 1)))]))]) [some (.str (sL T)), some (.int (p : Int)), some (.int ((p + j : Nat) : Int))] s) (fun _ s1 => D.non = .tup [.str (sL l), .int ((p + l.length + 1 : Nat) : Int)] ∧ Ext s s1) (fun v s' => v = .tup [.str (sL l), .int ((p + l.length + 1 : Nat) : Int)] ∧ Ext s s') (fun _ _ => False) (fun _ _ => False) fun x _ s1 => X x s1 := by
    rintro rfl
    repeat walk_at "rk"
    refine w_sl1 hT a1.1 ?_
    repeat walk_at "rk"
    try rw [show ("\"" : Str) = sL [34] from rfl]
    refine w_neL (okS (by decide)) (okS (by decide)) ?_
    repeat walk_at "rk"
    refine br_dt rfl ?_
    repeat walk_at "rk"
    refine w_slN hT.most ?_
    rw [slice_of h]
    repeat walk_at "rk"
    refine call_is_bare (w_get (is_bare_ok (k := k) (by unfold most; omega)) ?_)
    rintro _ s1 ⟨rfl, x1⟩
    rw [nb]
    repeat walk_at "rk"
    refine w_slN hT.most ?_
    rw [slice_of h]
    repeat walk_at "rk"
    exact ⟨rfl, x1⟩
  repeat walk_at "rk"
  refine w_lenL hT.most ?_
  repeat walk_at "rk"
  refine br_dt (by omega) ?_
  repeat walk_at "rk"
  refine br_d (fun z2 => ?_) (fun z2 => ?_)
  · repeat walk_at "rk"
    refine w_ixN hT.most eT ?_
    repeat walk_at "rk"
    try rw [show ("\"" : Str) = sL [34] from rfl]
    refine w_neL (ok1 hT eT) (okS (by decide)) ?_
    repeat walk_at "rk"
    refine br_d (fun z3 => ?_) (fun z3 => ?_)
    · have z3 : c = 34 := by simpa using z3
      subst z3
      have ej : j = l.length := by
        rcases Nat.lt_or_ge j l.length with q | q
        · exfalso
          rw [List.getElem?_append_left q, List.getElem?_eq_getElem q, eT] at e1
          have e1 := Option.some.inj e1
          have := hc l[j] (List.getElem_mem q)
          rw [← e1] at this
          exact this.2.2.1 rfl
        · omega
      repeat walk_at "rk"
      exact fin ej
    · have jl : j < l.length := by
        rcases Nat.lt_or_ge j l.length with q | q
        · exact q
        · exfalso
          have ej : j = l.length := by omega
          subst ej
          rw [a1.1] at eT
          cases eT
          exact z3 rfl
      rw [List.getElem?_append_left jl, List.getElem?_eq_getElem jl, eT] at e1
      have e1 := Option.some.inj e1
      have oc := hc l[j] (List.getElem_mem jl)
      rw [← e1] at oc
      repeat walk_at "rk"
      refine w_ixN hT.most eT ?_
      repeat walk_at "rk"
      try rw [show ("\\" : Str) = sL [92] from rfl]
      refine w_neL (ok1 hT eT) (okS (by decide)) ?_
      repeat walk_at "rk"
      refine br_df (fun e => oc.2.2.2 (by simpa using e)) ?_
      refine ⟨jl, ?_⟩
      repeat walk_at "rk"
      refine f_augA rfl ?_
      repeat walk_at "rk"
      refine ⟨1, rfl, ?_⟩
      repeat walk_at "rk"
      refine ⟨rfl, jl, ?_⟩
      rw [show ((p + j : Nat) : Int) + 1 = ((p + (j + 1) : Nat) : Int) by omega]
      rfl
  · have ej : j = l.length := by omega
    repeat walk_at "rk"
    refine br_df z2 ?_
    exact fin ej
end RK66
set_option maxRecDepth 100000
set_option maxHeartbeats 4000000
set_option exponentiation.threshold 10000
namespace RK66
open PySem L2 RI TL
local macro_rules | `(tactic| walk_at "ri") => `(tactic| first
  | with_reducible refine f_cons ?_
  | with_reducible refine f_nil ?_
  | with_reducible refine f_asg ?_
  | with_reducible refine f_ret ?_
  | with_reducible refine f_ife ?_
  | with_reducible refine f_expr ?_
  | with_reducible refine f_raise ?_
  | with_reducible refine f_brk ?_
  | with_reducible refine f_try ?_
  | with_reducible refine w_c ?_
  | ((with_reducible apply w_var); exact rfl)
  | with_reducible refine w_nil ?_
  | with_reducible refine w_cons ?_
  | with_reducible refine w_tup ?_
  | with_reducible refine w_tupK rfl ?_
  | with_reducible refine w_lst ?_
  | with_reducible refine w_lstK rfl ?_
  | with_reducible refine w_bin ?_
  | with_reducible refine w_add ?_
  | with_reducible refine w_sub ?_
  | with_reducible refine w_neg ?_
  | with_reducible refine w_negK ?_
  | with_reducible refine w_cmp ?_
  | with_reducible refine w_lt ?_
  | with_reducible refine w_le ?_
  | with_reducible refine w_gt ?_
  | with_reducible refine w_ge ?_
  | with_reducible refine w_eqI ?_
  | with_reducible refine w_neI ?_
  | with_reducible refine w_eqB ?_
  | with_reducible refine w_neB ?_
  | with_reducible refine w_trB ?_
  | with_reducible refine w_trI ?_
  | with_reducible refine w_and ?_
  | with_reducible refine w_or ?_
  | with_reducible refine w_not ?_
  | with_reducible refine w_ite ?_
  | with_reducible refine w_ix ?_
  | ((with_reducible apply w_ixS); (first | assumption | exact rfl); exact rfl)
  | with_reducible refine w_call ?_
  | with_reducible refine w_callk ?_
  | with_reducible refine w_bi ?_
  | with_reducible refine w_abs ?_
  | with_reducible refine w_gcd ?_
  | with_reducible refine w_intI ?_
  | with_reducible refine w_intB ?_
  | with_reducible refine w_isi ?_
  | ((with_reducible refine w_isiK_t ?_ ?_); focus (exact rfl))
  | ((with_reducible refine w_isiK_f ?_ ?_); focus (exact rfl))
  | with_reducible refine br_n ?_
  | with_reducible refine br_t ?_
  | with_reducible refine br_f ?_
  | with_reducible refine f_cnt ?_
  | with_reducible refine f_pass ?_
  | with_reducible refine f_retN ?_
  | with_reducible refine w_truM ?_
  | with_reducible refine w_irng ?_
  | with_reducible refine w_iseq ?_
  | with_reducible refine w_dic ?_
  | with_reducible refine w_meth ?_
  | with_reducible refine w_dic0T ?_
  | with_reducible refine w_dic0K ?_
  | with_reducible refine w_isis ?_
  | with_reducible refine f_setiG ?_
  | with_reducible refine w_tupleT ?_
  | ((with_reducible refine w_mod ?_ ?_); (focus decide))
  | ((with_reducible refine w_pow ?_ ?_); (focus decide))
  | ((with_reducible refine w_fdiv ?_ ?_ ?_); (focus decide); (focus (exact Bd.fits (n := 120) (Bd.lit (by decide)) (by decide))))
  | with_reducible refine w_isN ?_
  | with_reducible refine w_isNN ?_
  | ((with_reducible apply w_exis_t); exact rfl; exact rfl; exact rfl)
  | ((with_reducible apply w_exis_f); exact rfl; exact rfl; exact rfl)
  | ((with_reducible apply w_glob); exact rfl)
  | with_reducible refine w_chn ?_
  | with_reducible refine w_sl ?_
  | with_reducible refine w_part0 ?_
  | with_reducible refine w_part1 ?_
  | with_reducible refine w_slT ?_)
local macro_rules | `(tactic| walk_at "bd") => `(tactic| first
  | with_reducible assumption
  | with_reducible exact In.bd60 (by assumption)
  | with_reducible exact Bd.bool _
  | ((with_reducible apply Bd.modL); (focus decide); (walk_at "bd"))
  | ((with_reducible apply Bd.fdivL); (focus decide); (walk_at "bd"))
  | ((with_reducible apply Bd.abs); (walk_at "bd"))
  | with_reducible exact Bd.pow (by decide)
  | ((with_reducible apply Bd.mul); (focus (walk_at "bd")); (focus (walk_at "bd")))
  | ((with_reducible apply Bd.addM); (focus (walk_at "bd")); (focus (walk_at "bd")))
  | ((with_reducible apply Bd.subM); (focus (walk_at "bd")); (focus (walk_at "bd")))
  | ((with_reducible apply Bd.neg); (walk_at "bd"))
  | exact Bd.lit (n := 128) (by decide))
local macro_rules | `(tactic| walk_at "fit") => `(tactic| ((with_reducible apply Bd.fits); (focus (walk_at "bd")); (focus decide)))
local macro_rules | `(tactic| walk_at "rk") => `(tactic| first
  | walk_at "ri"
  | ((with_reducible refine w_mul ?_ ?_ ?_); (focus (walk_at "fit")); (focus (walk_at "fit")))
  | ((with_reducible refine w_ixR (by assumption) ?_ ?_); (focus (first | decide | omega | assumption)); (intro _ _)))
variable {k : Nat} {s : Store} {X : Exn → Store → Prop}
theorem okN : okL [] := fun c h => absurd h (List.not_mem_nil)
theorem one_ne {a b : Nat} (h : a ≠ b) : ¬ [a] = [b] := fun e => h (by simpa using e)
theorem rv_word {T W R : List Nat} {p : Nat} (hT : Tt T) (h : T.drop p = W ++ R) (hW : nameB W = true) (st : Stp R) : wp (runD tab (k + 5) d_read_value [.str (sL T), .int (p : Int)] s) (fun v s' => v = .tup [wordV W, .int ((p + W.length : Nat) : Int)] ∧ Ext s s') X := by
  obtain ⟨_, _, _, c, r, rfl, lc⟩ := name_parts hW
  have a1 := at_drop (show T.drop p = c :: (r ++ R) from h)
  have rc : 97 ≤ c ∧ c ≤ 122 := by
    unfold letB at lc
    rw [Bool.and_eq_true] at lc
    exact ⟨of_decide_eq_true lc.1, of_decide_eq_true lc.2⟩
  refine run_read_value ?_
  dsimp only [d_read_value]
  repeat walk_at "rk"
  refine w_sl1 hT a1.1 ?_
  dsimp only [List.set]
  repeat walk_at "rk"
  try rw [show ("(" : Str) = sL [40] from rfl]
  refine w_eqL (ok1 hT a1.1) (okS (by decide)) ?_
  repeat walk_at "rk"
  refine br_df (one_ne (by omega)) ?_
  repeat walk_at "rk"
  try rw [show ("\"" : Str) = sL [34] from rfl]
  refine w_eqL (ok1 hT a1.1) (okS (by decide)) ?_
  repeat walk_at "rk"
  refine br_df (one_ne (by omega)) ?_
  repeat walk_at "rk"
  try rw [show ("-" : Str) = sL [45] from rfl]
  refine w_eqL (ok1 hT a1.1) (okS (by decide)) ?_
  repeat walk_at "rk"
  refine br_df (one_ne (by omega)) ?_
  repeat walk_at "rk"
  try rw [show ("" : Str) = sL [] from rfl]
  refine w_neL (ok1 hT a1.1) okN ?_
  repeat walk_at "rk"
  refine br_df (by simp) ?_
  repeat walk_at "rk"
  try rw [lit_digs]
  refine w_inC ?_
  rw [in_digs, show digB c = false by unfold digB; rw [decide_eq_false (show ¬ c ≤ 57 by omega), Bool.and_false]]
  repeat walk_at "rk"
  try rw [show ("" : Str) = sL [] from rfl]
  refine w_neL (ok1 hT a1.1) okN ?_
  repeat walk_at "rk"
  refine br_df (by simp) ?_
  repeat walk_at "rk"
  try rw [lit_lets]
  refine w_inC ?_
  rw [in_lets, lc]
  repeat walk_at "rk"
  refine call_read_bare (w_get (read_bare_ok (k := k + 2) hT h hW st) ?_)
  rintro _ s ⟨rfl, rfl⟩
  exact ⟨rfl, Ext.refl _⟩
theorem rv_int {T R : List Nat} {p : Nat} {i : Int} (hT : Tt T) (hi : i.natAbs < 10 ^ 60) (h : T.drop p = intL i ++ R) (st : Stp R) : wp (runD tab (k + 5) d_read_value [.str (sL T), .int (p : Int)] s) (fun v s' => v = .tup [.int i, .int ((p + (intL i).length : Nat) : Int)] ∧ Ext s s') X := by
  have hd : ∃ c r, intL i = c :: r ∧ (c = 45 ∨ (48 ≤ c ∧ c ≤ 57)) := by
    rcases (show i < 0 ∨ 0 ≤ i by omega) with neg | nn
    · obtain ⟨n, rfl⟩ : ∃ n : Nat, i = -((n + 1 : Nat) : Int) := ⟨i.natAbs - 1, by omega⟩
      exact ⟨45, _, intL_neg n, .inl rfl⟩
    · obtain ⟨n, rfl⟩ : ∃ n : Nat, i = (n : Int) := ⟨i.toNat, by omega⟩
      rw [intL_nat]
      cases e : numL n with
      | nil => exact absurd e (numL_ne n)
      | cons c r => exact ⟨c, r, rfl, .inr (numL_digits n c (by rw [e]; exact List.mem_cons_self))⟩
  obtain ⟨c, r, eh, hc⟩ := hd
  have a1 := at_drop (show T.drop p = c :: (r ++ R) by rw [h, eh]; rfl)
  refine run_read_value ?_
  dsimp only [d_read_value]
  repeat walk_at "rk"
  refine w_sl1 hT a1.1 ?_
  dsimp only [List.set]
  repeat walk_at "rk"
  try rw [show ("(" : Str) = sL [40] from rfl]
  refine w_eqL (ok1 hT a1.1) (okS (by decide)) ?_
  repeat walk_at "rk"
  refine br_df (one_ne (by omega)) ?_
  repeat walk_at "rk"
  try rw [show ("\"" : Str) = sL [34] from rfl]
  refine w_eqL (ok1 hT a1.1) (okS (by decide)) ?_
  repeat walk_at "rk"
  refine br_df (one_ne (by omega)) ?_
  repeat walk_at "rk"
  try rw [show ("-" : Str) = sL [45] from rfl]
  refine w_eqL (ok1 hT a1.1) (okS (by decide)) ?_
  repeat walk_at "rk"
  have fin : wp ((tb tab (k + 4)).call "read_number" [.str (sL T), .int (p : Int)] s) (fun v s' => v = .tup [.int i, .int ((p + (intL i).length : Nat) : Int)] ∧ Ext s s') X := by
    refine call_read_number (w_get (read_number_ok (k := k + 2) hT hi h st) ?_)
    rintro _ s ⟨rfl, rfl⟩
    exact ⟨rfl, Ext.refl _⟩
  rcases hc with rfl | hc
  · refine br_dt rfl ?_
    repeat walk_at "rk"
    refine br_dt rfl ?_
    repeat walk_at "rk"
    exact fin
  · refine br_df (one_ne (by omega)) ?_
    repeat walk_at "rk"
    try rw [show ("" : Str) = sL [] from rfl]
    refine w_neL (ok1 hT a1.1) okN ?_
    repeat walk_at "rk"
    refine br_df (by simp) ?_
    repeat walk_at "rk"
    try rw [lit_digs]
    refine w_inC ?_
    rw [in_digs, show digB c = true by unfold digB; rw [decide_eq_true hc.1, decide_eq_true hc.2]; rfl]
    repeat walk_at "rk"
    exact fin
theorem rv_quoted {T l R : List Nat} {p : Nat} (hT : Tt T) (h : T.drop p = 34 :: (l ++ [34]) ++ R) (hc : ∀ c ∈ l, okc c) (hl : l.length ≤ 400) (nb : bareB l = false) : wp (runD tab (k + 5) d_read_value [.str (sL T), .int (p : Int)] s) (fun v s' => v = .tup [.str (sL l), .int ((p + (34 :: (l ++ [34])).length : Nat) : Int)] ∧ Ext s s') X := by
  have a1 := at_drop (show T.drop p = 34 :: (l ++ 34 :: R) by rw [h]; simp)
  refine run_read_value ?_
  dsimp only [d_read_value]
  repeat walk_at "rk"
  refine w_sl1 hT a1.1 ?_
  dsimp only [List.set]
  repeat walk_at "rk"
  try rw [show ("(" : Str) = sL [40] from rfl]
  refine w_eqL (okS (by decide)) (okS (by decide)) ?_
  repeat walk_at "rk"
  refine br_df (by decide) ?_
  repeat walk_at "rk"
  try rw [show ("\"" : Str) = sL [34] from rfl]
  refine w_eqL (okS (by decide)) (okS (by decide)) ?_
  repeat walk_at "rk"
  refine br_dt rfl ?_
  repeat walk_at "rk"
  rw [show (p : Int) + 1 = ((p + 1 : Nat) : Int) by omega]
  refine call_read_quoted (w_get (read_quoted_ok (k := k) hT a1.2.2 hc hl nb) ?_)
  rintro _ s1 ⟨rfl, x1⟩
  refine ⟨?_, x1⟩
  rw [show p + 1 + l.length + 1 = p + (34 :: (l ++ [34])).length by simp; omega]
theorem wordV_of {l : List Nat} (h : l ∉ WDS) : wordV l = .str (sL l) := by
  unfold wordV
  simp only [WDS, List.mem_cons, List.not_mem_nil, or_false, not_or] at h
  rw [if_neg h.1, if_neg h.2.1, if_neg h.2.2]
theorem rv_leaf {T R : List Nat} {p n : Nat} {d : D} (hT : Tt T) (hd : Nv n d) (t : ∀ l, d ≠ .tup l) (h : T.drop p = noteL d ++ R) (st : Stp R) : wp (runD tab (k + 5) d_read_value [.str (sL T), .int (p : Int)] s) (fun v s' => v = .tup [d, .int ((p + (noteL d).length : Nat) : Int)] ∧ Ext s s') X := by
  cases hd with
  | tup => exact absurd rfl (t _)
  | non => exact rv_word hT (W := [110, 111, 110, 101]) h rfl st
  | @bl _ b =>
    cases b with
    | true => exact rv_word hT (W := [121, 101, 115]) h rfl st
    | false => exact rv_word hT (W := [110, 111]) h rfl st
  | @int _ i hi =>
    have e : noteL (.int i) = intL i := by unfold noteL; rfl
    rw [e] at h ⊢
    exact rv_int hT hi h st
  | @str _ l hc hl =>
    rw [note_str] at h ⊢
    by_cases b : bareB l = true
    · rw [if_pos b] at h ⊢
      obtain ⟨b1, b2⟩ := bare_parts b
      have := rv_word (k := k) (s := s) (X := X) hT h b1 st
      rw [wordV_of b2] at this
      exact this
    · rw [if_neg b] at h ⊢
      exact rv_quoted hT h hc hl (by simpa using b)
end RK66
set_option maxRecDepth 100000
set_option maxHeartbeats 4000000
set_option exponentiation.threshold 10000
namespace RK66
open PySem L2 RI TL
local macro_rules | `(tactic| walk_at "ri") => `(tactic| first
  | with_reducible refine f_cons ?_
  | with_reducible refine f_nil ?_
  | with_reducible refine f_asg ?_
  | with_reducible refine f_ret ?_
  | with_reducible refine f_ife ?_
  | with_reducible refine f_expr ?_
  | with_reducible refine f_raise ?_
  | with_reducible refine f_brk ?_
  | with_reducible refine f_try ?_
  | with_reducible refine w_c ?_
  | ((with_reducible apply w_var); exact rfl)
  | with_reducible refine w_nil ?_
  | with_reducible refine w_cons ?_
  | with_reducible refine w_tup ?_
  | with_reducible refine w_tupK rfl ?_
  | with_reducible refine w_lst ?_
  | with_reducible refine w_lstK rfl ?_
  | with_reducible refine w_bin ?_
  | with_reducible refine w_add ?_
  | with_reducible refine w_sub ?_
  | with_reducible refine w_neg ?_
  | with_reducible refine w_negK ?_
  | with_reducible refine w_cmp ?_
  | with_reducible refine w_lt ?_
  | with_reducible refine w_le ?_
  | with_reducible refine w_gt ?_
  | with_reducible refine w_ge ?_
  | with_reducible refine w_eqI ?_
  | with_reducible refine w_neI ?_
  | with_reducible refine w_eqB ?_
  | with_reducible refine w_neB ?_
  | with_reducible refine w_trB ?_
  | with_reducible refine w_trI ?_
  | with_reducible refine w_and ?_
  | with_reducible refine w_or ?_
  | with_reducible refine w_not ?_
  | with_reducible refine w_ite ?_
  | with_reducible refine w_ix ?_
  | ((with_reducible apply w_ixS); (first | assumption | exact rfl); exact rfl)
  | with_reducible refine w_call ?_
  | with_reducible refine w_callk ?_
  | with_reducible refine w_bi ?_
  | with_reducible refine w_abs ?_
  | with_reducible refine w_gcd ?_
  | with_reducible refine w_intI ?_
  | with_reducible refine w_intB ?_
  | with_reducible refine w_isi ?_
  | ((with_reducible refine w_isiK_t ?_ ?_); focus (exact rfl))
  | ((with_reducible refine w_isiK_f ?_ ?_); focus (exact rfl))
  | with_reducible refine br_n ?_
  | with_reducible refine br_t ?_
  | with_reducible refine br_f ?_
  | with_reducible refine f_cnt ?_
  | with_reducible refine f_pass ?_
  | with_reducible refine f_retN ?_
  | with_reducible refine w_truM ?_
  | with_reducible refine w_irng ?_
  | with_reducible refine w_iseq ?_
  | with_reducible refine w_dic ?_
  | with_reducible refine w_meth ?_
  | with_reducible refine w_dic0T ?_
  | with_reducible refine w_dic0K ?_
  | with_reducible refine w_isis ?_
  | with_reducible refine f_setiG ?_
  | with_reducible refine w_tupleT ?_
  | ((with_reducible refine w_mod ?_ ?_); (focus decide))
  | ((with_reducible refine w_pow ?_ ?_); (focus decide))
  | ((with_reducible refine w_fdiv ?_ ?_ ?_); (focus decide); (focus (exact Bd.fits (n := 120) (Bd.lit (by decide)) (by decide))))
  | with_reducible refine w_isN ?_
  | with_reducible refine w_isNN ?_
  | ((with_reducible apply w_exis_t); exact rfl; exact rfl; exact rfl)
  | ((with_reducible apply w_exis_f); exact rfl; exact rfl; exact rfl)
  | ((with_reducible apply w_glob); exact rfl)
  | with_reducible refine w_chn ?_
  | with_reducible refine w_sl ?_
  | with_reducible refine w_part0 ?_
  | with_reducible refine w_part1 ?_
  | with_reducible refine w_slT ?_)
local macro_rules | `(tactic| walk_at "bd") => `(tactic| first
  | with_reducible assumption
  | with_reducible exact In.bd60 (by assumption)
  | with_reducible exact Bd.bool _
  | ((with_reducible apply Bd.modL); (focus decide); (walk_at "bd"))
  | ((with_reducible apply Bd.fdivL); (focus decide); (walk_at "bd"))
  | ((with_reducible apply Bd.abs); (walk_at "bd"))
  | with_reducible exact Bd.pow (by decide)
  | ((with_reducible apply Bd.mul); (focus (walk_at "bd")); (focus (walk_at "bd")))
  | ((with_reducible apply Bd.addM); (focus (walk_at "bd")); (focus (walk_at "bd")))
  | ((with_reducible apply Bd.subM); (focus (walk_at "bd")); (focus (walk_at "bd")))
  | ((with_reducible apply Bd.neg); (walk_at "bd"))
  | exact Bd.lit (n := 128) (by decide))
local macro_rules | `(tactic| walk_at "fit") => `(tactic| ((with_reducible apply Bd.fits); (focus (walk_at "bd")); (focus decide)))
local macro_rules | `(tactic| walk_at "rk") => `(tactic| first
  | walk_at "ri"
  | ((with_reducible refine w_mul ?_ ?_ ?_); (focus (walk_at "fit")); (focus (walk_at "fit")))
  | ((with_reducible refine w_ixR (by assumption) ?_ ?_); (focus (first | decide | omega | assumption)); (intro _ _)))
variable {k : Nat} {s : Store} {X : Exn → Store → Prop}
theorem join_cons (d : D) (l : List D) (h : l ≠ []) : joinL [32] ((d :: l).map noteL) = noteL d ++ 32 :: joinL [32] (l.map noteL) := by
  cases l with
  | nil => exact absurd rfl h
  | cons e r => rfl
theorem tuple_ok {T R : List Nat} {p : Nat} {l : List D} (hT : Tt T) (hd : ∀ d ∈ l, ∃ c r, noteL d = c :: r ∧ c ≠ 41) (h : T.drop p = joinL [32] (l.map noteL) ++ 41 :: R)
    (ih : ∀ d ∈ l, ∀ (q : Nat) (R' : List Nat) (s' : Store), T.drop q = noteL d ++ R' → Stp R' → wp (runD tab k d_read_value [.str (sL T), .int (q : Int)] s') (fun v s'' => v = .tup [d, .int ((q + (noteL d).length : Nat) : Int)] ∧ Ext s' s'') fun _ _ => False) :
    wp (runD tab (k + 1) d_read_tuple [.str (sL T), .int (p : Int)] s) (fun v s' => v = .tup [.tup l, .int ((p + (joinL [32] (l.map noteL)).length + 1 : Nat) : Int)] ∧ Ext s s') X := by
  refine run_read_tuple ?_
  dsimp only [d_read_tuple]
  repeat walk_at "rk"
  have x0 := Ext.new1 s (.lst [])
  have hq := get_new s (.lst [])
  have ql : s.length ≤ s.length := Nat.le_refl _
  generalize hqq : s.length = q at hq ql ⊢
  have ql : s.length ≤ q := by omega
  generalize s ++ [O.lst []] = s0 at *
  cases l with
  | nil =>
    have a1 := at_drop (show T.drop p = 41 :: R from h)
    dsimp only [List.set]
    repeat walk_at "rk"
    refine w_sl1 hT a1.1 ?_
    repeat walk_at "rk"
    try rw [show (")" : Str) = sL [41] from rfl]
    refine w_eqL (okS (by decide)) (okS (by decide)) ?_
    repeat walk_at "rk"
    refine br_dt rfl ?_
    repeat walk_at "rk"
    refine ⟨?_, x0⟩
    rw [show (p : Int) + 1 = ((p + 1 : Nat) : Int) by omega]
    rfl
  | cons d0 l0 =>
    have lT := hT.len
    have hne : joinL [32] ((d0 :: l0).map noteL) ++ 41 :: R ≠ [] := by simp
    have lens : ∀ {e : Nat} {l' : List D}, T.drop e = joinL [32] (l'.map noteL) ++ 41 :: R → e + (joinL [32] (l'.map noteL)).length = p + (joinL [32] ((d0 :: l0).map noteL)).length := by
      intro e l' he
      have e1 := congrArg List.length he
      have e2 := congrArg List.length h
      rw [List.length_drop, List.length_append, List.length_cons] at e1 e2
      omega
    obtain ⟨c0, r0, e0, n0⟩ := hd d0 List.mem_cons_self
    have a1 : T[p]? = some c0 := by
      by_cases z : l0 = []
      · subst z
        exact (at_drop (U := r0 ++ 41 :: R) (by rw [h]; show noteL d0 ++ _ = _; rw [e0]; rfl)).1
      · exact (at_drop (U := r0 ++ (32 :: joinL [32] (l0.map noteL) ++ 41 :: R)) (by rw [h, join_cons d0 l0 z, e0]; simp)).1
    dsimp only [List.set]
    repeat walk_at "rk"
    refine w_sl1 hT a1 ?_
    repeat walk_at "rk"
    try rw [show (")" : Str) = sL [41] from rfl]
    refine w_eqL (ok1 hT a1) (okS (by decide)) ?_
    repeat walk_at "rk"
    refine br_df (one_ne n0) ?_
    have lne : 1 ≤ (d0 :: l0).length := by simp
    generalize d0 :: l0 = l at *
    clear a1 e0 n0 c0 r0 d0 l0
    have lm : l.length ≤ 10000000 := by
      have e2 := congrArg List.length h
      rw [List.length_drop, List.length_append, List.length_cons] at e2
      have := joinL_len 32 (l.map noteL)
      rw [List.length_map] at this
      unfold BIG at lT
      omega
    repeat walk_at "rk"
    refine f_whl l.length (by omega) (fun j ρ s' => j < l.length ∧ Ext s s' ∧ s'[q]? = some (.lst (l.take j)) ∧ ∃ (e : Nat) (y : Option D), ρ = [some (.str (sL T)), some (.int (p : Int)), some (.ref q), some (.int (e : Int)), y] ∧ T.drop e = joinL [32] ((l.drop j).map noteL) ++ 41 :: R) ⟨by omega, x0, hq, p, none, rfl, h⟩ ?_
    rintro j ρ s' ⟨hj, xs, hq, e, y, rfl, he⟩
    have le : e < T.length := (len_drop he (by simp)).2
    have ed : l[j]? = some l[j] := List.getElem?_eq_getElem hj
    have dr : l.drop j = l[j] :: l.drop (j + 1) := List.drop_eq_getElem_cons hj
    have md : l[j] ∈ l := List.getElem_mem hj
    generalize l[j] = d at *
    rw [dr] at he
    have nl := List.length_drop (l := l) (i := j + 1)
    repeat walk_at "rk"
    refine w_lenL hT.most ?_
    repeat walk_at "rk"
    refine br_dt (by omega) ⟨hj, ?_⟩
    have eL := lens (e := e) (l' := d :: l.drop (j + 1)) he
    refine f_cons (f_asgT ?_)
    repeat walk_at "rk"
    by_cases z : l.drop (j + 1) = []
    · rw [z] at he eL nl
      have he : T.drop e = noteL d ++ 41 :: R := he
      have eL : e + (noteL d).length = p + (joinL [32] (l.map noteL)).length := eL
      have jl : j + 1 = l.length := by
        rw [List.length_nil] at nl
        omega
      refine call_read_value (w_get (ih d md e (41 :: R) s' he (.inr ⟨41, R, rfl, .inr rfl⟩)) ?_)
      rintro _ s1 ⟨rfl, x1⟩
      refine ⟨_, asg2 rfl, ?_⟩
      have a2 := at_drop (drop_more he)
      have hq1 := x1.get hq
      dsimp only [List.set]
      repeat walk_at "rk"
      refine ⟨rcv_lst hq1, ?_⟩
      repeat walk_at "rk"
      refine w_appK hq1 (by rw [List.length_take]; unfold most; omega) ?_
      have x2 : Ext s (s1.set q (.lst (l.take j ++ [d]))) := (xs.trans x1).set ql
      have hq2 : (s1.set q (.lst (l.take j ++ [d])))[q]? = some (.lst (l.take j ++ [d])) := by rw [List.getElem?_set_self (List.getElem?_eq_some_iff.mp hq1).1]
      generalize s1.set q (.lst (l.take j ++ [d])) = s2 at *
      repeat walk_at "rk"
      refine w_sl1 hT a2.1 ?_
      repeat walk_at "rk"
      try rw [show (")" : Str) = sL [41] from rfl]
      refine w_eqL (okS (by decide)) (okS (by decide)) ?_
      repeat walk_at "rk"
      refine br_dt rfl ?_
      repeat walk_at "rk"
      refine w_tuple (lst_at hq2) ?_
      repeat walk_at "rk"
      refine ⟨?_, x2⟩
      rw [← take_succ ed, jl, List.take_length, eL, show (((p + (joinL [32] (l.map noteL)).length : Nat) : Int)) + 1 = ((p + (joinL [32] (l.map noteL)).length + 1 : Nat) : Int) by omega]
    · rw [join_cons d _ z] at he
      have he : T.drop e = noteL d ++ 32 :: (joinL [32] ((l.drop (j + 1)).map noteL) ++ 41 :: R) := by rw [he]; simp
      have jl : j + 1 < l.length := by
        have := List.length_pos_iff.mpr z
        omega
      refine call_read_value (w_get (ih d md e (32 :: (joinL [32] ((l.drop (j + 1)).map noteL) ++ 41 :: R)) s' he (.inr ⟨32, _, rfl, .inl rfl⟩)) ?_)
      rintro _ s1 ⟨rfl, x1⟩
      refine ⟨_, asg2 rfl, ?_⟩
      have a2 := at_drop (drop_more he)
      have hq1 := x1.get hq
      dsimp only [List.set]
      repeat walk_at "rk"
      refine ⟨rcv_lst hq1, ?_⟩
      repeat walk_at "rk"
      refine w_appK hq1 (by rw [List.length_take]; unfold most; omega) ?_
      have x2 : Ext s (s1.set q (.lst (l.take j ++ [d]))) := (xs.trans x1).set ql
      have hq2 : (s1.set q (.lst (l.take j ++ [d])))[q]? = some (.lst (l.take j ++ [d])) := by rw [List.getElem?_set_self (List.getElem?_eq_some_iff.mp hq1).1]
      generalize s1.set q (.lst (l.take j ++ [d])) = s2 at *
      repeat walk_at "rk"
      refine w_sl1 hT a2.1 ?_
      repeat walk_at "rk"
      try rw [show (")" : Str) = sL [41] from rfl]
      refine w_eqL (okS (by decide)) (okS (by decide)) ?_
      repeat walk_at "rk"
      refine br_df (by decide) ?_
      repeat walk_at "rk"
      refine w_sl1 hT a2.1 ?_
      repeat walk_at "rk"
      try rw [show (" " : Str) = sL [32] from rfl]
      refine w_neL (okS (by decide)) (okS (by decide)) ?_
      repeat walk_at "rk"
      refine br_dt rfl ?_
      repeat walk_at "rk"
      refine f_augA rfl ?_
      repeat walk_at "rk"
      refine ⟨1, rfl, ?_⟩
      repeat walk_at "rk"
      refine ⟨jl, x2, by rw [take_succ ed]; exact hq2, e + (noteL d).length + 1, some d, ?_, a2.2.2⟩
      rw [show ((e + (noteL d).length : Nat) : Int) + 1 = ((e + (noteL d).length + 1 : Nat) : Int) by omega]
      rfl
theorem note_head {n : Nat} {d : D} (h : Nv n d) : ∃ c r, noteL d = c :: r ∧ c ≠ 41 := by
  cases h with
  | non => exact ⟨110, _, rfl, by decide⟩
  | @bl _ b => cases b <;> exact ⟨_, _, rfl, by decide⟩
  | @int _ i hi =>
    have e : noteL (.int i) = intL i := by unfold noteL; rfl
    rw [e]
    rcases (show i < 0 ∨ 0 ≤ i by omega) with neg | nn
    · obtain ⟨n, rfl⟩ : ∃ n : Nat, i = -((n + 1 : Nat) : Int) := ⟨i.natAbs - 1, by omega⟩
      exact ⟨45, _, intL_neg n, by decide⟩
    · obtain ⟨n, rfl⟩ : ∃ n : Nat, i = (n : Int) := ⟨i.toNat, by omega⟩
      rw [intL_nat]
      cases e : numL n with
      | nil => exact absurd e (numL_ne n)
      | cons c r =>
        have := numL_digits n c (by rw [e]; exact List.mem_cons_self)
        exact ⟨c, r, rfl, by omega⟩
  | @str _ l hc hl =>
    rw [note_str]
    by_cases b : bareB l = true
    · rw [if_pos b]
      obtain ⟨_, _, _, c, r, rfl, lc⟩ := name_parts (bare_parts b).1
      refine ⟨c, r, rfl, ?_⟩
      rintro rfl
      exact absurd lc (by decide)
    · rw [if_neg b]
      exact ⟨34, _, rfl, by decide⟩
  | tup => exact ⟨40, _, note_tup _, by decide⟩
theorem value_tup {T R : List Nat} {p : Nat} {l : List D} (hT : Tt T) (h : T.drop p = noteL (.tup l) ++ R) (hd : ∀ d ∈ l, ∃ c r, noteL d = c :: r ∧ c ≠ 41)
    (ih : ∀ d ∈ l, ∀ (q : Nat) (R' : List Nat) (s' : Store), T.drop q = noteL d ++ R' → Stp R' → wp (runD tab k d_read_value [.str (sL T), .int (q : Int)] s') (fun v s'' => v = .tup [d, .int ((q + (noteL d).length : Nat) : Int)] ∧ Ext s' s'') fun _ _ => False) :
    wp (runD tab (k + 2) d_read_value [.str (sL T), .int (p : Int)] s) (fun v s' => v = .tup [.tup l, .int ((p + (noteL (.tup l)).length : Nat) : Int)] ∧ Ext s s') X := by
  rw [note_tup] at h ⊢
  have a1 := at_drop (show T.drop p = 40 :: (joinL [32] (l.map noteL) ++ 41 :: R) by rw [h]; simp)
  refine run_read_value ?_
  dsimp only [d_read_value]
  repeat walk_at "rk"
  refine w_sl1 hT a1.1 ?_
  dsimp only [List.set]
  repeat walk_at "rk"
  try rw [show ("(" : Str) = sL [40] from rfl]
  refine w_eqL (okS (by decide)) (okS (by decide)) ?_
  repeat walk_at "rk"
  refine br_dt rfl ?_
  repeat walk_at "rk"
  rw [show (p : Int) + 1 = ((p + 1 : Nat) : Int) by omega]
  refine call_read_tuple (w_get (tuple_ok hT hd a1.2.2 ih) ?_)
  rintro _ s1 ⟨rfl, x1⟩
  refine ⟨?_, x1⟩
  rw [show p + 1 + (joinL [32] (l.map noteL)).length + 1 = p + (40 :: (joinL [32] (l.map noteL) ++ [41])).length by simp; omega]
theorem value_ok {T : List Nat} (hT : Tt T) : ∀ {n k p : Nat} {d : D} {R : List Nat} {s : Store} {X : Exn → Store → Prop}, Nv n d → T.drop p = noteL d ++ R → Stp R → wp (runD tab (k + (2 * n + 5)) d_read_value [.str (sL T), .int (p : Int)] s) (fun v s' => v = .tup [d, .int ((p + (noteL d).length : Nat) : Int)] ∧ Ext s s') X
  | n + 1, k, p, .tup l, R, s, X, h, e, st => by
    have hh : ∀ d ∈ l, Nv n d := by cases h; assumption
    exact value_tup (k := k + (2 * n + 5)) hT e (fun d hd => note_head (hh d hd)) fun d hd q R' s' e' st' => value_ok hT (hh d hd) e' st'
  | 0, k, p, .tup l, R, s, X, h, e, st => by cases h
  | n, k, p, .non, R, s, X, h, e, st => rv_leaf (k := k + 2 * n) hT h (fun l e => by cases e) e st
  | n, k, p, .bl _, R, s, X, h, e, st => rv_leaf (k := k + 2 * n) hT h (fun l e => by cases e) e st
  | n, k, p, .int _, R, s, X, h, e, st => rv_leaf (k := k + 2 * n) hT h (fun l e => by cases e) e st
  | n, k, p, .str _, R, s, X, h, e, st => rv_leaf (k := k + 2 * n) hT h (fun l e => by cases e) e st
  | n, k, p, .ref _, R, s, X, h, e, st => by cases h
theorem note_low : ∀ {n : Nat} {d : D}, Nv n d → ∀ c ∈ noteL d, c < 128
  | n, .non, _, c, h => by
    have h : c ∈ [110, 111, 110, 101] := h
    simp at h
    omega
  | n, .bl true, _, c, h => by
    have h : c ∈ [121, 101, 115] := h
    simp at h
    omega
  | n, .bl false, _, c, h => by
    have h : c ∈ [110, 111] := h
    simp at h
    omega
  | n, .int i, _, c, h => by
    have e : noteL (.int i) = intL i := by unfold noteL; rfl
    rw [e] at h
    rcases (show i < 0 ∨ 0 ≤ i by omega) with neg | nn
    · obtain ⟨n, rfl⟩ : ∃ n : Nat, i = -((n + 1 : Nat) : Int) := ⟨i.natAbs - 1, by omega⟩
      rw [intL_neg] at h
      rcases List.mem_cons.mp h with rfl | h
      · decide
      · have := numL_digits _ c h
        omega
    · obtain ⟨n, rfl⟩ : ∃ n : Nat, i = (n : Int) := ⟨i.toNat, by omega⟩
      rw [intL_nat] at h
      have := numL_digits _ c h
      omega
  | n, .str x, hv, c, h => by
    have hx : ∀ c ∈ tl x, okc c := by cases hv with | str a b => exact a
    unfold noteL at h
    split at h
    · have := (hx c h).2.1
      omega
    · rcases List.mem_cons.mp h with rfl | h
      · decide
      · rcases List.mem_append.mp h with h | h
        · have := (hx c h).2.1
          omega
        · rw [List.mem_singleton.mp h]
          decide
  | n + 1, .tup l, hv, c, h => by
    have hh : ∀ d ∈ l, Nv n d := by cases hv; assumption
    rw [note_tup] at h
    rcases List.mem_cons.mp h with rfl | h
    · decide
    · rcases List.mem_append.mp h with h | h
      · have : ∀ ps : List (List Nat), c ∈ joinL [32] ps → c = 32 ∨ ∃ q ∈ ps, c ∈ q := by
          intro ps
          induction ps with
          | nil => intro h; cases h
          | cons q r ih =>
            intro h
            cases r with
            | nil => exact .inr ⟨q, List.mem_cons_self, h⟩
            | cons q2 r =>
              have h : c ∈ q ++ ([32] ++ joinL [32] (q2 :: r)) := h
              rcases List.mem_append.mp h with h | h
              · exact .inr ⟨q, List.mem_cons_self, h⟩
              · rcases List.mem_append.mp h with h | h
                · exact .inl (List.mem_singleton.mp h)
                · rcases ih h with h | ⟨q', m, h⟩
                  · exact .inl h
                  · exact .inr ⟨q', List.mem_cons_of_mem _ m, h⟩
        rcases this _ h with rfl | ⟨q, m, h⟩
        · decide
        · obtain ⟨d, md, rfl⟩ := List.mem_map.mp m
          exact note_low (hh d md) c h
      · rw [List.mem_singleton.mp h]
        decide
  | 0, .tup l, hv, c, h => by cases hv
  | n, .ref _, hv, c, h => by cases hv
theorem read_note_ok {n : Nat} {d : D} (h : Nv n d) (lb : (noteL d).length ≤ BIG) : wp (runD tab (k + (2 * n + 6)) d_read_note [.str (sL (noteL d))] s) (fun v s' => v = d ∧ Ext s s') X := by
  have hT : Tt (noteL d) := ⟨lb, note_low h⟩
  refine run_read_note (k := k + (2 * n + 5)) ?_
  dsimp only [d_read_note]
  refine f_cons (f_asgT ?_)
  repeat walk_at "rk"
  refine call_read_value (w_get (value_ok (p := 0) (R := []) hT h (by rw [List.append_nil]; rfl) (.inl rfl)) ?_)
  rintro _ s1 ⟨rfl, x1⟩
  refine ⟨_, asg2 rfl, ?_⟩
  rw [Nat.zero_add]
  dsimp only [List.set]
  repeat walk_at "rk"
  refine w_lenL hT.most ?_
  repeat walk_at "rk"
  refine br_df (by omega) ?_
  repeat walk_at "rk"
  exact ⟨rfl, x1⟩
theorem round_ok {n : Nat} {d : D} (h : Nv n d) (lb : (noteL d).length ≤ BIG) : wp (runD tab (k + (2 * n + 8)) d_law_round [d] s) (fun v s' => v = .bl true ∧ Ext s s') X := by
  have ok : okL (noteL d) := fun c hc => by have := note_low h c hc; omega
  refine run_L_round (k := k + (2 * n + 7)) ?_
  dsimp only [d_law_round]
  repeat walk_at "rk"
  rw [show k + (2 * n + 7) = (k + n + 5) + n + 2 by omega]
  refine call_L_note (w_get (lnote_ok h lb) ?_)
  rintro _ s1 ⟨rfl, x1⟩
  rw [show (k + n + 5) + n + 2 = (k + n + 3) + n + 4 by omega]
  repeat walk_at "rk"
  refine call_write_note (w_get (write_ok h lb) ?_)
  rintro _ s2 ⟨rfl, x2⟩
  rw [show (k + n + 3) + n + 4 = (k + 1) + (2 * n + 6) by omega]
  repeat walk_at "rk"
  refine w_neL ok ok ?_
  repeat walk_at "rk"
  refine br_dt rfl ?_
  repeat walk_at "rk"
  refine call_read_note (w_get (read_note_ok h lb) ?_)
  rintro _ s3 ⟨rfl, x3⟩
  rw [show (k + 1) + (2 * n + 6) = (k + n + 6) + n + 1 by omega]
  repeat walk_at "rk"
  refine call_L_same (w_get (same_ok h h lb) ?_)
  rintro _ s4 ⟨rfl, x4⟩
  exact ⟨by rw [sameN_refl h], x1.trans (x2.trans (x3.trans x4))⟩
end RK66
set_option maxRecDepth 100000
set_option maxHeartbeats 4000000
set_option exponentiation.threshold 10000
namespace RK66
open PySem L2 RI TL
local macro_rules | `(tactic| walk_at "ri") => `(tactic| first
  | with_reducible refine f_cons ?_
  | with_reducible refine f_nil ?_
  | with_reducible refine f_asg ?_
  | with_reducible refine f_ret ?_
  | with_reducible refine f_ife ?_
  | with_reducible refine f_expr ?_
  | with_reducible refine f_raise ?_
  | with_reducible refine f_brk ?_
  | with_reducible refine f_try ?_
  | with_reducible refine w_c ?_
  | ((with_reducible apply w_var); exact rfl)
  | with_reducible refine w_nil ?_
  | with_reducible refine w_cons ?_
  | with_reducible refine w_tup ?_
  | with_reducible refine w_tupK rfl ?_
  | with_reducible refine w_lst ?_
  | with_reducible refine w_lstK rfl ?_
  | with_reducible refine w_bin ?_
  | with_reducible refine w_add ?_
  | with_reducible refine w_sub ?_
  | with_reducible refine w_neg ?_
  | with_reducible refine w_negK ?_
  | with_reducible refine w_cmp ?_
  | with_reducible refine w_lt ?_
  | with_reducible refine w_le ?_
  | with_reducible refine w_gt ?_
  | with_reducible refine w_ge ?_
  | with_reducible refine w_eqI ?_
  | with_reducible refine w_neI ?_
  | with_reducible refine w_eqB ?_
  | with_reducible refine w_neB ?_
  | with_reducible refine w_trB ?_
  | with_reducible refine w_trI ?_
  | with_reducible refine w_and ?_
  | with_reducible refine w_or ?_
  | with_reducible refine w_not ?_
  | with_reducible refine w_ite ?_
  | with_reducible refine w_ix ?_
  | ((with_reducible apply w_ixS); (first | assumption | exact rfl); exact rfl)
  | with_reducible refine w_call ?_
  | with_reducible refine w_callk ?_
  | with_reducible refine w_bi ?_
  | with_reducible refine w_abs ?_
  | with_reducible refine w_gcd ?_
  | with_reducible refine w_intI ?_
  | with_reducible refine w_intB ?_
  | with_reducible refine w_isi ?_
  | ((with_reducible refine w_isiK_t ?_ ?_); focus (exact rfl))
  | ((with_reducible refine w_isiK_f ?_ ?_); focus (exact rfl))
  | with_reducible refine br_n ?_
  | with_reducible refine br_t ?_
  | with_reducible refine br_f ?_
  | with_reducible refine f_cnt ?_
  | with_reducible refine f_pass ?_
  | with_reducible refine f_retN ?_
  | with_reducible refine w_truM ?_
  | with_reducible refine w_irng ?_
  | with_reducible refine w_iseq ?_
  | with_reducible refine w_dic ?_
  | with_reducible refine w_meth ?_
  | with_reducible refine w_dic0T ?_
  | with_reducible refine w_dic0K ?_
  | with_reducible refine w_isis ?_
  | with_reducible refine f_setiG ?_
  | with_reducible refine w_tupleT ?_
  | ((with_reducible refine w_mod ?_ ?_); (focus decide))
  | ((with_reducible refine w_pow ?_ ?_); (focus decide))
  | ((with_reducible refine w_fdiv ?_ ?_ ?_); (focus decide); (focus (exact Bd.fits (n := 120) (Bd.lit (by decide)) (by decide))))
  | with_reducible refine w_isN ?_
  | with_reducible refine w_isNN ?_
  | ((with_reducible apply w_exis_t); exact rfl; exact rfl; exact rfl)
  | ((with_reducible apply w_exis_f); exact rfl; exact rfl; exact rfl)
  | ((with_reducible apply w_glob); exact rfl)
  | with_reducible refine w_chn ?_
  | with_reducible refine w_sl ?_
  | with_reducible refine w_part0 ?_
  | with_reducible refine w_part1 ?_
  | with_reducible refine w_slT ?_)
local macro_rules | `(tactic| walk_at "bd") => `(tactic| first
  | with_reducible assumption
  | with_reducible exact In.bd60 (by assumption)
  | with_reducible exact Bd.bool _
  | ((with_reducible apply Bd.modL); (focus decide); (walk_at "bd"))
  | ((with_reducible apply Bd.fdivL); (focus decide); (walk_at "bd"))
  | ((with_reducible apply Bd.abs); (walk_at "bd"))
  | with_reducible exact Bd.pow (by decide)
  | ((with_reducible apply Bd.mul); (focus (walk_at "bd")); (focus (walk_at "bd")))
  | ((with_reducible apply Bd.addM); (focus (walk_at "bd")); (focus (walk_at "bd")))
  | ((with_reducible apply Bd.subM); (focus (walk_at "bd")); (focus (walk_at "bd")))
  | ((with_reducible apply Bd.neg); (walk_at "bd"))
  | exact Bd.lit (n := 128) (by decide))
local macro_rules | `(tactic| walk_at "fit") => `(tactic| ((with_reducible apply Bd.fits); (focus (walk_at "bd")); (focus decide)))
local macro_rules | `(tactic| walk_at "rk") => `(tactic| first
  | walk_at "ri"
  | ((with_reducible refine w_mul ?_ ?_ ?_); (focus (walk_at "fit")); (focus (walk_at "fit")))
  | ((with_reducible refine w_ixR (by assumption) ?_ ?_); (focus (first | decide | omega | assumption)); (intro _ _)))
variable {k : Nat} {s : Store} {X : Exn → Store → Prop}
instance : DecidablePred okc := fun c => by unfold okc; exact inferInstance
/-- a few digits -/
def Digs (s : Store) (r : D) (m : Nat) : Prop := ∃ l : List Int, seqOf s r = some (l.map D.int) ∧ l.length ≤ m ∧ ∀ i ∈ l, RI.In 92 i
theorem RowAt.digs {r : D} {m : Nat} (h : RowAt s r m 92) : Digs s r m := by
  obtain ⟨l, e, n, f⟩ := h
  exact ⟨l, e, by omega, f⟩
/-- row[a:b] -/
theorem w_slD {r : D} {m a b : Nat} {Q : D → Store → Prop} (h : RowAt s r m 92) (q : ∀ v s', Ext s s' → Digs s' v (b - a) → Q v s') : wp (slK r (some (a : Int)) (some (b : Int)) s) Q X := by
  obtain ⟨xs, e, n, f⟩ := h
  have ee : cutD (xs.map D.int) (some (a : Int)) (some (b : Int)) = (cutD xs (some (a : Int)) (some (b : Int))).map D.int := by
    unfold cutD
    rw [List.length_map, List.map_take, List.map_drop]
  have sub : (cutD xs (some (a : Int)) (some (b : Int))).Sublist xs := (List.take_sublist _ _).trans (List.drop_sublist _ _)
  have ll : (cutD xs (some (a : Int)) (some (b : Int))).length ≤ b - a := by
    unfold cutD HT.sIx
    dsimp only
    rw [if_neg (by omega), if_neg (by omega), Int.toNat_natCast, Int.toNat_natCast, List.length_take, List.length_drop]
    omega
  have rr : ∀ {s' : Store} {v : D}, seqOf s' v = some ((cutD xs (some (a : Int)) (some (b : Int))).map D.int) → Digs s' v (b - a) := fun e => ⟨_, e, ll, fun i hi => f i (sub.subset hi)⟩
  cases r with
  | tup k =>
    cases e
    refine w_slT ?_
    rw [ee]
    exact q _ _ (Ext.refl _) (rr rfl)
  | ref n =>
    refine w_slL e ?_
    rw [ee]
    exact q _ _ (Ext.new1 _ _) (rr (seq_new _ _))
  | _ => cases e
theorem join_nil : ∀ ps : List (List Nat), joinL [] ps = ps.flatten
  | [] => rfl
  | [p] => by simp [joinL]
  | p :: q :: r => by
    have ih := join_nil (q :: r)
    show p ++ ([] ++ joinL [] (q :: r)) = _
    rw [ih]
    simp
def sgF (A : List Nat) (d : D) : D := match d with
  | .int i => .str (sL [A.getD (i.fmod (A.length : Int)).toNat 0])
  | _ => .non
theorem signs_ok {r : D} {m : Nat} {A : List Nat} (h : Digs s r m) (hA : 1 ≤ A.length) (lA : A.length ≤ 1000) (lm : m ≤ 100) : wp (runD tab (k + 1) d_law_signs [r, .str (sL A)] s) (fun v s' => (∃ l, v = .str (sL l) ∧ l.length ≤ m ∧ ∀ c ∈ l, c ∈ A) ∧ Ext s s') X := by
  obtain ⟨l, e, n, f⟩ := h
  have lmost : A.length ≤ most := by unfold most; omega
  refine run_L_signs ?_
  dsimp only [d_law_signs]
  repeat walk_at "rk"
  refine ⟨rfl, ?_⟩
  repeat walk_at "rk"
  refine w_lcA ?_
  repeat walk_at "rk"
  have gm : ∀ i : Int, A.getD (i.fmod (A.length : Int)).toNat 0 ∈ A ∧ A[(i.fmod (A.length : Int)).toNat]? = some (A.getD (i.fmod (A.length : Int)).toNat 0) := by
    intro i
    have fm := fmod_bd (a := i) (b := (A.length : Int)) (by omega)
    have hi : (i.fmod (A.length : Int)).toNat < A.length := by omega
    rw [List.getD_eq_getElem?_getD, List.getElem?_eq_getElem hi]
    exact ⟨List.getElem_mem hi, rfl⟩
  refine ⟨l.map D.int, e, by rw [List.length_map]; unfold most; omega, fun _ => true, sgF A, ?_, ?_⟩
  · intro d acc hd
    obtain ⟨i, hi, rfl⟩ := List.mem_map.mp hd
    refine ⟨_, asg1, evC_nil, fun _ => ?_⟩
    dsimp only [wipeD, List.set]
    repeat walk_at "rk"
    refine w_lenL lmost ?_
    repeat walk_at "rk"
    refine w_mod (by omega) ?_
    have fm := fmod_bd (a := i) (b := (A.length : Int)) (by omega)
    rw [show i.fmod (A.length : Int) = (((i.fmod (A.length : Int)).toNat : Nat) : Int) by omega]
    refine w_ixN lmost (gm i).2 ?_
    exact ⟨rfl, rfl⟩
  · rw [filter_true]
    repeat walk_at "rk"
    rw [show ("" : Str) = sL [] from rfl]
    refine w_joinL (ps := l.map fun i => [A.getD (i.fmod (A.length : Int)).toNat 0]) ?_ ?_ ?_
    · rw [seq_new, List.map_map, List.map_map]
      rfl
    · rw [List.map_map]
      have : ((l.map (List.length ∘ fun i => [A.getD (i.fmod (A.length : Int)).toNat 0]))).sum = l.length := by
        have : (List.length ∘ fun i : Int => [A.getD (i.fmod (A.length : Int)).toNat 0]) = fun _ => 1 := rfl
        rw [this, List.map_const', List.sum_replicate_nat]
        omega
      rw [this]
      unfold most
      simp only [List.length_nil, Nat.mul_zero]
      omega
    · rw [join_nil]
      refine ⟨⟨_, rfl, ?_, ?_⟩, Ext.new1 _ _⟩
      · rw [List.length_flatten, List.map_map]
        have : (List.length ∘ fun i : Int => [A.getD (i.fmod (A.length : Int)).toNat 0]) = fun _ => 1 := rfl
        rw [this, List.map_const', List.sum_replicate_nat]
        omega
      · intro c hc
        obtain ⟨q, hq, hc⟩ := List.mem_flatten.mp hc
        obtain ⟨i, _, rfl⟩ := List.mem_map.mp hq
        rw [List.mem_singleton.mp hc]
        exact (gm i).1
theorem number_ok {r : D} {m : Nat} {b : Bool} (h : RowAt s r 62 92) (lm : m ≤ 60) : wp (runD tab (k + 1) d_law_number [r, .int (m : Int), .bl b] s) (fun v s' => (∃ i : Int, v = .int i ∧ i.natAbs < 10 ^ 60) ∧ s' = s) X := by
  have p60 : ∀ j : Nat, j ≤ 60 → (10 : Nat) ^ j ≤ 10 ^ 60 := fun j hj => Nat.pow_le_pow_right (by decide) hj
  refine run_L_number ?_
  dsimp only [d_law_number]
  repeat walk_at "rk"
  refine f_rng ?_
  repeat walk_at "rk"
  refine ⟨_, fun j ρ s' => s' = s ∧ ∃ (n : Nat) (y : Option D), n < 10 ^ j ∧ ρ = [some r, some (.int (m : Int)), some (.bl b), some (.int (n : Int)), y], rfl, by omega, ⟨rfl, 0, none, by decide, rfl⟩, ?_, ?_⟩
  · rintro j ρ s hj ⟨rfl, n, y, hn, rfl⟩
    have hj : j < m := by omega
    have bn : Bd 201 (n : Int) := by
      have : 10 ^ j ≤ 10 ^ 60 := p60 j (by omega)
      have q : (10 : Nat) ^ 60 < 2 ^ 201 := by decide
      unfold Bd
      rw [Int.natAbs_natCast]
      omega
    dsimp only [List.set]
    repeat walk_at "rk"
    rename_i c hc
    have q := RI.In.mod (a := c) (m := 10) (by decide)
    unfold RI.In at q
    refine ⟨rfl, n * 10 + (c.fmod 10).toNat, some (.int (j : Int)), ?_, ?_⟩
    · rw [Nat.pow_succ]
      omega
    · rw [show ((n * 10 + (c.fmod 10).toNat : Nat) : Int) = (n : Int) * 10 + c.fmod 10 by omega]
      rfl
  · rintro ρ s ⟨rfl, n, y, hn, rfl⟩
    rw [Int.toNat_natCast] at hn
    have := p60 m lm
    repeat walk_at "rk"
    cases b with
    | true =>
      repeat walk_at "rk"
      exact ⟨⟨_, rfl, by omega⟩, rfl⟩
    | false =>
      repeat walk_at "rk"
      exact ⟨⟨_, rfl, by omega⟩, rfl⟩
theorem mul_mem {x : Str} {n : Int} {c : Nat} (h : c ∈ tl (Txt.mul x n)) : c ∈ tl x := by
  unfold Txt.mul at h
  split at h
  · cases h
  · split at h
    · exact h
    · have go : ∀ (L : List (Array Nat)) (acc : Array Nat), c ∈ (L.foldl (· ++ ·) acc).toList → c ∈ acc.toList ∨ ∃ a ∈ L, c ∈ a.toList := by
        intro L
        induction L with
        | nil => intro acc h; exact .inl h
        | cons a L ih =>
          intro acc h
          rcases ih _ h with h | ⟨b, m, h⟩
          · rw [Array.toList_append] at h
            rcases List.mem_append.mp h with h | h
            · exact .inl h
            · exact .inr ⟨a, List.mem_cons_self, h⟩
          · exact .inr ⟨b, List.mem_cons_of_mem _ m, h⟩
      rcases go _ _ h with h | ⟨a, m, h⟩
      · cases h
      · rw [List.eq_of_mem_replicate m] at h
        exact h
end RK66
set_option maxRecDepth 100000
set_option maxHeartbeats 4000000
set_option exponentiation.threshold 10000
namespace RK66
open PySem L2 RI TL
local macro_rules | `(tactic| walk_at "ri") => `(tactic| first
  | with_reducible refine f_cons ?_
  | with_reducible refine f_nil ?_
  | with_reducible refine f_asg ?_
  | with_reducible refine f_ret ?_
  | with_reducible refine f_ife ?_
  | with_reducible refine f_expr ?_
  | with_reducible refine f_raise ?_
  | with_reducible refine f_brk ?_
  | with_reducible refine f_try ?_
  | with_reducible refine w_c ?_
  | ((with_reducible apply w_var); exact rfl)
  | with_reducible refine w_nil ?_
  | with_reducible refine w_cons ?_
  | with_reducible refine w_tup ?_
  | with_reducible refine w_tupK rfl ?_
  | with_reducible refine w_lst ?_
  | with_reducible refine w_lstK rfl ?_
  | with_reducible refine w_bin ?_
  | with_reducible refine w_add ?_
  | with_reducible refine w_sub ?_
  | with_reducible refine w_neg ?_
  | with_reducible refine w_negK ?_
  | with_reducible refine w_cmp ?_
  | with_reducible refine w_lt ?_
  | with_reducible refine w_le ?_
  | with_reducible refine w_gt ?_
  | with_reducible refine w_ge ?_
  | with_reducible refine w_eqI ?_
  | with_reducible refine w_neI ?_
  | with_reducible refine w_eqB ?_
  | with_reducible refine w_neB ?_
  | with_reducible refine w_trB ?_
  | with_reducible refine w_trI ?_
  | with_reducible refine w_and ?_
  | with_reducible refine w_or ?_
  | with_reducible refine w_not ?_
  | with_reducible refine w_ite ?_
  | with_reducible refine w_ix ?_
  | ((with_reducible apply w_ixS); (first | assumption | exact rfl); exact rfl)
  | with_reducible refine w_call ?_
  | with_reducible refine w_callk ?_
  | with_reducible refine w_bi ?_
  | with_reducible refine w_abs ?_
  | with_reducible refine w_gcd ?_
  | with_reducible refine w_intI ?_
  | with_reducible refine w_intB ?_
  | with_reducible refine w_isi ?_
  | ((with_reducible refine w_isiK_t ?_ ?_); focus (exact rfl))
  | ((with_reducible refine w_isiK_f ?_ ?_); focus (exact rfl))
  | with_reducible refine br_n ?_
  | with_reducible refine br_t ?_
  | with_reducible refine br_f ?_
  | with_reducible refine f_cnt ?_
  | with_reducible refine f_pass ?_
  | with_reducible refine f_retN ?_
  | with_reducible refine w_truM ?_
  | with_reducible refine w_irng ?_
  | with_reducible refine w_iseq ?_
  | with_reducible refine w_dic ?_
  | with_reducible refine w_meth ?_
  | with_reducible refine w_dic0T ?_
  | with_reducible refine w_dic0K ?_
  | with_reducible refine w_isis ?_
  | with_reducible refine f_setiG ?_
  | with_reducible refine w_tupleT ?_
  | ((with_reducible refine w_mod ?_ ?_); (focus decide))
  | ((with_reducible refine w_pow ?_ ?_); (focus decide))
  | ((with_reducible refine w_fdiv ?_ ?_ ?_); (focus decide); (focus (exact Bd.fits (n := 120) (Bd.lit (by decide)) (by decide))))
  | with_reducible refine w_isN ?_
  | with_reducible refine w_isNN ?_
  | ((with_reducible apply w_exis_t); exact rfl; exact rfl; exact rfl)
  | ((with_reducible apply w_exis_f); exact rfl; exact rfl; exact rfl)
  | ((with_reducible apply w_glob); exact rfl)
  | with_reducible refine w_chn ?_
  | with_reducible refine w_sl ?_
  | with_reducible refine w_part0 ?_
  | with_reducible refine w_part1 ?_
  | with_reducible refine w_slT ?_)
local macro_rules | `(tactic| walk_at "bd") => `(tactic| first
  | with_reducible assumption
  | with_reducible exact In.bd60 (by assumption)
  | with_reducible exact Bd.bool _
  | ((with_reducible apply Bd.modL); (focus decide); (walk_at "bd"))
  | ((with_reducible apply Bd.fdivL); (focus decide); (walk_at "bd"))
  | ((with_reducible apply Bd.abs); (walk_at "bd"))
  | with_reducible exact Bd.pow (by decide)
  | ((with_reducible apply Bd.mul); (focus (walk_at "bd")); (focus (walk_at "bd")))
  | ((with_reducible apply Bd.addM); (focus (walk_at "bd")); (focus (walk_at "bd")))
  | ((with_reducible apply Bd.subM); (focus (walk_at "bd")); (focus (walk_at "bd")))
  | ((with_reducible apply Bd.neg); (walk_at "bd"))
  | exact Bd.lit (n := 128) (by decide))
local macro_rules | `(tactic| walk_at "fit") => `(tactic| ((with_reducible apply Bd.fits); (focus (walk_at "bd")); (focus decide)))
local macro_rules | `(tactic| walk_at "rk") => `(tactic| first
  | walk_at "ri"
  | ((with_reducible refine w_mul ?_ ?_ ?_); (focus (walk_at "fit")); (focus (walk_at "fit")))
  | ((with_reducible refine w_ixR (by assumption) ?_ ?_); (focus (first | decide | omega | assumption)); (intro _ _)))
variable {k : Nat} {s : Store} {X : Exn → Store → Prop}
/-- a text that a value may have -/
def Sv (d : D) : Prop := ∃ l, d = .str (sL l) ∧ (∀ c ∈ l, okc c) ∧ l.length ≤ 400
theorem sv_lit (x : Str) (h : decide (∀ c ∈ tl x, okc c) = true) (g : decide ((tl x).length ≤ 400) = true) : Sv (.str x) := ⟨tl x, by rw [sL_tl], of_decide_eq_true h, of_decide_eq_true g⟩
def MORE : List Nat := [32, 33, 35, 36, 38, 39, 40, 41, 42, 43, 44, 45, 46, 47, 48, 49, 50, 51, 52, 53, 54, 55, 56, 57, 58, 59, 60, 61, 62, 63, 64, 65, 66, 67, 68, 69, 70, 71, 72, 73, 74, 75, 76, 77, 78, 79, 80, 81, 82, 83, 84, 85, 86, 87, 88, 89, 90, 91, 93, 94, 95, 96, 123, 124, 125, 126]
theorem lit_more : (" !#$&'()*+,-./0123456789:;<=>?@ABCDEFGHIJKLMNOPQRSTUVWXYZ[]^_`{|}~" : Str) = sL MORE := rfl
theorem ok_lets : ∀ c ∈ LETS, okc c := by decide
theorem ok_digs : ∀ c ∈ DIGS, okc c := by decide
theorem ok_more : ∀ c ∈ MORE, okc c := by decide
theorem ok_app {a b : List Nat} (ha : ∀ c ∈ a, okc c) (hb : ∀ c ∈ b, okc c) : ∀ c ∈ a ++ b, okc c := fun c h => by
  rcases List.mem_append.mp h with h | h
  · exact ha c h
  · exact hb c h
theorem at_lets {i : Int} (h : 0 ≤ i ∧ i < 26) : ∃ c, atI (sL LETS).cps.toList i = some c ∧ c ∈ LETS := by
  obtain ⟨c, m, e⟩ := atI_lt (l := LETS) h.1 h.2
  exact ⟨c, e, m⟩
theorem w_mulS {l : List Nat} {Q : D → Store → Prop} (h : (sL l).length ≤ 100) (q : Q (.str (Txt.mul (sL l) 400)) s) : wp (binD .Mult (.str (sL l)) (.int 400) s) Q X := by
  show wp ((if 1 ≤ (400 : Int) ∧ (400 : Int) ≤ 100000 ∧ (sL l).length ≤ 100000 ∧ (sL l).length * (400 : Int).toNat ≤ 1000000 then ret (.str (Txt.mul (sL l) 400)) else badM) s) Q X
  rw [if_pos ⟨by decide, by decide, by omega, by
    have : (400 : Int).toNat = 400 := rfl
    rw [this]
    omega⟩]
  exact ⟨q⟩
theorem string_ok {r : D} {c : Int} (h : RowAt s r 62 92) : wp (runD tab (k + 2) d_law_string [.int c, r] s) (fun v s' => Sv v ∧ Ext s s') X := by
  refine run_L_string ?_
  dsimp only [d_law_string]
  repeat walk_at "rk"
  rw [lit_lets, lit_more, lit_digs]
  refine w_addL ((Ext.new1 _ _).get (get_new _ _)) (get_new _ _) (by simp [most]) ?_
  have xA := (Ext.new1 s (.lst [.str "", .str "yes", .str "no", .str "none", .str " ", .str "Yes", .str "noo", .str "1a", .str "a1", .str "abcdefghijkl", .str "abcdefghijklm", .str "a b", .str "a ", .str " a"])).trans ((Ext.new1 _ (.lst [.str "()", .str "(a b)", .str "0", .str "-7", .str "a-b", .str "(", .str ")", .str "A", .str "nonE", .str "y"])).trans (Ext.new1 _ (.lst ([.str "", .str "yes", .str "no", .str "none", .str " ", .str "Yes", .str "noo", .str "1a", .str "a1", .str "abcdefghijkl", .str "abcdefghijklm", .str "a b", .str "a ", .str " a"] ++ [.str "()", .str "(a b)", .str "0", .str "-7", .str "a-b", .str "(", .str ")", .str "A", .str "nonE", .str "y"]))))
  have hO := get_new (s ++ [O.lst [.str "", .str "yes", .str "no", .str "none", .str " ", .str "Yes", .str "noo", .str "1a", .str "a1", .str "abcdefghijkl", .str "abcdefghijklm", .str "a b", .str "a ", .str " a"]] ++ [O.lst [.str "()", .str "(a b)", .str "0", .str "-7", .str "a-b", .str "(", .str ")", .str "A", .str "nonE", .str "y"]]) (.lst ([.str "", .str "yes", .str "no", .str "none", .str " ", .str "Yes", .str "noo", .str "1a", .str "a1", .str "abcdefghijkl", .str "abcdefghijklm", .str "a b", .str "a ", .str " a"] ++ [.str "()", .str "(a b)", .str "0", .str "-7", .str "a-b", .str "(", .str ")", .str "A", .str "nonE", .str "y"]))
  have hS : ∀ d ∈ ([.str "", .str "yes", .str "no", .str "none", .str " ", .str "Yes", .str "noo", .str "1a", .str "a1", .str "abcdefghijkl", .str "abcdefghijklm", .str "a b", .str "a ", .str " a"] ++ [.str "()", .str "(a b)", .str "0", .str "-7", .str "a-b", .str "(", .str ")", .str "A", .str "nonE", .str "y"] : List D), Sv d := by
    intro d hd
    simp only [List.cons_append, List.nil_append, List.mem_cons, List.not_mem_nil, or_false] at hd
    rcases hd with rfl | rfl | rfl | rfl | rfl | rfl | rfl | rfl | rfl | rfl | rfl | rfl | rfl | rfl | rfl | rfl | rfl | rfl | rfl | rfl | rfl | rfl | rfl | rfl <;> exact sv_lit _ (by decide) (by decide)
  have hl : (([.str "", .str "yes", .str "no", .str "none", .str " ", .str "Yes", .str "noo", .str "1a", .str "a1", .str "abcdefghijkl", .str "abcdefghijklm", .str "a b", .str "a ", .str " a"] ++ [.str "()", .str "(a b)", .str "0", .str "-7", .str "a-b", .str "(", .str ")", .str "A", .str "nonE", .str "y"] : List D).length : Int) = 24 := rfl
  generalize ([.str "", .str "yes", .str "no", .str "none", .str " ", .str "Yes", .str "noo", .str "1a", .str "a1", .str "abcdefghijkl", .str "abcdefghijklm", .str "a b", .str "a ", .str " a"] ++ [.str "()", .str "(a b)", .str "0", .str "-7", .str "a-b", .str "(", .str ")", .str "A", .str "nonE", .str "y"] : List D) = L at *
  generalize (s ++ [O.lst [.str "", .str "yes", .str "no", .str "none", .str " ", .str "Yes", .str "noo", .str "1a", .str "a1", .str "abcdefghijkl", .str "abcdefghijklm", .str "a b", .str "a ", .str " a"]] ++ [O.lst [.str "()", .str "(a b)", .str "0", .str "-7", .str "a-b", .str "(", .str ")", .str "A", .str "nonE", .str "y"]]).length = n5 at *
  generalize s ++ [O.lst [.str "", .str "yes", .str "no", .str "none", .str " ", .str "Yes", .str "noo", .str "1a", .str "a1", .str "abcdefghijkl", .str "abcdefghijklm", .str "a b", .str "a ", .str " a"]] ++ [O.lst [.str "()", .str "(a b)", .str "0", .str "-7", .str "a-b", .str "(", .str ")", .str "A", .str "nonE", .str "y"]] ++ [O.lst L] = s3 at *
  replace h := h.ext xA
  generalize c.fmod 5 = kd at *
  dsimp only [List.set]
  repeat walk_at "rk"
  rename_i m hm
  unfold RI.In at hm
  refine br_d (fun z1 => ?_) (fun z1 => ?_)
  · repeat walk_at "rk"
    refine w_ixLit hO (by rw [hl]; exact RI.In.mod (by decide)) hS ?_
    intro d hd
    exact ⟨hd, xA⟩
  repeat walk_at "rk"
  refine br_d (fun z2 => ?_) (fun z2 => ?_)
  · repeat walk_at "rk"
    rename_i c2 hc2
    obtain ⟨ch, ech, mch⟩ := at_lets (i := c2.fmod 26) (RI.In.mod (by decide))
    refine w_ixStr (by rw [sL_len]; decide) ech ?_
    repeat walk_at "rk"
    have q := RI.In.mod (a := m) (m := 12) (by decide)
    unfold RI.In at q
    rw [show 3 + m.fmod 12 = ((3 + (m.fmod 12).toNat : Nat) : Int) by omega]
    refine w_slD (a := 3) h ?_
    intro v s4 x4 hv
    repeat walk_at "rk"
    refine w_addL2 (by decide) ?_
    repeat walk_at "rk"
    refine call_L_signs (w_get (signs_ok (k := k) hv (by decide) (by decide) (by omega)) ?_)
    rintro _ s5 ⟨⟨l, rfl, ll, lc⟩, x5⟩
    rw [show (⟨#[ch]⟩ : Str) = sL [ch] from rfl]
    refine w_addL2 (by show 1 + _ ≤ most; unfold most; omega) ?_
    refine ⟨⟨_, rfl, ok_app (fun c hc => by rw [List.mem_singleton.mp hc]; exact ok_lets _ mch) (fun c hc => ok_app ok_lets ok_digs c (lc c hc)), by rw [List.length_append]; show 1 + _ ≤ 400; omega⟩, xA.trans (x4.trans x5)⟩
  repeat walk_at "rk"
  refine br_d (fun z3 => ?_) (fun z3 => ?_)
  · repeat walk_at "rk"
    refine br_d (fun z4 => ?_) (fun z4 => ?_)
    · repeat walk_at "rk"
      have q := RI.In.mod (a := m) (m := 7) (by decide)
      unfold RI.In at q
      rw [show 4 + m.fmod 7 = ((4 + (m.fmod 7).toNat : Nat) : Int) by omega]
      refine w_slD (a := 3) h ?_
      intro v s4 x4 hv
      have h4 := h.ext x4
      repeat walk_at "rk"
      refine w_slFrom (a := 8) (by decide) ?_
      repeat walk_at "rk"
      refine w_addL2 (by decide) ?_
      repeat walk_at "rk"
      refine call_L_signs (w_get (signs_ok (k := k) hv (by decide) (by decide) (by omega)) ?_)
      rintro _ s5 ⟨⟨l, rfl, ll, lc⟩, x5⟩
      have h5 := h4.ext x5
      clear h h4
      have lo : ∀ c ∈ l, okc c := fun c hc => ok_app ok_lets (fun c hc => ok_more c ((List.drop_sublist 8 MORE).subset hc)) c (lc c hc)
      dsimp only [List.set]
      repeat walk_at "rk"
      refine w_mulS (by rw [sL_len]; omega) ?_
      have mo : ∀ c ∈ tl (Txt.mul (sL l) 400), okc c := fun c hc => lo c (mul_mem hc)
      have ml : (tl (Txt.mul (sL l) 400)).length ≤ most := by
        have := PyProof.Rows.len_mul_leN (x := sL l) (n := 400) (L := 10) (N := 400) (by rw [sL_len]; omega) (by decide)
        rw [len_tl] at this
        unfold most
        omega
      rw [← sL_tl (Txt.mul (sL l) 400)]
      generalize tl (Txt.mul (sL l) 400) = u at *
      repeat walk_at "rk"
      rename_i c3 hc3
      have q3 := RI.In.mod (a := c3) (m := 2) (by decide)
      have q4 := RI.In.mod (a := m) (m := 100) (by decide)
      unfold RI.In at q3 q4
      have e : ∃ b : Nat, 400 - c3.fmod 2 * m.fmod 100 = (b : Int) ∧ b ≤ 400 := by
        have : c3.fmod 2 = 0 ∨ c3.fmod 2 = 1 := by omega
        rcases this with e | e
        · rw [e]
          exact ⟨400, by omega, by omega⟩
        · rw [e]
          exact ⟨(400 - m.fmod 100).toNat, by omega, by omega⟩
      obtain ⟨b, eb, lb⟩ := e
      rw [eb]
      refine w_slTo ml ?_
      exact ⟨⟨_, rfl, fun c hc => mo c ((List.take_sublist b u).subset hc), by rw [List.length_take]; omega⟩, xA.trans (x4.trans x5)⟩
    · repeat walk_at "rk"
      have q := RI.In.mod (a := m) (m := 60) (by decide)
      unfold RI.In at q
      rw [show 2 + m.fmod 60 = ((2 + (m.fmod 60).toNat : Nat) : Int) by omega]
      refine w_slD (a := 2) h ?_
      intro v s4 x4 hv
      repeat walk_at "rk"
      refine w_addL2 (by decide) ?_
      repeat walk_at "rk"
      refine call_L_signs (w_get (signs_ok (k := k) hv (by decide) (by decide) (by omega)) ?_)
      rintro _ s5 ⟨⟨l, rfl, ll, lc⟩, x5⟩
      exact ⟨⟨_, rfl, fun c hc => ok_app ok_more ok_lets c (lc c hc), by omega⟩, xA.trans (x4.trans x5)⟩
  · repeat walk_at "rk"
    refine br_df z3 ?_
    repeat walk_at "rk"
    have q := RI.In.mod (a := m) (m := 60) (by decide)
    unfold RI.In at q
    rw [show 2 + m.fmod 60 = ((2 + (m.fmod 60).toNat : Nat) : Int) by omega]
    refine w_slD (a := 2) h ?_
    intro v s4 x4 hv
    repeat walk_at "rk"
    refine w_addL2 (by decide) ?_
    repeat walk_at "rk"
    refine call_L_signs (w_get (signs_ok (k := k) hv (by decide) (by decide) (by omega)) ?_)
    rintro _ s5 ⟨⟨l, rfl, ll, lc⟩, x5⟩
    exact ⟨⟨_, rfl, fun c hc => ok_app ok_more ok_lets c (lc c hc), by omega⟩, xA.trans (x4.trans x5)⟩
end RK66
set_option maxRecDepth 100000
set_option maxHeartbeats 4000000
set_option exponentiation.threshold 10000
namespace RK66
open PySem L2 RI TL
local macro_rules | `(tactic| walk_at "ri") => `(tactic| first
  | with_reducible refine f_cons ?_
  | with_reducible refine f_nil ?_
  | with_reducible refine f_asg ?_
  | with_reducible refine f_ret ?_
  | with_reducible refine f_ife ?_
  | with_reducible refine f_expr ?_
  | with_reducible refine f_raise ?_
  | with_reducible refine f_brk ?_
  | with_reducible refine f_try ?_
  | with_reducible refine w_c ?_
  | ((with_reducible apply w_var); exact rfl)
  | with_reducible refine w_nil ?_
  | with_reducible refine w_cons ?_
  | with_reducible refine w_tup ?_
  | with_reducible refine w_tupK rfl ?_
  | with_reducible refine w_lst ?_
  | with_reducible refine w_lstK rfl ?_
  | with_reducible refine w_bin ?_
  | with_reducible refine w_add ?_
  | with_reducible refine w_sub ?_
  | with_reducible refine w_neg ?_
  | with_reducible refine w_negK ?_
  | with_reducible refine w_cmp ?_
  | with_reducible refine w_lt ?_
  | with_reducible refine w_le ?_
  | with_reducible refine w_gt ?_
  | with_reducible refine w_ge ?_
  | with_reducible refine w_eqI ?_
  | with_reducible refine w_neI ?_
  | with_reducible refine w_eqB ?_
  | with_reducible refine w_neB ?_
  | with_reducible refine w_trB ?_
  | with_reducible refine w_trI ?_
  | with_reducible refine w_and ?_
  | with_reducible refine w_or ?_
  | with_reducible refine w_not ?_
  | with_reducible refine w_ite ?_
  | with_reducible refine w_ix ?_
  | ((with_reducible apply w_ixS); (first | assumption | exact rfl); exact rfl)
  | with_reducible refine w_call ?_
  | with_reducible refine w_callk ?_
  | with_reducible refine w_bi ?_
  | with_reducible refine w_abs ?_
  | with_reducible refine w_gcd ?_
  | with_reducible refine w_intI ?_
  | with_reducible refine w_intB ?_
  | with_reducible refine w_isi ?_
  | ((with_reducible refine w_isiK_t ?_ ?_); focus (exact rfl))
  | ((with_reducible refine w_isiK_f ?_ ?_); focus (exact rfl))
  | with_reducible refine br_n ?_
  | with_reducible refine br_t ?_
  | with_reducible refine br_f ?_
  | with_reducible refine f_cnt ?_
  | with_reducible refine f_pass ?_
  | with_reducible refine f_retN ?_
  | with_reducible refine w_truM ?_
  | with_reducible refine w_irng ?_
  | with_reducible refine w_iseq ?_
  | with_reducible refine w_dic ?_
  | with_reducible refine w_meth ?_
  | with_reducible refine w_dic0T ?_
  | with_reducible refine w_dic0K ?_
  | with_reducible refine w_isis ?_
  | with_reducible refine f_setiG ?_
  | with_reducible refine w_tupleT ?_
  | ((with_reducible refine w_mod ?_ ?_); (focus decide))
  | ((with_reducible refine w_pow ?_ ?_); (focus decide))
  | ((with_reducible refine w_fdiv ?_ ?_ ?_); (focus decide); (focus (exact Bd.fits (n := 120) (Bd.lit (by decide)) (by decide))))
  | with_reducible refine w_isN ?_
  | with_reducible refine w_isNN ?_
  | ((with_reducible apply w_exis_t); exact rfl; exact rfl; exact rfl)
  | ((with_reducible apply w_exis_f); exact rfl; exact rfl; exact rfl)
  | ((with_reducible apply w_glob); exact rfl)
  | with_reducible refine w_chn ?_
  | with_reducible refine w_sl ?_
  | with_reducible refine w_part0 ?_
  | with_reducible refine w_part1 ?_
  | with_reducible refine w_slT ?_)
local macro_rules | `(tactic| walk_at "bd") => `(tactic| first
  | with_reducible assumption
  | with_reducible exact In.bd60 (by assumption)
  | with_reducible exact Bd.bool _
  | ((with_reducible apply Bd.modL); (focus decide); (walk_at "bd"))
  | ((with_reducible apply Bd.fdivL); (focus decide); (walk_at "bd"))
  | ((with_reducible apply Bd.abs); (walk_at "bd"))
  | with_reducible exact Bd.pow (by decide)
  | ((with_reducible apply Bd.mul); (focus (walk_at "bd")); (focus (walk_at "bd")))
  | ((with_reducible apply Bd.addM); (focus (walk_at "bd")); (focus (walk_at "bd")))
  | ((with_reducible apply Bd.subM); (focus (walk_at "bd")); (focus (walk_at "bd")))
  | ((with_reducible apply Bd.neg); (walk_at "bd"))
  | exact Bd.lit (n := 128) (by decide))
local macro_rules | `(tactic| walk_at "fit") => `(tactic| ((with_reducible apply Bd.fits); (focus (walk_at "bd")); (focus decide)))
local macro_rules | `(tactic| walk_at "rk") => `(tactic| first
  | walk_at "ri"
  | ((with_reducible refine w_mul ?_ ?_ ?_); (focus (walk_at "fit")); (focus (walk_at "fit")))
  | ((with_reducible refine w_ixR (by assumption) ?_ ?_); (focus (first | decide | omega | assumption)); (intro _ _)))
variable {k : Nat} {s : Store} {X : Exn → Store → Prop}
theorem int_len {i : Int} (h : i.natAbs < 10 ^ 60) : (intL i).length ≤ 61 := by
  rcases (show i < 0 ∨ 0 ≤ i by omega) with neg | nn
  · obtain ⟨n, rfl⟩ : ∃ n : Nat, i = -((n + 1 : Nat) : Int) := ⟨i.natAbs - 1, by omega⟩
    rw [intL_neg, List.length_cons]
    have := num60 (n := n + 1) (by rw [Int.natAbs_neg] at h; exact h)
    omega
  · obtain ⟨n, rfl⟩ : ∃ n : Nat, i = (n : Int) := ⟨i.toNat, by omega⟩
    rw [intL_nat]
    have := num60 (n := n) (by simpa using h)
    omega
/-- a leaf -/
def Lf (d : D) : Prop := Nv 0 d ∧ (noteL d).length ≤ 403
theorem lf_int {i : Int} (h : i.natAbs < 10 ^ 60) : Lf (.int i) := ⟨.int h, by
  have e : noteL (.int i) = intL i := by unfold noteL; rfl
  rw [e]
  have := int_len h
  omega⟩
theorem lf_str {d : D} (h : Sv d) : Lf d := by
  obtain ⟨l, rfl, hc, hl⟩ := h
  refine ⟨.str hc hl, ?_⟩
  rw [note_str]
  split
  · omega
  · simp
    omega
theorem leaf_ok {c : Int} : wp (runD tab (k + 3) d_law_leaf [.int c] s) (fun v s' => Lf v ∧ Ext s s') X := by
  refine run_L_leaf ?_
  dsimp only [d_law_leaf]
  repeat walk_at "rk"
  refine call_L_row (w_get (row_ok (k := k + 1) (m := 62) (by decide)) ?_)
  rintro r s1 ⟨⟨rl, er, lr, fr⟩, x1⟩
  obtain ⟨c0, ec0⟩ : ∃ c, rl[0]? = some c := ⟨_, List.getElem?_eq_getElem (by omega)⟩
  obtain ⟨c1, ec1⟩ : ∃ c, rl[1]? = some c := ⟨_, List.getElem?_eq_getElem (by omega)⟩
  have g0 : atI (rl.map D.int) 0 = some (.int c0) := RI.atI_nat (n := 0) (by rw [List.getElem?_map, ec0]; rfl)
  have g1 : atI (rl.map D.int) 1 = some (.int c1) := RI.atI_nat (n := 1) (by rw [List.getElem?_map, ec1]; rfl)
  have i0 := fr c0 (List.mem_of_getElem? ec0)
  have i1 := fr c1 (List.mem_of_getElem? ec1)
  have b0 : Bd 7 c0 := i0.bd (by decide)
  dsimp only [List.set]
  repeat walk_at "rk"
  refine w_ixS er g0 ?_
  repeat walk_at "rk"
  generalize c0.fdiv 9 = ch at *
  dsimp only [List.set]
  repeat walk_at "rk"
  have x2 := Ext.new1 s1 (.lst [.int 0, .int 1, .int (-1), .int 9, .int 10, .int (-10), .int 99, .int 100, .int (-7), .int (10 ^ (18 : Int).toNat), .int (10 ^ (59 : Int).toNat), .int (10 ^ (60 : Int).toNat - 1), .int (1 - 10 ^ (60 : Int).toNat), .int (0 - 10 ^ (59 : Int).toNat), .int 60])
  have hM := get_new s1 (.lst [.int 0, .int 1, .int (-1), .int 9, .int 10, .int (-10), .int 99, .int 100, .int (-7), .int (10 ^ (18 : Int).toNat), .int (10 ^ (59 : Int).toNat), .int (10 ^ (60 : Int).toNat - 1), .int (1 - 10 ^ (60 : Int).toNat), .int (0 - 10 ^ (59 : Int).toNat), .int 60])
  have hP : ∀ d ∈ ([.int 0, .int 1, .int (-1), .int 9, .int 10, .int (-10), .int 99, .int 100, .int (-7), .int (10 ^ (18 : Int).toNat), .int (10 ^ (59 : Int).toNat), .int (10 ^ (60 : Int).toNat - 1), .int (1 - 10 ^ (60 : Int).toNat), .int (0 - 10 ^ (59 : Int).toNat), .int 60] : List D), ∃ i : Int, d = .int i ∧ i.natAbs < 10 ^ 60 := by
    intro d hd
    simp only [List.mem_cons, List.not_mem_nil, or_false] at hd
    rcases hd with rfl | rfl | rfl | rfl | rfl | rfl | rfl | rfl | rfl | rfl | rfl | rfl | rfl | rfl | rfl <;> exact ⟨_, rfl, by decide⟩
  have hl : (([.int 0, .int 1, .int (-1), .int 9, .int 10, .int (-10), .int 99, .int 100, .int (-7), .int (10 ^ (18 : Int).toNat), .int (10 ^ (59 : Int).toNat), .int (10 ^ (60 : Int).toNat - 1), .int (1 - 10 ^ (60 : Int).toNat), .int (0 - 10 ^ (59 : Int).toNat), .int 60] : List D).length : Int) = 15 := rfl
  generalize ([.int 0, .int 1, .int (-1), .int 9, .int 10, .int (-10), .int 99, .int 100, .int (-7), .int (10 ^ (18 : Int).toNat), .int (10 ^ (59 : Int).toNat), .int (10 ^ (60 : Int).toNat - 1), .int (1 - 10 ^ (60 : Int).toNat), .int (0 - 10 ^ (59 : Int).toNat), .int 60] : List D) = L at *
  have er2 := x2.seq er
  have x12 := x1.trans x2
  generalize s1.length = n3 at *
  generalize s1 ++ [O.lst L] = s2 at *
  clear er x1 x2
  refine w_ixS er2 g0 ?_
  repeat walk_at "rk"
  refine br_d (fun z1 => ?_) (fun z1 => ?_)
  · repeat walk_at "rk"
    refine br_d (fun z2 => ?_) (fun z2 => ?_)
    · repeat walk_at "rk"
      refine w_ixS er2 g1 ?_
      repeat walk_at "rk"
      refine w_ixLit hM (by rw [hl]; exact RI.In.mod (by decide)) hP ?_
      rintro _ ⟨i, rfl, hi⟩
      exact ⟨lf_int hi, x12⟩
    · repeat walk_at "rk"
      refine w_ixS er2 g1 ?_
      repeat walk_at "rk"
      have q := RI.In.mod (a := c1) (m := 60) (by decide)
      have q0 := RI.In.mod (a := c0) (m := 9) (by decide)
      unfold RI.In at q q0
      rw [show 1 + c1.fmod 60 = ((1 + (c1.fmod 60).toNat : Nat) : Int) by omega]
      have x3 := Ext.new1 s2 (.lst [.int 1, .int 2, .int ((1 + (c1.fmod 60).toNat : Nat) : Int)])
      have er3 := x3.seq er2
      refine w_ixS er3 g0 ?_
      repeat walk_at "rk"
      refine w_ixLit (get_new _ _) ⟨by omega, by show _ < (3 : Int); omega⟩ (P := fun d => ∃ m : Nat, d = .int (m : Int) ∧ m ≤ 60) (by
        intro d hd
        simp only [List.mem_cons, List.not_mem_nil, or_false] at hd
        rcases hd with rfl | rfl | rfl
        · exact ⟨1, rfl, by omega⟩
        · exact ⟨2, rfl, by omega⟩
        · exact ⟨_, rfl, by omega⟩) ?_
      rintro _ ⟨m, rfl, lm⟩
      repeat walk_at "rk"
      refine call_L_number (w_get (number_ok (k := k + 1) ⟨rl, er3, lr, fr⟩ lm) ?_)
      rintro _ s4 ⟨⟨i, rfl, hi⟩, rfl⟩
      exact ⟨lf_int hi, x12.trans x3⟩
  repeat walk_at "rk"
  refine w_ixS er2 g0 ?_
  repeat walk_at "rk"
  refine br_d (fun z2 => ?_) (fun z2 => ?_)
  · repeat walk_at "rk"
    have x3 := Ext.new1 s2 (.lst [.bl true, .bl false, .non])
    have er3 := x3.seq er2
    refine w_ixS er3 g1 ?_
    repeat walk_at "rk"
    refine w_ixLit (get_new _ _) (RI.In.mod (by decide)) (P := Lf) (by
      intro d hd
      simp only [List.mem_cons, List.not_mem_nil, or_false] at hd
      rcases hd with rfl | rfl | rfl
      · exact ⟨.bl, by decide⟩
      · exact ⟨.bl, by decide⟩
      · exact ⟨.non, by decide⟩) ?_
    intro d hd
    exact ⟨hd, x12.trans x3⟩
  · repeat walk_at "rk"
    refine call_L_string (w_get (string_ok (k := k) ⟨rl, er2, lr, fr⟩) ?_)
    rintro v s3 ⟨sv, x3⟩
    exact ⟨lf_str sv, x12.trans x3⟩
end RK66
set_option maxRecDepth 100000
set_option maxHeartbeats 4000000
set_option exponentiation.threshold 10000
namespace RK66
open PySem L2 RI TL
local macro_rules | `(tactic| walk_at "ri") => `(tactic| first
  | with_reducible refine f_cons ?_
  | with_reducible refine f_nil ?_
  | with_reducible refine f_asg ?_
  | with_reducible refine f_ret ?_
  | with_reducible refine f_ife ?_
  | with_reducible refine f_expr ?_
  | with_reducible refine f_raise ?_
  | with_reducible refine f_brk ?_
  | with_reducible refine f_try ?_
  | with_reducible refine w_c ?_
  | ((with_reducible apply w_var); exact rfl)
  | with_reducible refine w_nil ?_
  | with_reducible refine w_cons ?_
  | with_reducible refine w_tup ?_
  | with_reducible refine w_tupK rfl ?_
  | with_reducible refine w_lst ?_
  | with_reducible refine w_lstK rfl ?_
  | with_reducible refine w_bin ?_
  | with_reducible refine w_add ?_
  | with_reducible refine w_sub ?_
  | with_reducible refine w_neg ?_
  | with_reducible refine w_negK ?_
  | with_reducible refine w_cmp ?_
  | with_reducible refine w_lt ?_
  | with_reducible refine w_le ?_
  | with_reducible refine w_gt ?_
  | with_reducible refine w_ge ?_
  | with_reducible refine w_eqI ?_
  | with_reducible refine w_neI ?_
  | with_reducible refine w_eqB ?_
  | with_reducible refine w_neB ?_
  | with_reducible refine w_trB ?_
  | with_reducible refine w_trI ?_
  | with_reducible refine w_and ?_
  | with_reducible refine w_or ?_
  | with_reducible refine w_not ?_
  | with_reducible refine w_ite ?_
  | with_reducible refine w_ix ?_
  | ((with_reducible apply w_ixS); (first | assumption | exact rfl); exact rfl)
  | with_reducible refine w_call ?_
  | with_reducible refine w_callk ?_
  | with_reducible refine w_bi ?_
  | with_reducible refine w_abs ?_
  | with_reducible refine w_gcd ?_
  | with_reducible refine w_intI ?_
  | with_reducible refine w_intB ?_
  | with_reducible refine w_isi ?_
  | ((with_reducible refine w_isiK_t ?_ ?_); focus (exact rfl))
  | ((with_reducible refine w_isiK_f ?_ ?_); focus (exact rfl))
  | with_reducible refine br_n ?_
  | with_reducible refine br_t ?_
  | with_reducible refine br_f ?_
  | with_reducible refine f_cnt ?_
  | with_reducible refine f_pass ?_
  | with_reducible refine f_retN ?_
  | with_reducible refine w_truM ?_
  | with_reducible refine w_irng ?_
  | with_reducible refine w_iseq ?_
  | with_reducible refine w_dic ?_
  | with_reducible refine w_meth ?_
  | with_reducible refine w_dic0T ?_
  | with_reducible refine w_dic0K ?_
  | with_reducible refine w_isis ?_
  | with_reducible refine f_setiG ?_
  | with_reducible refine w_tupleT ?_
  | ((with_reducible refine w_mod ?_ ?_); (focus decide))
  | ((with_reducible refine w_pow ?_ ?_); (focus decide))
  | ((with_reducible refine w_fdiv ?_ ?_ ?_); (focus decide); (focus (exact Bd.fits (n := 120) (Bd.lit (by decide)) (by decide))))
  | with_reducible refine w_isN ?_
  | with_reducible refine w_isNN ?_
  | ((with_reducible apply w_exis_t); exact rfl; exact rfl; exact rfl)
  | ((with_reducible apply w_exis_f); exact rfl; exact rfl; exact rfl)
  | ((with_reducible apply w_glob); exact rfl)
  | with_reducible refine w_chn ?_
  | with_reducible refine w_sl ?_
  | with_reducible refine w_part0 ?_
  | with_reducible refine w_part1 ?_
  | with_reducible refine w_slT ?_)
local macro_rules | `(tactic| walk_at "bd") => `(tactic| first
  | with_reducible assumption
  | with_reducible exact In.bd60 (by assumption)
  | with_reducible exact Bd.bool _
  | ((with_reducible apply Bd.modL); (focus decide); (walk_at "bd"))
  | ((with_reducible apply Bd.fdivL); (focus decide); (walk_at "bd"))
  | ((with_reducible apply Bd.abs); (walk_at "bd"))
  | with_reducible exact Bd.pow (by decide)
  | ((with_reducible apply Bd.mul); (focus (walk_at "bd")); (focus (walk_at "bd")))
  | ((with_reducible apply Bd.addM); (focus (walk_at "bd")); (focus (walk_at "bd")))
  | ((with_reducible apply Bd.subM); (focus (walk_at "bd")); (focus (walk_at "bd")))
  | ((with_reducible apply Bd.neg); (walk_at "bd"))
  | exact Bd.lit (n := 128) (by decide))
local macro_rules | `(tactic| walk_at "fit") => `(tactic| ((with_reducible apply Bd.fits); (focus (walk_at "bd")); (focus decide)))
local macro_rules | `(tactic| walk_at "rk") => `(tactic| first
  | walk_at "ri"
  | ((with_reducible refine w_mul ?_ ?_ ?_); (focus (walk_at "fit")); (focus (walk_at "fit")))
  | ((with_reducible refine w_ixR (by assumption) ?_ ?_); (focus (first | decide | omega | assumption)); (intro _ _)))
variable {k : Nat} {s : Store} {X : Exn → Store → Prop}
/-- the list of levels, each a list of its own -/
structure Lv (s : Store) (b nl : Nat) (rs : List Nat) (its : List (List D)) : Prop where
  at_ : s[nl]? = some (.lst (rs.map D.ref))
  len : rs.length = its.length
  it : ∀ (i r : Nat) (l : List D), rs[i]? = some r → its[i]? = some l → s[r]? = some (.lst l)
  out : nl ∉ rs
  nd : rs.Nodup
  lo : ∀ r ∈ rs, b ≤ r
  lb : b ≤ nl
theorem Lv.ext {s' : Store} {b nl : Nat} {rs : List Nat} {its : List (List D)} (h : Lv s b nl rs its) (x : Ext s s') : Lv s' b nl rs its :=
  ⟨x.get h.at_, h.len, fun i r l e1 e2 => x.get (h.it i r l e1 e2), h.out, h.nd, h.lo, h.lb⟩
theorem Lv.old {b nl : Nat} {rs : List Nat} {its : List (List D)} (h : Lv s b nl rs its) : nl < s.length ∧ ∀ r ∈ rs, r < s.length := by
  refine ⟨(List.getElem?_eq_some_iff.mp h.at_).1, fun r hr => ?_⟩
  obtain ⟨i, hi⟩ := List.mem_iff_getElem?.mp hr
  have := (List.getElem?_eq_some_iff.mp hi).1
  have lt : i < its.length := by rw [← h.len]; exact this
  have e2 : its[i]? = some its[i] := List.getElem?_eq_getElem lt
  exact (List.getElem?_eq_some_iff.mp (h.it i r _ hi e2)).1
theorem Lv.snoc {b nl : Nat} {rs : List Nat} {its : List (List D)} (h : Lv s b nl rs its) (n : 1 ≤ its.length) : ∃ R r I l, rs = R ++ [r] ∧ its = I ++ [l] ∧ R.length = I.length := by
  have h1 : rs ≠ [] := by
    intro e
    have := h.len
    rw [e, List.length_nil] at this
    omega
  have h2 : its ≠ [] := by
    intro e
    rw [e, List.length_nil] at n
    omega
  refine ⟨rs.dropLast, rs.getLast h1, its.dropLast, its.getLast h2, (List.dropLast_concat_getLast h1).symm, (List.dropLast_concat_getLast h2).symm, ?_⟩
  rw [List.length_dropLast, List.length_dropLast, h.len]
theorem Lv.push {b nl : Nat} {rs : List Nat} {its : List (List D)} (h : Lv s b nl rs its) (hb : b ≤ s.length) : Lv ((s ++ [O.lst []]).set nl (O.lst (rs.map D.ref ++ [D.ref s.length]))) b nl (rs ++ [s.length]) (its ++ [[]]) := by
  obtain ⟨o1, o2⟩ := h.old
  have nn : s.length ∉ rs := fun m => Nat.lt_irrefl _ (o2 _ m)
  refine ⟨?_, by rw [List.length_append, List.length_append, h.len]; rfl, ?_, ?_, ?_, ?_, h.lb⟩
  · rw [List.getElem?_set_self (by rw [List.length_append]; omega), List.map_append]
    rfl
  · intro i r l e1 e2
    by_cases c : i < rs.length
    · rw [List.getElem?_append_left c] at e1
      rw [List.getElem?_append_left (by rw [← h.len]; exact c)] at e2
      have m := List.mem_of_getElem? e1
      have : nl ≠ r := fun e => h.out (e ▸ m)
      rw [List.getElem?_set_ne this, List.getElem?_append_left (o2 r m)]
      exact h.it i r l e1 e2
    · have ei : i = rs.length := by
        have := (List.getElem?_eq_some_iff.mp e1).1
        rw [List.length_append, List.length_singleton] at this
        omega
      subst ei
      rw [List.getElem?_append_right (Nat.le_refl _), Nat.sub_self] at e1
      rw [List.getElem?_append_right (by rw [h.len]; exact Nat.le_refl _), h.len, Nat.sub_self] at e2
      cases e1
      cases e2
      rw [List.getElem?_set_ne (by omega), get_new]
  · intro m
    rcases List.mem_append.mp m with m | m
    · exact h.out m
    · have := List.mem_singleton.mp m
      omega
  · rw [List.nodup_append]
    exact ⟨h.nd, by simp, fun a ha c hc => by
      rw [List.mem_singleton.mp hc]
      exact fun e => nn (e ▸ ha)⟩
  · intro r m
    rcases List.mem_append.mp m with m | m
    · exact h.lo r m
    · rw [List.mem_singleton.mp m]
      exact hb
theorem Lv.last {b nl r : Nat} {R : List Nat} {I : List (List D)} {l : List D} (h : Lv s b nl (R ++ [r]) (I ++ [l])) (e : R.length = I.length) : s[r]? = some (.lst l) ∧ b ≤ r ∧ r ≠ nl := by
  refine ⟨h.it R.length r l (by simp) (by rw [e]; simp), h.lo r (by simp), fun q => h.out (by rw [← q]; simp)⟩
theorem Lv.app {b nl r : Nat} {R : List Nat} {I : List (List D)} {l m : List D} (h : Lv s b nl (R ++ [r]) (I ++ [l])) (e : R.length = I.length) : Lv (s.set r (.lst m)) b nl (R ++ [r]) (I ++ [m]) := by
  obtain ⟨h1, h2, h3⟩ := h.last e
  have nr : r ∉ R := by
    have := h.nd
    rw [List.nodup_append] at this
    intro q
    exact this.2.2 r q r (by simp) rfl
  refine ⟨by rw [List.getElem?_set_ne h3]; exact h.at_, by simp [e], ?_, h.out, h.nd, h.lo, h.lb⟩
  intro i r' l' e1 e2
  by_cases c : i < R.length
  · rw [List.getElem?_append_left c] at e1
    rw [List.getElem?_append_left (by omega)] at e2
    have : r ≠ r' := fun q => nr (by rw [q]; exact List.mem_of_getElem? e1)
    rw [List.getElem?_set_ne this]
    exact h.it i r' l' (by rw [List.getElem?_append_left c]; exact e1) (by rw [List.getElem?_append_left (by omega)]; exact e2)
  · have ei : i = R.length := by
      have := (List.getElem?_eq_some_iff.mp e1).1
      rw [List.length_append, List.length_singleton] at this
      omega
    subst ei
    rw [List.getElem?_append_right (Nat.le_refl _), Nat.sub_self] at e1
    rw [List.getElem?_append_right (by omega), e, Nat.sub_self] at e2
    cases e1
    cases e2
    rw [List.getElem?_set_self (List.getElem?_eq_some_iff.mp h1).1]
theorem Lv.pop {b nl r : Nat} {R : List Nat} {I : List (List D)} {l : List D} (h : Lv s b nl (R ++ [r]) (I ++ [l])) (e : R.length = I.length) : Lv (s.set nl (.lst (R.map D.ref))) b nl R I := by
  refine ⟨by rw [List.getElem?_set_self h.old.1], e, ?_, fun m => h.out (List.mem_append_left _ m), ?_, fun r m => h.lo r (List.mem_append_left _ m), h.lb⟩
  · intro i r' l' e1 e2
    have c := (List.getElem?_eq_some_iff.mp e1).1
    have m := List.mem_of_getElem? e1
    rw [List.getElem?_set_ne (fun q => h.out (by rw [q]; exact List.mem_append_left _ m))]
    exact h.it i r' l' (by rw [List.getElem?_append_left c]; exact e1) (by rw [List.getElem?_append_left (by omega)]; exact e2)
  · have := h.nd
    rw [List.nodup_append] at this
    exact this.1
/-! ### what the levels hold -/
def szL (l : List D) : Nat := (l.map fun d => (noteL d).length + 1).sum
def szA (its : List (List D)) : Nat := (its.map fun l => 3 + szL l).sum
structure Gd (dn : Nat) (its : List (List D)) (j : Nat) : Prop where
  dep : ∀ (i : Nat) (l : List D), its[i]? = some l → ∀ d ∈ l, Nv (dn - 1 - i) d
  sz : szA its ≤ 410 * j + 3
  cn : (its.map List.length).sum ≤ j
  ne : 1 ≤ j → (∃ l r, its = l :: r ∧ l ≠ []) ∨ 2 ≤ its.length
  l1 : 1 ≤ its.length
  l40 : its.length ≤ dn
theorem szL_app (l m : List D) : szL (l ++ m) = szL l + szL m := by unfold szL; rw [List.map_append, List.sum_append]
theorem szA_app (l m : List (List D)) : szA (l ++ m) = szA l + szA m := by unfold szA; rw [List.map_append, List.sum_append]
theorem szA_one (l : List D) : szA [l] = 3 + szL l := by simp [szA]
theorem szL_one (d : D) : szL [d] = (noteL d).length + 1 := by simp [szL]
theorem tup_len (l : List D) : (noteL (.tup l)).length ≤ 2 + szL l := by
  rw [note_tup]
  have h := join_len [32] (l.map noteL)
  have e : ((l.map noteL).map List.length).sum + (l.map noteL).length = szL l := by
    unfold szL
    rw [List.map_map, List.length_map]
    induction l with
    | nil => rfl
    | cons d l ih =>
      simp only [List.map_cons, List.sum_cons, List.length_cons, Function.comp] at ih ⊢
      have := ih (join_len [32] (l.map noteL))
      omega
  simp only [List.length_cons, List.length_append, List.length_nil] at h ⊢
  omega
theorem Gd.push {dn dm : Nat} {its : List (List D)} {j : Nat} (h : Gd dn its j) (c : its.length + 1 ≤ dm) (dd : dn ≤ dm) : Gd dm (its ++ [[]]) (j + 1) := by
  have l1 := h.l1
  refine ⟨fun i l e d hd => ?_, ?_, ?_, fun _ => .inr (by rw [List.length_append, List.length_singleton]; omega), by rw [List.length_append, List.length_singleton]; omega, by rw [List.length_append, List.length_singleton]; omega⟩
  · by_cases q : i < its.length
    · rw [List.getElem?_append_left q] at e
      exact (h.dep i l e d hd).mono (by omega)
    · rw [List.getElem?_append_right (by omega)] at e
      have : l = [] := by
        cases hh : i - its.length with
        | zero => rw [hh] at e; cases e; rfl
        | succ n => rw [hh] at e; simp at e
      subst this
      cases hd
  · rw [szA_app, szA_one]
    have := h.sz
    have : szL [] = 0 := rfl
    omega
  · have := h.cn
    rw [List.map_append, List.sum_append]
    simp
    omega
theorem Gd.at_last {dn : Nat} {I : List (List D)} {l : List D} {j : Nat} (h : Gd dn (I ++ [l]) j) : (∀ d ∈ l, Nv (dn - 1 - I.length) d) ∧ I.length + 1 ≤ dn := by
  have := h.l40
  rw [List.length_append, List.length_singleton] at this
  exact ⟨h.dep I.length l (by simp), by omega⟩
theorem Gd.app {dn : Nat} {I : List (List D)} {l : List D} {j : Nat} {d : D} (h : Gd dn (I ++ [l]) j) (n : Nv (dn - 1 - I.length) d) (c : (noteL d).length ≤ 403) : Gd dn (I ++ [l ++ [d]]) (j + 1) := by
  have l40 := h.l40
  rw [List.length_append, List.length_singleton] at l40
  refine ⟨fun i m e y hy => ?_, ?_, ?_, fun _ => ?_, by simp, by simpa using l40⟩
  · by_cases q : i < I.length
    · rw [List.getElem?_append_left q] at e
      exact h.dep i m (by rw [List.getElem?_append_left q]; exact e) y hy
    · have ei : i = I.length := by
        have := (List.getElem?_eq_some_iff.mp e).1
        rw [List.length_append, List.length_singleton] at this
        omega
      subst ei
      have e : m = l ++ [d] := by simpa using e.symm
      subst e
      rcases List.mem_append.mp hy with hy | hy
      · exact h.at_last.1 y hy
      · rw [List.mem_singleton.mp hy]
        exact n
  · have := h.sz
    rw [szA_app, szA_one] at this ⊢
    rw [szL_app, szL_one]
    omega
  · have := h.cn
    rw [List.map_append, List.sum_append] at this ⊢
    simp at this ⊢
    omega
  · cases I with
    | nil => exact .inl ⟨_, [], rfl, by simp⟩
    | cons a I => exact .inr (by simp)
theorem Gd.close {dn : Nat} {I : List (List D)} {l m : List D} {j : Nat} (h : Gd dn (I ++ [l] ++ [m]) j) : Gd dn (I ++ [l ++ [.tup m]]) (j + 1) := by
  have l40 := h.l40
  simp only [List.length_append, List.length_singleton] at l40
  have hm := h.at_last
  rw [List.length_append, List.length_singleton] at hm
  have hl : ∀ d ∈ l, Nv (dn - 1 - I.length) d := h.dep I.length l (by simp)
  have nt : Nv (dn - 1 - I.length) (.tup m) := by
    rw [show dn - 1 - I.length = (dn - 1 - (I.length + 1)) + 1 by omega]
    exact .tup hm.1
  refine ⟨fun i q e y hy => ?_, ?_, ?_, fun _ => ?_, by simp, by simp; omega⟩
  · by_cases c : i < I.length
    · rw [List.getElem?_append_left c] at e
      exact h.dep i q (by rw [List.append_assoc, List.getElem?_append_left c]; exact e) y hy
    · have ei : i = I.length := by
        have := (List.getElem?_eq_some_iff.mp e).1
        rw [List.length_append, List.length_singleton] at this
        omega
      subst ei
      have e : q = l ++ [.tup m] := by simpa using e.symm
      subst e
      rcases List.mem_append.mp hy with hy | hy
      · exact hl y hy
      · rw [List.mem_singleton.mp hy]
        exact nt
  · have := h.sz
    have t := tup_len m
    rw [szA_app, szA_app, szA_one, szA_one] at this
    rw [szA_app, szA_one, szL_app, szL_one]
    omega
  · have := h.cn
    simp only [List.map_append, List.sum_append, List.map_cons, List.map_nil, List.sum_cons, List.sum_nil, List.length_append, List.length_singleton] at this ⊢
    omega
  · cases I with
    | nil => exact .inl ⟨_, [], rfl, by simp⟩
    | cons a I => exact .inr (by simp)
end RK66
set_option maxRecDepth 100000
set_option maxHeartbeats 4000000
set_option exponentiation.threshold 10000
namespace RK66
open PySem L2 RI TL
local macro_rules | `(tactic| walk_at "ri") => `(tactic| first
  | with_reducible refine f_cons ?_
  | with_reducible refine f_nil ?_
  | with_reducible refine f_asg ?_
  | with_reducible refine f_ret ?_
  | with_reducible refine f_ife ?_
  | with_reducible refine f_expr ?_
  | with_reducible refine f_raise ?_
  | with_reducible refine f_brk ?_
  | with_reducible refine f_try ?_
  | with_reducible refine w_c ?_
  | ((with_reducible apply w_var); exact rfl)
  | with_reducible refine w_nil ?_
  | with_reducible refine w_cons ?_
  | with_reducible refine w_tup ?_
  | with_reducible refine w_tupK rfl ?_
  | with_reducible refine w_lst ?_
  | with_reducible refine w_lstK rfl ?_
  | with_reducible refine w_bin ?_
  | with_reducible refine w_add ?_
  | with_reducible refine w_sub ?_
  | with_reducible refine w_neg ?_
  | with_reducible refine w_negK ?_
  | with_reducible refine w_cmp ?_
  | with_reducible refine w_lt ?_
  | with_reducible refine w_le ?_
  | with_reducible refine w_gt ?_
  | with_reducible refine w_ge ?_
  | with_reducible refine w_eqI ?_
  | with_reducible refine w_neI ?_
  | with_reducible refine w_eqB ?_
  | with_reducible refine w_neB ?_
  | with_reducible refine w_trB ?_
  | with_reducible refine w_trI ?_
  | with_reducible refine w_and ?_
  | with_reducible refine w_or ?_
  | with_reducible refine w_not ?_
  | with_reducible refine w_ite ?_
  | with_reducible refine w_ix ?_
  | ((with_reducible apply w_ixS); (first | assumption | exact rfl); exact rfl)
  | with_reducible refine w_call ?_
  | with_reducible refine w_callk ?_
  | with_reducible refine w_bi ?_
  | with_reducible refine w_abs ?_
  | with_reducible refine w_gcd ?_
  | with_reducible refine w_intI ?_
  | with_reducible refine w_intB ?_
  | with_reducible refine w_isi ?_
  | ((with_reducible refine w_isiK_t ?_ ?_); focus (exact rfl))
  | ((with_reducible refine w_isiK_f ?_ ?_); focus (exact rfl))
  | with_reducible refine br_n ?_
  | with_reducible refine br_t ?_
  | with_reducible refine br_f ?_
  | with_reducible refine f_cnt ?_
  | with_reducible refine f_pass ?_
  | with_reducible refine f_retN ?_
  | with_reducible refine w_truM ?_
  | with_reducible refine w_irng ?_
  | with_reducible refine w_iseq ?_
  | with_reducible refine w_dic ?_
  | with_reducible refine w_meth ?_
  | with_reducible refine w_dic0T ?_
  | with_reducible refine w_dic0K ?_
  | with_reducible refine w_isis ?_
  | with_reducible refine f_setiG ?_
  | with_reducible refine w_tupleT ?_
  | ((with_reducible refine w_mod ?_ ?_); (focus decide))
  | ((with_reducible refine w_pow ?_ ?_); (focus decide))
  | ((with_reducible refine w_fdiv ?_ ?_ ?_); (focus decide); (focus (exact Bd.fits (n := 120) (Bd.lit (by decide)) (by decide))))
  | with_reducible refine w_isN ?_
  | with_reducible refine w_isNN ?_
  | ((with_reducible apply w_exis_t); exact rfl; exact rfl; exact rfl)
  | ((with_reducible apply w_exis_f); exact rfl; exact rfl; exact rfl)
  | ((with_reducible apply w_glob); exact rfl)
  | with_reducible refine w_chn ?_
  | with_reducible refine w_sl ?_
  | with_reducible refine w_part0 ?_
  | with_reducible refine w_part1 ?_
  | with_reducible refine w_slT ?_)
local macro_rules | `(tactic| walk_at "bd") => `(tactic| first
  | with_reducible assumption
  | with_reducible exact In.bd60 (by assumption)
  | with_reducible exact Bd.bool _
  | ((with_reducible apply Bd.modL); (focus decide); (walk_at "bd"))
  | ((with_reducible apply Bd.fdivL); (focus decide); (walk_at "bd"))
  | ((with_reducible apply Bd.abs); (walk_at "bd"))
  | with_reducible exact Bd.pow (by decide)
  | ((with_reducible apply Bd.mul); (focus (walk_at "bd")); (focus (walk_at "bd")))
  | ((with_reducible apply Bd.addM); (focus (walk_at "bd")); (focus (walk_at "bd")))
  | ((with_reducible apply Bd.subM); (focus (walk_at "bd")); (focus (walk_at "bd")))
  | ((with_reducible apply Bd.neg); (walk_at "bd"))
  | exact Bd.lit (n := 128) (by decide))
local macro_rules | `(tactic| walk_at "fit") => `(tactic| ((with_reducible apply Bd.fits); (focus (walk_at "bd")); (focus decide)))
local macro_rules | `(tactic| walk_at "rk") => `(tactic| first
  | walk_at "ri"
  | ((with_reducible refine w_mul ?_ ?_ ?_); (focus (walk_at "fit")); (focus (walk_at "fit")))
  | ((with_reducible refine w_ixR (by assumption) ?_ ?_); (focus (first | decide | omega | assumption)); (intro _ _)))
variable {k : Nat} {s : Store} {X : Exn → Store → Prop}
section
variable {B : Tb} {ρ : RI.Env} {N Bk Ct : RI.Env → Store → Prop} {R : D → Store → Prop} {Y : Exn → RI.Env → Store → Prop} {s0 : Store}
/-- levels[len(levels) - 1] -/
theorem w_top {i b nl r : Nat} {Rs : List Nat} {I : List (List D)} {l : List D} {Q : D → Store → Prop} (hi : ρ[i]? = some (some (.ref nl))) (h : Lv s b nl (Rs ++ [r]) (I ++ [l])) (lI : I.length ≤ 1000) (q : Q (.ref r) s) : wp (ev B (.ix (.var i) (.bin .Sub (.bi .len (Es.of [.var i])) (.c (.int 1)))) ρ s) Q X := by
  have hn : seqOf s (.ref nl) = some ((Rs ++ [r]).map D.ref) := seq_ref h.at_
  refine w_ix (w_var hi ?_)
  refine w_bin (w_bi (w_cons (w_var hi (w_nil ?_))))
  refine w_len hn ?_
  refine w_c (w_sub ?_)
  have e : (((Rs ++ [r]).map D.ref).length : Int) - 1 = ((Rs.length : Nat) : Int) := by simp
  rw [e]
  refine w_ixS hn (RI.atI_nat ?_) q
  rw [List.getElem?_map]
  simp
/-- a level is closed: v := tuple(levels.pop()), levels[-1].append(v) -/
theorem f_close {dn i v b nl : Nat} {rs : List Nat} {its : List (List D)} {j : Nat} (hi : ρ[i]? = some (some (.ref nl))) (hv : v < ρ.length) (vi : v ≠ i) (h : Lv s b nl rs its) (g : Gd dn its j) (dc : dn ≤ 40) (c : 2 ≤ its.length) (x : Ext s0 s) (lb : s0.length ≤ b) (hj : j ≤ 1000)
    (out : ∀ (rs' : List Nat) (its' : List (List D)) (y : D) (s' : Store), Lv s' b nl rs' its' → Gd dn its' (j + 1) → its'.length + 1 = its.length → Ext s0 s' → N (ρ.set v (some y)) s') :
    wf (exSs B (Ss.of [.asg (.name v) (.bi .tuple (Es.of [.meth (.var i) .pop (Es.of [])])), .expr (.meth (.ix (.var i) (.bin .Sub (.bi .len (Es.of [.var i])) (.c (.int 1)))) .append (Es.of [.var v]))]) ρ s) N R Bk Ct Y := by
  obtain ⟨R1, r, I1, m, rfl, rfl, e1⟩ := h.snoc (by omega)
  have c1 : 1 ≤ I1.length := by rw [List.length_append, List.length_singleton] at c; omega
  have h1 := h.last e1
  have hp := h.pop e1
  obtain ⟨R2, r2, I2, l, rfl, rfl, e2⟩ := hp.snoc c1
  have l40 := g.l40
  simp only [List.length_append, List.length_singleton] at l40
  refine f_cons (f_asg ?_)
  refine w_bi (w_cons (w_meth (w_var hi ⟨rcv_lst h.at_, ?_⟩)))
  refine w_nil (w_popK (d := .ref r) h.at_ (by simp) ?_)
  rw [List.map_append, List.map_cons, List.map_nil, List.dropLast_concat]
  refine w_nil ?_
  have hr : (s.set nl (.lst ((R2 ++ [r2]).map D.ref)))[r]? = some (.lst m) := by rw [List.getElem?_set_ne (fun e => h1.2.2 e.symm)]; exact h1.1
  have x2 : Ext s0 (s.set nl (.lst ((R2 ++ [r2]).map D.ref))) := x.set (by have := h.lb; omega)
  generalize s.set nl (.lst ((R2 ++ [r2]).map D.ref)) = s2 at *
  refine w_tuple (lst_at hr) ?_
  refine f_cons (f_expr ?_)
  have hi2 : (ρ.set v (some (.tup m)))[i]? = some (some (.ref nl)) := by rw [List.getElem?_set_ne vi]; exact hi
  refine w_meth (w_top hi2 hp (by omega) ⟨rcv_lst (hp.last e2).1, ?_⟩)
  refine w_cons (w_var (d := .tup m) (by rw [List.getElem?_set_self hv]) (w_nil ?_))
  have cn := g.cn
  refine w_appK (hp.last e2).1 ?_ ?_
  · simp only [List.map_append, List.sum_append, List.map_cons, List.map_nil, List.sum_cons, List.sum_nil] at cn
    unfold most
    omega
  refine f_nil (out _ _ _ _ (hp.app e2) g.close (by simp) (x2.set ?_))
  have := (hp.last e2).2.1
  omega
end
theorem tree_ok {d r : D} {m : Nat} {at_ mo : Nat} (hs : Scr s d) (hr : RowAt s r m 92) (h1 : 1 ≤ mo) (h2 : mo ≤ 47) (h3 : mo < m) (h4 : at_ + mo ≤ 69) : wp (runD tab (k + 5) d_law_tree [d, r, .int (at_ : Int), .int (mo : Int)] s) (fun v s' => Ext s s' ∧ ∃ (n : Nat) (l : List D) (dn : Nat), v = .ref n ∧ s'[n]? = some (.lst [.tup l, .int (dn : Int)]) ∧ 1 ≤ dn ∧ dn ≤ 40 ∧ (∀ d ∈ l, Nv (dn - 1) d) ∧ szL l ≤ 36000 ∧ l.length ≤ 100 ∧ l ≠ []) X := by
  refine run_L_tree ?_
  dsimp only [d_law_tree]
  repeat walk_at "rk"
  have x0 := (Ext.new1 s (.lst [])).trans (Ext.new1 (s ++ [O.lst []]) (.lst [.ref s.length]))
  have el : (s ++ [O.lst []]).length = s.length + 1 := by simp
  have lv0 : Lv (s ++ [O.lst []] ++ [O.lst [.ref s.length]]) s.length (s.length + 1) [s.length] [[]] := by
    refine ⟨?_, rfl, fun i r l e1 e2 => ?_, by simp, by simp, by simp, by omega⟩
    · rw [← el]
      exact get_new _ _
    · cases i with
      | zero =>
        cases e1
        cases e2
        exact (Ext.new1 _ _).get (get_new _ _)
      | succ i => simp at e1
  have gd0 : Gd 1 [[]] 0 := ⟨fun i l e d hd => by
      cases i with
      | zero => cases e; cases hd
      | succ i => simp at e, by simp [szA, szL], by simp, fun h => by omega, by simp, by simp⟩
  rw [el]
  generalize hnl : s.length + 1 = nl at *
  generalize s ++ [O.lst []] ++ [O.lst [.ref s.length]] = s1 at *
  have hr1 := hr.ext x0
  dsimp only [List.set]
  refine f_rng ?_
  repeat walk_at "rk"
  rename_i c0 hc0
  refine w_mod (by omega) ?_
  have fm := fmod_bd (a := c0) (b := (mo : Int)) (by omega)
  generalize c0.fmod (mo : Int) = u at *
  obtain ⟨tn, et⟩ : ∃ tn : Nat, 1 + u = (tn : Int) := ⟨(1 + u).toNat, by omega⟩
  have t1 : 1 ≤ tn := by omega
  have t2 : tn ≤ mo := by omega
  repeat walk_at "rk"
  rw [et]
  refine ⟨_, fun j ρ s' => ∃ (rs : List Nat) (its : List (List D)) (dp : Nat) (y6 y7 y8 : Option D), Lv s' s.length nl rs its ∧ Gd dp its j ∧ Ext s s' ∧ 1 ≤ dp ∧ dp ≤ 40 ∧ ρ = [some d, some r, some (.int (at_ : Int)), some (.int (mo : Int)), some (.ref nl), some (.int (dp : Int)), y6, y7, y8], rfl, by omega, ⟨_, _, 1, _, _, _, lv0, gd0, x0, by decide, by decide, rfl⟩, ?_, ?_⟩
  · rintro j ρ s' hj ⟨rs, its, dp, y6, y7, y8, lv, gd, xs, p1, p2, rfl⟩
    have hj : j < tn := by omega
    have hr2 := hr.ext xs
    have hs2 := hs.ext xs
    have slb : s.length ≤ s.length := Nat.le_refl _
    have j1 : j ≤ 1000 := by omega
    have l40 := gd.l40
    have ll1 := gd.l1
    have hn : seqOf s' (.ref nl) = some (rs.map D.ref) := seq_ref lv.at_
    have rl : ((rs.map D.ref).length : Int) = ((its.length : Nat) : Int) := by rw [List.length_map, lv.len]
    -- a leaf
    have leafC : ∀ {dg : Int} {N Bk Ct : RI.Env → Store → Prop} {R : D → Store → Prop} {Y : Exn → RI.Env → Store → Prop}, (∀ (rs : List Nat) (its : List (List D)) (s2 : Store), Lv s2 s.length nl rs its → Gd dp its (j + 1) → Ext s s2 → N [some d, some r, some (.int (at_ : Int)), some (.int (mo : Int)), some (.ref nl), some (.int (dp : Int)), some (.int (j : Int)), some (.int dg), y8] s2) →
        wf (exSs (tb tab (k + 4)) (Ss.of [.expr (.meth (.ix (.var 4) (.bin .Sub (.bi .len (Es.of [(.var 4)])) (.c (.int 1)))) .append (Es.of [(.call "_law_leaf" (Es.of [(.call "_law_cell" (Es.of [(.var 0), (.bin .Add (.var 2) (.var 6))]))]))]))]) [some d, some r, some (.int (at_ : Int)), some (.int (mo : Int)), some (.ref nl), some (.int (dp : Int)), some (.int (j : Int)), some (.int dg), y8] s') N R Bk Ct Y := by
      intro dg N Bk Ct R Y out
      obtain ⟨R1, q, I1, m1, rfl, rfl, e1⟩ := lv.snoc ll1
      rw [List.length_append, List.length_singleton] at l40
      refine f_cons (f_expr ?_)
      refine w_meth (w_top rfl lv (by omega) ⟨rcv_lst (lv.last e1).1, ?_⟩)
      repeat walk_at "rk"
      rw [show (at_ : Int) + (j : Int) = ((at_ + j : Nat) : Int) by omega]
      refine call_L_cell (w_get (cell_ok (k := k + 3) hs2 ⟨by omega, by omega⟩) ?_)
      rintro _ s' ⟨⟨c3, rfl⟩, rfl⟩
      repeat walk_at "rk"
      refine call_L_leaf (w_get (leaf_ok (k := k + 1)) ?_)
      rintro v s2 ⟨⟨nv, lnv⟩, x2⟩
      have lv2 := lv.ext x2
      have cn := gd.cn
      simp only [List.map_append, List.sum_append, List.map_cons, List.map_nil, List.sum_cons, List.sum_nil] at cn
      repeat walk_at "rk"
      refine w_appK (lv2.last e1).1 (by unfold most; omega) ?_
      refine f_nil (out _ _ _ (lv2.app e1) (gd.app (nv.mono (by omega)) lnv) ((xs.trans x2).set ?_))
      have := (lv2.last e1).2.1
      omega
    have closeB : ∀ {dg : Int} {N Bk Ct : RI.Env → Store → Prop} {R : D → Store → Prop} {Y : Exn → RI.Env → Store → Prop}, 2 ≤ its.length → (∀ (rs : List Nat) (its : List (List D)) (y : D) (s2 : Store), Lv s2 s.length nl rs its → Gd dp its (j + 1) → Ext s s2 → N [some d, some r, some (.int (at_ : Int)), some (.int (mo : Int)), some (.ref nl), some (.int (dp : Int)), some (.int (j : Int)), some (.int dg), some y] s2) →
        wf (exSs (tb tab (k + 4)) (Ss.of [.asg (.name 8) (.bi .tuple (Es.of [.meth (.var 4) .pop (Es.of [])])), .expr (.meth (.ix (.var 4) (.bin .Sub (.bi .len (Es.of [.var 4])) (.c (.int 1)))) .append (Es.of [.var 8]))]) [some d, some r, some (.int (at_ : Int)), some (.int (mo : Int)), some (.ref nl), some (.int (dp : Int)), some (.int (j : Int)), some (.int dg), y8] s') N R Bk Ct Y := by
      intro dg N Bk Ct R Y c out
      refine f_close (i := 4) (v := 8) rfl (by simp) (by decide) lv gd p2 c xs slb j1 ?_
      intro rs' its' y s2 lv2 gd2 _ x2
      exact out rs' its' y s2 lv2 gd2 x2
    dsimp only [List.set]
    repeat walk_at "rk"
    rename_i dg hdg
    refine br_d (fun z1 => ?_) (fun z1 => ?_)
    · repeat walk_at "rk"
      refine w_len hn ?_
      rw [rl]
      repeat walk_at "rk"
      refine br_d (fun z2 => ?_) (fun z2 => ?_)
      · repeat walk_at "rk"
        refine ⟨rcv_lst lv.at_, ?_⟩
        repeat walk_at "rk"
        refine w_appK ((Ext.new1 s' (.lst [])).get lv.at_) (by rw [List.length_map, lv.len]; unfold most; omega) ?_
        have lv2 := lv.push xs.len
        have x2 : Ext s ((s' ++ [O.lst []]).set nl (O.lst (rs.map D.ref ++ [D.ref s'.length]))) := (xs.trans (Ext.new1 s' (.lst []))).set lv.lb
        have gd2 := gd.push (dm := max dp (its.length + 1)) (by omega) (by omega)
        generalize (s' ++ [O.lst []]).set nl (O.lst (rs.map D.ref ++ [D.ref s'.length])) = s2 at *
        repeat walk_at "rk"
        refine w_len (seq_ref lv2.at_) ?_
        repeat walk_at "rk"
        refine w_max2 ?_
        have ln2 : (((rs ++ [s'.length]).map D.ref).length : Int) = ((its.length + 1 : Nat) : Int) := by rw [List.length_map, List.length_append, lv.len]; rfl
        rw [ln2]
        repeat walk_at "rk"
        have em : (if ((its.length + 1 : Nat) : Int) > (dp : Int) then ((its.length + 1 : Nat) : Int) else (dp : Int)) = ((max dp (its.length + 1) : Nat) : Int) := by split <;> omega
        rw [em]
        exact ⟨_, _, _, _, _, _, lv2, gd2, x2, by omega, by omega, rfl⟩
      · repeat walk_at "rk"
        refine br_d (fun z3 => ?_) (fun z3 => ?_)
        · repeat walk_at "rk"
          refine w_len hn ?_
          rw [rl]
          repeat walk_at "rk"
          refine br_d (fun z4 => ?_) (fun z4 => ?_)
          · refine closeB (by omega) fun rs2 its2 y s2 lv2 gd2 x2 => ?_
            repeat walk_at "rk"
            exact ⟨_, _, _, _, _, _, lv2, gd2, x2, p1, p2, rfl⟩
          · refine leafC fun rs2 its2 s2 lv2 gd2 x2 => ?_
            repeat walk_at "rk"
            exact ⟨_, _, _, _, _, _, lv2, gd2, x2, p1, p2, rfl⟩
        · repeat walk_at "rk"
          refine br_df z3 ?_
          refine leafC fun rs2 its2 s2 lv2 gd2 x2 => ?_
          repeat walk_at "rk"
          exact ⟨_, _, _, _, _, _, lv2, gd2, x2, p1, p2, rfl⟩
    · repeat walk_at "rk"
      refine br_df z1 ?_
      repeat walk_at "rk"
      refine br_d (fun z3 => ?_) (fun z3 => ?_)
      · repeat walk_at "rk"
        refine w_len hn ?_
        rw [rl]
        repeat walk_at "rk"
        refine br_d (fun z4 => ?_) (fun z4 => ?_)
        · refine closeB (by omega) fun rs2 its2 y s2 lv2 gd2 x2 => ?_
          repeat walk_at "rk"
          exact ⟨_, _, _, _, _, _, lv2, gd2, x2, p1, p2, rfl⟩
        · refine leafC fun rs2 its2 s2 lv2 gd2 x2 => ?_
          repeat walk_at "rk"
          exact ⟨_, _, _, _, _, _, lv2, gd2, x2, p1, p2, rfl⟩
      · repeat walk_at "rk"
        refine br_df z3 ?_
        refine leafC fun rs2 its2 s2 lv2 gd2 x2 => ?_
        repeat walk_at "rk"
        exact ⟨_, _, _, _, _, _, lv2, gd2, x2, p1, p2, rfl⟩
  · rintro ρ s2 ⟨rs, its, dp, y6, y7, y8, lv, gd, xs, p1, p2, rfl⟩
    rw [Int.toNat_natCast] at gd
    have slb : s.length ≤ s.length := Nat.le_refl _
    repeat walk_at "rk"
    refine f_rng ?_
    repeat walk_at "rk"
    refine w_len (seq_ref lv.at_) ?_
    have l40 := gd.l40
    have ll1 := gd.l1
    rw [List.length_map, lv.len]
    repeat walk_at "rk"
    rw [show ((its.length : Nat) : Int) - 1 = ((its.length - 1 : Nat) : Int) by omega]
    refine ⟨_, fun j ρ s' => ∃ (rs2 : List Nat) (its2 : List (List D)) (y6 y7 y8 : Option D), Lv s' s.length nl rs2 its2 ∧ Gd dp its2 (tn + j) ∧ its2.length + j = its.length ∧ Ext s s' ∧ ρ = [some d, some r, some (.int (at_ : Int)), some (.int (mo : Int)), some (.ref nl), some (.int (dp : Int)), y6, y7, y8], rfl, by omega, ⟨_, _, _, _, _, lv, gd, rfl, xs, rfl⟩, ?_, ?_⟩
    · rintro j ρ s3 hj ⟨rs2, its2, y6, y7, y8, lv2, gd2, le2, x3, rfl⟩
      dsimp only [List.set]
      refine f_close (i := 4) (v := 8) rfl (by simp) (by decide) lv2 gd2 p2 (by omega) x3 slb (by omega) ?_
      intro rs' its' y s4 lv3 gd3 le3 x4
      exact ⟨_, _, _, _, _, lv3, gd3, by omega, x4, rfl⟩
    · rintro ρ s3 ⟨rs2, its2, y6, y7, y8, lv2, gd2, le2, x3, rfl⟩
      rw [Int.toNat_natCast] at le2 gd2
      obtain ⟨R1, q, I1, l, rfl, rfl, e1⟩ := lv2.snoc gd2.l1
      rw [List.length_append, List.length_singleton] at le2
      have : I1.length = 0 := by omega
      have hI : I1 = [] := List.eq_nil_of_length_eq_zero this
      subst hI
      have hR : R1 = [] := List.eq_nil_of_length_eq_zero e1
      subst hR
      have hl := (lv2.last rfl).1
      repeat walk_at "rk"
      refine w_ixS (seq_ref lv2.at_) (d := .ref q) rfl ?_
      repeat walk_at "rk"
      refine w_tuple (lst_at hl) ?_
      repeat walk_at "rk"
      have sz := gd2.sz
      have cn := gd2.cn
      simp only [List.nil_append, szA_one] at sz
      simp only [List.nil_append, List.map_cons, List.map_nil, List.sum_cons, List.sum_nil] at cn
      refine ⟨x3.trans (Ext.new1 _ _), _, l, dp, rfl, get_new _ _, p1, p2, gd2.dep 0 l rfl, by omega, by omega, ?_⟩
      rcases gd2.ne (by omega) with ⟨l', r', e, n⟩ | h
      · have e : l = l' := by
          have := congrArg (fun x => x[0]?) e
          simpa using this
        rw [e]
        exact n
      · simp at h
end RK66
set_option maxRecDepth 100000
set_option maxHeartbeats 4000000
set_option exponentiation.threshold 10000
namespace RK66
open PySem L2 RI TL
local macro_rules | `(tactic| walk_at "ri") => `(tactic| first
  | with_reducible refine f_cons ?_
  | with_reducible refine f_nil ?_
  | with_reducible refine f_asg ?_
  | with_reducible refine f_ret ?_
  | with_reducible refine f_ife ?_
  | with_reducible refine f_expr ?_
  | with_reducible refine f_raise ?_
  | with_reducible refine f_brk ?_
  | with_reducible refine f_try ?_
  | with_reducible refine w_c ?_
  | ((with_reducible apply w_var); exact rfl)
  | with_reducible refine w_nil ?_
  | with_reducible refine w_cons ?_
  | with_reducible refine w_tup ?_
  | with_reducible refine w_tupK rfl ?_
  | with_reducible refine w_lst ?_
  | with_reducible refine w_lstK rfl ?_
  | with_reducible refine w_bin ?_
  | with_reducible refine w_add ?_
  | with_reducible refine w_sub ?_
  | with_reducible refine w_neg ?_
  | with_reducible refine w_negK ?_
  | with_reducible refine w_cmp ?_
  | with_reducible refine w_lt ?_
  | with_reducible refine w_le ?_
  | with_reducible refine w_gt ?_
  | with_reducible refine w_ge ?_
  | with_reducible refine w_eqI ?_
  | with_reducible refine w_neI ?_
  | with_reducible refine w_eqB ?_
  | with_reducible refine w_neB ?_
  | with_reducible refine w_trB ?_
  | with_reducible refine w_trI ?_
  | with_reducible refine w_and ?_
  | with_reducible refine w_or ?_
  | with_reducible refine w_not ?_
  | with_reducible refine w_ite ?_
  | with_reducible refine w_ix ?_
  | ((with_reducible apply w_ixS); (first | assumption | exact rfl); exact rfl)
  | with_reducible refine w_call ?_
  | with_reducible refine w_callk ?_
  | with_reducible refine w_bi ?_
  | with_reducible refine w_abs ?_
  | with_reducible refine w_gcd ?_
  | with_reducible refine w_intI ?_
  | with_reducible refine w_intB ?_
  | with_reducible refine w_isi ?_
  | ((with_reducible refine w_isiK_t ?_ ?_); focus (exact rfl))
  | ((with_reducible refine w_isiK_f ?_ ?_); focus (exact rfl))
  | with_reducible refine br_n ?_
  | with_reducible refine br_t ?_
  | with_reducible refine br_f ?_
  | with_reducible refine f_cnt ?_
  | with_reducible refine f_pass ?_
  | with_reducible refine f_retN ?_
  | with_reducible refine w_truM ?_
  | with_reducible refine w_irng ?_
  | with_reducible refine w_iseq ?_
  | with_reducible refine w_dic ?_
  | with_reducible refine w_meth ?_
  | with_reducible refine w_dic0T ?_
  | with_reducible refine w_dic0K ?_
  | with_reducible refine w_isis ?_
  | with_reducible refine f_setiG ?_
  | with_reducible refine w_tupleT ?_
  | ((with_reducible refine w_mod ?_ ?_); (focus decide))
  | ((with_reducible refine w_pow ?_ ?_); (focus decide))
  | ((with_reducible refine w_fdiv ?_ ?_ ?_); (focus decide); (focus (exact Bd.fits (n := 120) (Bd.lit (by decide)) (by decide))))
  | with_reducible refine w_isN ?_
  | with_reducible refine w_isNN ?_
  | ((with_reducible apply w_exis_t); exact rfl; exact rfl; exact rfl)
  | ((with_reducible apply w_exis_f); exact rfl; exact rfl; exact rfl)
  | ((with_reducible apply w_glob); exact rfl)
  | with_reducible refine w_chn ?_
  | with_reducible refine w_sl ?_
  | with_reducible refine w_part0 ?_
  | with_reducible refine w_part1 ?_
  | with_reducible refine w_slT ?_)
local macro_rules | `(tactic| walk_at "bd") => `(tactic| first
  | with_reducible assumption
  | with_reducible exact In.bd60 (by assumption)
  | with_reducible exact Bd.bool _
  | ((with_reducible apply Bd.modL); (focus decide); (walk_at "bd"))
  | ((with_reducible apply Bd.fdivL); (focus decide); (walk_at "bd"))
  | ((with_reducible apply Bd.abs); (walk_at "bd"))
  | with_reducible exact Bd.pow (by decide)
  | ((with_reducible apply Bd.mul); (focus (walk_at "bd")); (focus (walk_at "bd")))
  | ((with_reducible apply Bd.addM); (focus (walk_at "bd")); (focus (walk_at "bd")))
  | ((with_reducible apply Bd.subM); (focus (walk_at "bd")); (focus (walk_at "bd")))
  | ((with_reducible apply Bd.neg); (walk_at "bd"))
  | exact Bd.lit (n := 128) (by decide))
local macro_rules | `(tactic| walk_at "fit") => `(tactic| ((with_reducible apply Bd.fits); (focus (walk_at "bd")); (focus decide)))
local macro_rules | `(tactic| walk_at "rk") => `(tactic| first
  | walk_at "ri"
  | ((with_reducible refine w_mul ?_ ?_ ?_); (focus (walk_at "fit")); (focus (walk_at "fit")))
  | ((with_reducible refine w_ixR (by assumption) ?_ ?_); (focus (first | decide | omega | assumption)); (intro _ _)))
variable {k : Nat} {s : Store} {X : Exn → Store → Prop}
theorem szL_rep (c : Nat) (l : List D) : szL (List.replicate c l).flatten = c * szL l := by
  induction c with
  | zero => simp [szL]
  | succ c ih => rw [List.replicate_succ, List.flatten_cons, szL_app, ih, Nat.succ_mul, Nat.add_comm]
theorem w_mulT {l : List D} {c : Nat} {Q : D → Store → Prop} (h1 : l ≠ []) (h2 : 1 ≤ c) (h3 : c ≤ 60) (h4 : l.length ≤ 100) (q : Q (.tup (List.replicate c l).flatten) s) : wp (binD .Mult (.tup l) (.int (c : Int)) s) Q X := by
  show wp ((if l.isEmpty = false ∧ 1 ≤ (c : Int) ∧ (c : Int) ≤ 1000 ∧ l.length ≤ 1000 then ret (D.tup (List.replicate (c : Int).toNat l).flatten) else badM) s) Q X
  rw [if_pos ⟨by cases l with
    | nil => exact absurd rfl h1
    | cons _ _ => rfl, by omega, by omega, by omega⟩, Int.toNat_natCast]
  exact ⟨q⟩
/-- a value, and how long its note may be -/
def Vl (n m : Nat) (d : D) : Prop := Nv n d ∧ (noteL d).length ≤ m
theorem vl_leaf {d : D} (h : Lf d) (n m : Nat) (l : 403 ≤ m) : Vl n m d := ⟨h.1.mono (Nat.zero_le _), Nat.le_trans h.2 l⟩
theorem vl_tup {l : List D} {n m : Nat} (h : ∀ d ∈ l, Nv n d) (g : 2 + szL l ≤ m) : Vl (n + 1) m (.tup l) := ⟨.tup h, Nat.le_trans (tup_len l) g⟩
theorem value_ok2 {d : D} (hs : Scr s d) : wp (runD tab (k + 60) d_law_value [d] s) (fun v s' => Vl 100 2200000 v ∧ Ext s s') X := by
  refine run_L_value ?_
  dsimp only [d_law_value]
  repeat walk_at "rk"
  refine call_L_cell (w_get (cell_ok (k := k + 58) hs ⟨by decide, by decide⟩) ?_)
  rintro _ s ⟨⟨c0, rfl⟩, rfl⟩
  repeat walk_at "rk"
  refine call_L_row (w_get (row_ok (k := k + 58) (m := 60) (by decide)) ?_)
  rintro r s1 ⟨hr, x1⟩
  have hs1 := hs.ext x1
  dsimp only [List.set]
  repeat walk_at "rk"
  refine br_d (fun z => ?_) (fun z => ?_)
  · repeat walk_at "rk"
    refine call_L_cell (w_get (cell_ok (k := k + 58) hs1 ⟨by decide, by decide⟩) ?_)
    rintro _ s1 ⟨⟨c1, rfl⟩, rfl⟩
    repeat walk_at "rk"
    refine call_L_leaf (w_get (leaf_ok (k := k + 56)) ?_)
    rintro v s2 ⟨lf, x2⟩
    exact ⟨vl_leaf lf _ _ (by decide), x1.trans x2⟩
  repeat walk_at "rk"
  refine call_L_tree (w_get (tree_ok (k := k + 54) (at_ := 1) (mo := 47) hs1 hr (by decide) (by decide) (by decide) (by decide)) ?_)
  rintro _ s2 ⟨x2, n2, l, dp, rfl, hn, p1, p2, nv, sz, cn, ne⟩
  have hr2 := hr.ext x2
  have en : seqOf s2 (.ref n2) = some [.tup l, .int (dp : Int)] := seq_ref hn
  dsimp only [List.set]
  repeat walk_at "rk"
  have x3 := Ext.new1 s2 (.lst [.int 1, .int 1, .int 1, .int 1, .int 1, .int 2, .int 9, .int 60])
  have hr3 := hr2.ext x3
  have en3 := x3.seq en
  repeat walk_at "rk"
  refine w_ixLit (get_new _ _) (RI.In.mod (by decide)) (P := fun d => ∃ c : Nat, d = .int (c : Int) ∧ 1 ≤ c ∧ c ≤ 60) (by
    intro d hd
    simp only [List.mem_cons, List.not_mem_nil, or_false] at hd
    rcases hd with rfl | rfl | rfl | rfl | rfl | rfl | rfl | rfl
    · exact ⟨1, rfl, by decide, by decide⟩
    · exact ⟨1, rfl, by decide, by decide⟩
    · exact ⟨1, rfl, by decide, by decide⟩
    · exact ⟨1, rfl, by decide, by decide⟩
    · exact ⟨1, rfl, by decide, by decide⟩
    · exact ⟨2, rfl, by decide, by decide⟩
    · exact ⟨9, rfl, by decide, by decide⟩
    · exact ⟨60, rfl, by decide, by decide⟩) ?_
  rintro _ ⟨c, rfl, c1, c2⟩
  generalize s2 ++ [O.lst [.int 1, .int 1, .int 1, .int 1, .int 1, .int 2, .int 9, .int 60]] = s3 at *
  clear hr2 en hn
  have nt : Nv 40 (.tup l) := .tup fun d hd => (nv d hd).mono (by omega)
  have lt := tup_len l
  dsimp only [List.set]
  repeat walk_at "rk"
  refine call_L_note (w_get (lnote_ok (n := 40) (k := k + 17) nt (by unfold BIG; omega)) ?_)
  rintro _ s4 ⟨rfl, x4⟩
  have hr4 := hr3.ext x4
  have en4 := x4.seq en3
  repeat walk_at "rk"
  refine w_lenL (by unfold most; omega) ?_
  generalize (noteL (.tup l)).length = L at *
  repeat walk_at "rk"
  refine w_fdiv (by omega) (Bd.fits (n := 30) (by unfold Bd; omega) (by decide)) ?_
  generalize (19000 : Int).fdiv ((L : Int) + 1) = q
  repeat walk_at "rk"
  refine w_max2 ?_
  repeat walk_at "rk"
  refine w_min2 ?_
  obtain ⟨t, et, t1, t2⟩ : ∃ t : Nat, (if (if q > 1 then q else 1) < (c : Int) then (if q > 1 then q else 1) else (c : Int)) = (t : Int) ∧ 1 ≤ t ∧ t ≤ 60 := by
    by_cases h1 : q > 1
    · rw [if_pos h1]
      by_cases h2 : q < (c : Int)
      · rw [if_pos h2]
        exact ⟨q.toNat, by omega, by omega, by omega⟩
      · rw [if_neg h2]
        exact ⟨c, rfl, c1, c2⟩
    · rw [if_neg h1]
      by_cases h2 : 1 < (c : Int)
      · rw [if_pos h2]
        exact ⟨1, rfl, by decide, by decide⟩
      · rw [if_neg h2]
        exact ⟨c, rfl, c1, c2⟩
  rw [et]
  refine w_mulT ne t1 t2 cn ?_
  have v0 : Vl dp 2160002 (.tup (List.replicate t l).flatten) := by
    rw [show dp = (dp - 1) + 1 by omega]
    refine vl_tup (fun d hd => ?_) ?_
    · obtain ⟨m, hm, hd⟩ := List.mem_flatten.mp hd
      rw [List.eq_of_mem_replicate hm] at hd
      exact nv d hd
    · rw [szL_rep]
      have : t * szL l ≤ 60 * 36000 := Nat.mul_le_mul t2 sz
      omega
  generalize D.tup (List.replicate t l).flatten = v at *
  have x04 := x1.trans (x2.trans (x3.trans x4))
  dsimp only [List.set]
  repeat walk_at "rk"
  refine f_rng ?_
  repeat walk_at "rk"
  rename_i c53 hc53
  have q53 := RI.In.mod (a := c53) (m := 60) (by decide)
  unfold RI.In at q53
  have x5 := Ext.new1 s4 (.lst [.int 0, .int 0, .int 0, .int 0, .int 0, .int 1, .int (c53.fmod 60), .int (100 - (dp : Int))])
  have hr5 := hr4.ext x5
  repeat walk_at "rk"
  refine w_ixLit (get_new _ _) (RI.In.mod (by decide)) (P := fun d => ∃ c : Nat, d = .int (c : Int) ∧ c + dp ≤ 100) (by
    intro d hd
    simp only [List.mem_cons, List.not_mem_nil, or_false] at hd
    rcases hd with rfl | rfl | rfl | rfl | rfl | rfl | rfl | rfl
    · exact ⟨0, rfl, by omega⟩
    · exact ⟨0, rfl, by omega⟩
    · exact ⟨0, rfl, by omega⟩
    · exact ⟨0, rfl, by omega⟩
    · exact ⟨0, rfl, by omega⟩
    · exact ⟨1, rfl, by omega⟩
    · exact ⟨(c53.fmod 60).toNat, by rw [Int.toNat_of_nonneg q53.1], by omega⟩
    · exact ⟨(100 - (dp : Int)).toNat, by rw [Int.toNat_of_nonneg (by omega)], by omega⟩) ?_
  rintro _ ⟨tn, rfl, tn99⟩
  generalize s4 ++ [O.lst [.int 0, .int 0, .int 0, .int 0, .int 0, .int 1, .int (c53.fmod 60), .int (100 - (dp : Int))]] = s5 at *
  have x05 := x04.trans x5
  refine ⟨_, fun j ρ s' => ∃ (v : D) (y5 : Option D), Vl (dp + j) (2160002 + 6 * j) v ∧ Ext s5 s' ∧ ρ = [some d, some r, some (.ref n2), some v, some (.int (c : Int)), y5], rfl, by omega, ⟨v, none, v0, Ext.refl _, rfl⟩, ?_, ?_⟩
  · rintro j ρ s' hj ⟨v, y5, ⟨vn, vl⟩, xs, rfl⟩
    have hj : j < tn := by omega
    have bj : Bd 7 (j : Int) := by unfold Bd; omega
    have x6 := Ext.new1 s' (.lst [.tup [v], .tup [.str "a", v], .tup [v, .int 7]])
    have hr6 := hr5.ext (xs.trans x6)
    dsimp only [List.set]
    repeat walk_at "rk"
    refine w_ixLit (get_new _ _) (RI.In.mod (by decide)) (P := fun d => Vl (dp + (j + 1)) (2160002 + 6 * (j + 1)) d) (by
      have n7 : (noteL (.int 7)).length = 1 := by
        have e : noteL (.int 7) = intL 7 := by unfold noteL; rfl
        rw [e]
        show (intL ((7 : Nat) : Int)).length = 1
        rw [intL_nat, numL_lt (by decide)]
        rfl
      have na : (noteL (.str "a")).length = 1 := rfl
      have hva : Nv (dp + j) (.str "a") := by
        rw [show ("a" : Str) = sL [97] from rfl]
        exact .str (by decide) (by decide)
      intro d hd
      simp only [List.mem_cons, List.not_mem_nil, or_false] at hd
      rcases hd with rfl | rfl | rfl
      · refine vl_tup (fun x hx => ?_) ?_
        · rw [List.mem_singleton.mp hx]
          exact vn
        · simp [szL]
          omega
      · refine vl_tup (fun x hx => ?_) ?_
        · simp only [List.mem_cons, List.not_mem_nil, or_false] at hx
          rcases hx with rfl | rfl
          · exact hva
          · exact vn
        · simp [szL, na]
          omega
      · refine vl_tup (fun x hx => ?_) ?_
        · simp only [List.mem_cons, List.not_mem_nil, or_false] at hx
          rcases hx with rfl | rfl
          · exact vn
          · exact .int (by decide)
        · simp [szL, n7]
          omega) ?_
    intro v2 hv2
    repeat walk_at "rk"
    exact ⟨v2, _, hv2, xs.trans x6, rfl⟩
  · rintro ρ s' ⟨v, y5, ⟨vn, vl⟩, xs, rfl⟩
    rw [Int.toNat_natCast] at vn vl
    repeat walk_at "rk"
    exact ⟨⟨vn.mono (by omega), by omega⟩, x05.trans xs⟩
end RK66
set_option maxRecDepth 100000
set_option maxHeartbeats 4000000
set_option exponentiation.threshold 10000
namespace RK66
open PySem L2 RI TL
local macro_rules | `(tactic| walk_at "ri") => `(tactic| first
  | with_reducible refine f_cons ?_
  | with_reducible refine f_nil ?_
  | with_reducible refine f_asg ?_
  | with_reducible refine f_ret ?_
  | with_reducible refine f_ife ?_
  | with_reducible refine f_expr ?_
  | with_reducible refine f_raise ?_
  | with_reducible refine f_brk ?_
  | with_reducible refine f_try ?_
  | with_reducible refine w_c ?_
  | ((with_reducible apply w_var); exact rfl)
  | with_reducible refine w_nil ?_
  | with_reducible refine w_cons ?_
  | with_reducible refine w_tup ?_
  | with_reducible refine w_tupK rfl ?_
  | with_reducible refine w_lst ?_
  | with_reducible refine w_lstK rfl ?_
  | with_reducible refine w_bin ?_
  | with_reducible refine w_add ?_
  | with_reducible refine w_sub ?_
  | with_reducible refine w_neg ?_
  | with_reducible refine w_negK ?_
  | with_reducible refine w_cmp ?_
  | with_reducible refine w_lt ?_
  | with_reducible refine w_le ?_
  | with_reducible refine w_gt ?_
  | with_reducible refine w_ge ?_
  | with_reducible refine w_eqI ?_
  | with_reducible refine w_neI ?_
  | with_reducible refine w_eqB ?_
  | with_reducible refine w_neB ?_
  | with_reducible refine w_trB ?_
  | with_reducible refine w_trI ?_
  | with_reducible refine w_and ?_
  | with_reducible refine w_or ?_
  | with_reducible refine w_not ?_
  | with_reducible refine w_ite ?_
  | with_reducible refine w_ix ?_
  | ((with_reducible apply w_ixS); (first | assumption | exact rfl); exact rfl)
  | with_reducible refine w_call ?_
  | with_reducible refine w_callk ?_
  | with_reducible refine w_bi ?_
  | with_reducible refine w_abs ?_
  | with_reducible refine w_gcd ?_
  | with_reducible refine w_intI ?_
  | with_reducible refine w_intB ?_
  | with_reducible refine w_isi ?_
  | ((with_reducible refine w_isiK_t ?_ ?_); focus (exact rfl))
  | ((with_reducible refine w_isiK_f ?_ ?_); focus (exact rfl))
  | with_reducible refine br_n ?_
  | with_reducible refine br_t ?_
  | with_reducible refine br_f ?_
  | with_reducible refine f_cnt ?_
  | with_reducible refine f_pass ?_
  | with_reducible refine f_retN ?_
  | with_reducible refine w_truM ?_
  | with_reducible refine w_irng ?_
  | with_reducible refine w_iseq ?_
  | with_reducible refine w_dic ?_
  | with_reducible refine w_meth ?_
  | with_reducible refine w_dic0T ?_
  | with_reducible refine w_dic0K ?_
  | with_reducible refine w_isis ?_
  | with_reducible refine f_setiG ?_
  | with_reducible refine w_tupleT ?_
  | ((with_reducible refine w_mod ?_ ?_); (focus decide))
  | ((with_reducible refine w_pow ?_ ?_); (focus decide))
  | ((with_reducible refine w_fdiv ?_ ?_ ?_); (focus decide); (focus (exact Bd.fits (n := 120) (Bd.lit (by decide)) (by decide))))
  | with_reducible refine w_isN ?_
  | with_reducible refine w_isNN ?_
  | ((with_reducible apply w_exis_t); exact rfl; exact rfl; exact rfl)
  | ((with_reducible apply w_exis_f); exact rfl; exact rfl; exact rfl)
  | ((with_reducible apply w_glob); exact rfl)
  | with_reducible refine w_chn ?_
  | with_reducible refine w_sl ?_
  | with_reducible refine w_part0 ?_
  | with_reducible refine w_part1 ?_
  | with_reducible refine w_slT ?_)
local macro_rules | `(tactic| walk_at "bd") => `(tactic| first
  | with_reducible assumption
  | with_reducible exact In.bd60 (by assumption)
  | with_reducible exact Bd.bool _
  | ((with_reducible apply Bd.modL); (focus decide); (walk_at "bd"))
  | ((with_reducible apply Bd.fdivL); (focus decide); (walk_at "bd"))
  | ((with_reducible apply Bd.abs); (walk_at "bd"))
  | with_reducible exact Bd.pow (by decide)
  | ((with_reducible apply Bd.mul); (focus (walk_at "bd")); (focus (walk_at "bd")))
  | ((with_reducible apply Bd.addM); (focus (walk_at "bd")); (focus (walk_at "bd")))
  | ((with_reducible apply Bd.subM); (focus (walk_at "bd")); (focus (walk_at "bd")))
  | ((with_reducible apply Bd.neg); (walk_at "bd"))
  | exact Bd.lit (n := 128) (by decide))
local macro_rules | `(tactic| walk_at "fit") => `(tactic| ((with_reducible apply Bd.fits); (focus (walk_at "bd")); (focus decide)))
local macro_rules | `(tactic| walk_at "rk") => `(tactic| first
  | walk_at "ri"
  | ((with_reducible refine w_mul ?_ ?_ ?_); (focus (walk_at "fit")); (focus (walk_at "fit")))
  | ((with_reducible refine w_ixR (by assumption) ?_ ?_); (focus (first | decide | omega | assumption)); (intro _ _)))
variable {k : Nat} {s : Store} {X : Exn → Store → Prop}
/-- two values have one note only if they are the same -/
theorem note_inj {n m : Nat} {a b : D} (ha : Nv n a) (hb : Nv m b) (la : (noteL a).length ≤ BIG) (e : noteL a = noteL b) : a = b := by
  have ra := read_note_ok (k := 2 * m) (s := []) (X := fun _ _ => False) ha la
  have rb := read_note_ok (k := 2 * n) (s := []) (X := fun _ _ => False) hb (by rw [← e]; exact la)
  rw [← e, show 2 * n + (2 * m + 6) = 2 * m + (2 * n + 6) by omega] at rb
  obtain ⟨x, s1, e1, h1, _⟩ := wp_out ra
  obtain ⟨y, s2, e2, h2, _⟩ := wp_out rb
  rw [e1] at e2
  cases e2
  rw [← h1, ← h2]
theorem law_ok {d : D} (hs : Scr s d) : wp (runD tab (k + 212) d_law [d] s) (fun v _ => v = .bl true) X := by
  refine run_law ?_
  dsimp only [d_law]
  repeat walk_at "rk"
  refine call_L_value (w_get (value_ok2 (k := k + 151) hs) ?_)
  rintro a s1 ⟨⟨na, la⟩, x1⟩
  have hs1 := hs.ext x1
  dsimp only [List.set]
  repeat walk_at "rk"
  refine call_L_cell (w_get (cell_ok (k := k + 210) hs1 ⟨by decide, by decide⟩) ?_)
  rintro _ s1 ⟨⟨c1, rfl⟩, rfl⟩
  repeat walk_at "rk"
  refine call_L_row (w_get (row_ok (k := k + 210) (m := 20) (by decide)) ?_)
  rintro r s2 ⟨hr, x2⟩
  have hs2 := hs1.ext x2
  dsimp only [List.set]
  repeat walk_at "rk"
  refine call_L_tree (w_get (tree_ok (k := k + 206) (at_ := 49) (mo := 13) hs2 hr (by decide) (by decide) (by decide) (by decide)) ?_)
  rintro _ s3 ⟨x3, n3, l, dp, rfl, hn, p1, p2, nv, sz, cn, ne⟩
  have hr3 := hr.ext x3
  have hs3 := hs2.ext x3
  have en : seqOf s3 (.ref n3) = some [.tup l, .int (dp : Int)] := seq_ref hn
  have vt : Vl 100 50000 (.tup l) := by
    obtain ⟨q1, q2⟩ := vl_tup (n := 39) (m := 36002) (fun d hd => (nv d hd).mono (by omega)) (by omega)
    exact ⟨q1.mono (by decide), by omega⟩
  repeat walk_at "rk"
  dsimp only [List.set]
  refine br_cut (fun ρ s' => Ext s3 s' ∧ ∃ b, Vl 100 50000 b ∧ ρ = [some d, some a, some r, some b, none]) (fun _ => ?_) (fun _ => ?_) ?_
  · repeat walk_at "rk"
    refine call_L_cell (w_get (cell_ok (k := k + 210) hs3 ⟨by decide, by decide⟩) ?_)
    rintro _ s3 ⟨⟨c2, rfl⟩, rfl⟩
    repeat walk_at "rk"
    refine call_L_leaf (w_get (leaf_ok (k := k + 208)) ?_)
    rintro v s4 ⟨lf, x4⟩
    repeat walk_at "rk"
    exact ⟨x4, v, vl_leaf lf _ _ (by decide), rfl⟩
  · repeat walk_at "rk"
    exact ⟨Ext.refl _, _, vt, rfl⟩
  rintro ρ s4 ⟨x4, b, ⟨nb, lb⟩, rfl⟩
  have vb2 : Vl 101 200000 (.tup [b, b]) := vl_tup (n := 100) (fun x hx => by
    simp only [List.mem_cons, List.not_mem_nil, or_false, or_self] at hx
    rw [hx]
    exact nb) (by simp [szL]; omega)
  repeat walk_at "rk"
  refine f_seq ?_
  repeat walk_at "rk"
  have h5 := get_new s4 (.lst [a, b, .tup [b, b], .tup [], a, b])
  have al : ∀ x ∈ [a, b, .tup [b, b], .tup [], a, b], Vl 101 2200000 x := by
    intro x hx
    simp only [List.mem_cons, List.not_mem_nil, or_false] at hx
    rcases hx with rfl | rfl | rfl | rfl | rfl | rfl
    · exact ⟨na.mono (by decide), la⟩
    · exact ⟨nb.mono (by decide), by omega⟩
    · exact ⟨vb2.1, by have := vb2.2; omega⟩
    · exact vl_tup (n := 100) (fun x hx => absurd hx (List.not_mem_nil)) (by simp [szL])
    · exact ⟨na.mono (by decide), la⟩
    · exact ⟨nb.mono (by decide), by omega⟩
  generalize hn5 : s4.length = n5 at *
  generalize s4 ++ [O.lst [a, b, .tup [b, b], .tup [], a, b]] = s5 at *
  refine ⟨_, fun _ ρ s' => Ext s5 s' ∧ ∃ y : Option D, ρ = [some d, some a, some r, some b, y], lst_at h5, ⟨Ext.refl _, none, rfl⟩, ?_, ?_, ?_⟩
  · rintro _ _ s' ⟨x, _⟩
    exact lst_at (x.get h5)
  · rintro j v ρ s' hv ⟨xs, y, rfl⟩
    obtain ⟨vn, vl⟩ := al v (List.mem_of_getElem? hv)
    dsimp only [List.set]
    repeat walk_at "rk"
    rw [show k + 211 = (k + 1) + (2 * 101 + 8) by omega]
    refine call_L_round (w_get (round_ok (n := 101) (k := k + 1) vn (by unfold BIG; omega)) ?_)
    rintro _ s6 ⟨rfl, x6⟩
    repeat walk_at "rk"
    exact ⟨xs.trans x6, _, rfl⟩
  · rintro ρ s' ⟨xs, y, rfl⟩
    have oka : okL (noteL a) := fun c hc => by have := note_low na c hc; omega
    have okb : okL (noteL b) := fun c hc => by have := note_low nb c hc; omega
    repeat walk_at "rk"
    rw [show k + 211 = (k + 107) + 100 + 4 by omega]
    refine call_write_note (w_get (write_ok (n := 100) (k := k + 107) na (by unfold BIG; omega)) ?_)
    rintro _ s6 ⟨rfl, x6⟩
    repeat walk_at "rk"
    refine call_write_note (w_get (write_ok (n := 100) (k := k + 107) nb (by unfold BIG; omega)) ?_)
    rintro _ s7 ⟨rfl, x7⟩
    refine w_eqL oka okb ?_
    rw [show (k + 107) + 100 + 4 = (k + 110) + 100 + 1 by omega]
    repeat walk_at "rk"
    refine call_L_same (w_get (same_ok (n := 100) (k := k + 110) na nb (by unfold BIG; omega)) ?_)
    rintro _ s8 ⟨rfl, x8⟩
    repeat walk_at "rk"
    have e : decide (noteL a = noteL b) = sameN a b := by
      cases q : sameN a b with
      | true =>
        rw [sameN_eq q]
        exact decide_eq_true rfl
      | false =>
        refine decide_eq_false fun h => ?_
        have h := note_inj na nb (by unfold BIG; omega) h
        rw [h, sameN_refl nb] at q
        cases q
    rw [e, beq_self_eq_true]
theorem law_keeps : ∀ ns : List Int, ns.length ≤ 63 → (∀ i ∈ ns, Builtin.Int.intBits i ≤ 1048576) → ∃ s, runD tab 220 d_law [.ref 0] [.ro (ns.map D.int)] = .ok (.bl true) s := by
  intro ns _ _
  have h : Scr [O.ro (ns.map D.int)] (.ref 0) := ⟨0, ns, rfl, rfl⟩
  obtain ⟨a, s, e, q⟩ := wp_out (law_ok (k := 8) (X := fun _ _ => False) h)
  exact ⟨s, by rw [← q]; exact e⟩
end RK66
set_option maxRecDepth 100000
set_option maxHeartbeats 0
namespace RK66
open PySem L2 PyProof.Rows RI
def exK (K : PySem.W.Frag) : Bool := glbB glb K && tab.all fun e => nsB K e.name (some (.ref (He.ga K e.name)))
theorem exK_ok (K : PySem.W.Frag) (h : exK K = true) : glbB glb K = true ∧ ∀ e ∈ tab, nsB K e.name (some (.ref (He.ga K e.name))) = true := by
  obtain ⟨a, b⟩ := He.ba h
  exact ⟨a, fun e he => List.all_eq_true.mp b e he⟩
abbrev R : PySem.W.OpenRow := PySem.W.OpenLaw.row PySem.Challenge.rw_takenforms_k66_notes_round
abbrev hk : PySem.W.Hook := hookB 4 [] fns cts exK
def ob (s : PySem.W.SharedT) : AlB := obsB 4 [] fns cts exK (HandSHeadRun.getT s)
theorem ob_eq (s : PySem.W.SharedT) : ob s = hk.obs s.abs := obsB_eq (HandSHeadRun.getT_eq s)
def loose : List Str := [("FormError" : Str), ("BadNote" : Str), ("LETTERS_shapes" : Str), ("DIGITS_shapes" : Str), ("is_key" : Str), ("is_name" : Str), ("LETTERS_notes" : Str), ("DIGITS_notes" : Str), ("QUOTE" : Str), ("BACKSLASH" : Str), ("WORDS" : Str), ("LONGEST_NAME" : Str), ("LONGEST_STRING" : Str), ("LONGEST_NUMBER" : Str), ("is_bare" : Str), ("write_note" : Str), ("read_note" : Str), ("read_value" : Str), ("read_tuple" : Str), ("run_end" : Str), ("read_bare" : Str), ("read_number" : Str), ("read_quoted" : Str), ("_law_cell" : Str), ("_law_row" : Str), ("_law_signs" : Str), ("_law_number" : Str), ("_law_string" : Str), ("_law_leaf" : Str), ("_law_tree" : Str), ("_law_value" : Str), ("_law_bare" : Str), ("_law_note" : Str), ("_law_same" : Str), ("_law_round" : Str)]
theorem run_f (w : World) : HandSHeadRun.RunEq R (PySem.W.view R.prog [39]) hk ob 3000 loose (w.withFollow "special-get-raises" false) := by
  intro os
  kernel_rfl
theorem run_t (w : World) : HandSHeadRun.RunEq R (PySem.W.view R.prog [39]) hk ob 3000 loose (w.withFollow "special-get-raises" true) := by
  intro os
  kernel_rfl
theorem run (w : World) : HandSHeadRun.RunEq R (PySem.W.view R.prog [39]) hk ob 3000 loose w := PySem.W.byRow2 "special-get-raises" (P := fun w => HandSHeadRun.RunEq R (PySem.W.view R.prog [39]) hk ob 3000 loose w) run_f run_t w
end RK66
set_option maxRecDepth 100000
set_option maxHeartbeats 0
namespace RK66
open PySem L2 PyProof.Rows RI
theorem walk : PySem.W.WalkO (PySem.W.view R.prog [39]) loose (PySem.W.XL (PySem.W.view R.prog [39]) []) hk.says R.toRowW (HandSHeadRun.topDef R.prog 39) [] (fun f vs => PySem.call f vs) :=
  law_walk (l := PySem.Challenge.rw_takenforms_k66_notes_round) (n := 63) (k := 220) (x := "_law_script") (d := d_law) (T := tab) (G := glb) (z := e_law) rfl (by decide) (by kernel_rfl) ⟨rfl, by decide, by decide⟩ uniqTab (by simp [tab]) exK_ok fitsAll.get rfl (by kernel_rfl) rfl (by simp [fns]) f_law
    (fun K f fd F s u => F.bindsA (ps := ["_law_script"]) (fun _ _ _ _ _ _ us hl => match us, hl with | [_], _ => rfl) s [u] rfl) law_keeps
end RK66
open PySem PySem.W PySem.Calls PyProof.Rows
theorem PySem.Challenge.cw_takenforms_k66_notes_round_holds : PySem.Challenge.rw_takenforms_k66_notes_round.Holds := by
  w_on; o_law
  refine HandSHeadRun.head_any (r := OpenLaw.row PySem.Challenge.rw_takenforms_k66_notes_round) (q := view RK66.R.prog [39]) (H := RK66.hk) (ob := RK66.ob) (M := 3000) (loose := RK66.loose) (d := HandSHeadRun.topDef RK66.R.prog 39) (kwd := []) RK66.ob_eq (by kernel_rfl) (fun s => by kernel_rfl) RK66.run
    (by kernel_rfl) (by kernel_rfl) (by kernel_rfl) (by rfl) (by first | assumption | decide +kernel) (by decide +kernel) ⟨rfl, rfl, rfl, rfl, rfl, by decide +kernel⟩ ?hw RK66.walk
  case hw => w_witness2

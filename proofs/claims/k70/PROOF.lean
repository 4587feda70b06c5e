import PyProof.Rows.All
import Wide.All
import OpenK.AllK
import Wide.FinOn
import KE.SortData
import HandS.ForExc
import HandS.ForMost
import HandS.More
import HandS.Conv
import HandS.Set
import HandS.SetFor
import HandS.TupSets
import HandS.SortKw
import HandS.SetKeys
import PyProof.SumWalkG
import PyProof.DictMoreH
import HandS.Zip
import HandS.Defaults
import KE.GoesNew
import HandS.ExcInit
import HandS.ClsMeth
import KE.KeyNested
import HandS.TupAny
import HandS.NoneIn
import HandS.Walk
import HandS.TryOnly
import HandS.ExcIs
import PySem.Challenge.RW_partkits_k70_whole_kit_more
set_option Elab.async false
set_option linter.all false
section
set_option maxRecDepth 100000
set_option maxHeartbeats 4000000
/-! Rules: sorted of lists of data, sorted of a dict whose keys are tuples. -/
namespace K70
open PySem PySem.Spec PyProof.Rows L2

/-! ### sorted(xs), the items alike data -/
def rSortD (K : PySem.W.Frag) : List V → Hp → VK → Prop := fun vs H Q => ∃ (a : Addr) (xs : List V) (ds : List PyData), vs = [V.ref a] ∧ SqL K H a xs ∧ DpAll K H xs ds ∧ PySem.W.AllAlike ds ∧ PySem.W.Sortable ds ∧ (∀ d ∈ ds, d.depth ≤ 8) ∧
  ∀ (ys : List V) (p : Addr), ys.Perm xs → H p = none → Q (.ref p) (upd H p (.lst ys))

theorem each_zip {X : Cx} {pins : List (Addr × Obj)} {σ : L2.St} {H : Hp} {s : Shared} (I : Inv X pins σ H s) : ∀ {xs : List V} {ds : List PyData} {us : List Value}, Vals xs us → DpAll X.K H xs ds →
    PySem.W.EachIs (fun v (b : V × PyData) => RelV b.1 v) us (xs.zip ds) ∧ PySem.W.EachIs (fun v (b : V × PyData) => ∃ as, Reads s.heap v b.2 as) us (xs.zip ds) ∧ (xs.zip ds).map (·.2) = ds ∧ (xs.zip ds).map (·.1) = xs
  | _, _, _, .nil, .nil => ⟨.nil, .nil, rfl, rfl⟩
  | _, _, _, .cons r t, .cons d e => by
    obtain ⟨h1, h2, h3, h4⟩ := each_zip I t e
    exact ⟨.cons r h1, .cons (Dp.reads I _ _ _ d r) h2, congrArg (_ :: ·) h3, congrArg (_ :: ·) h4⟩
theorem vals_each : ∀ {us : List Value} {bs : List (V × PyData)}, PySem.W.EachIs (fun v (b : V × PyData) => RelV b.1 v) us bs → Vals (bs.map (·.1)) us
  | _, _, .nil => .nil
  | _, _, .cons r t => .cons r (vals_each t)
theorem units_of {A : Around} {k : Nat} (hr : Room k A) : A.units + 64 < cLine := hr.units

theorem cr_sortD {X : Cx} (hu : X.A.units + 64 < cLine) : CallR X (.builtin "sorted") (rSortD X.K) := by
  intro pins s σ H vs us Q I r h
  obtain ⟨a, xs, ds, rfl, hs, hd, hal, hso, hdp, q⟩ := h
  obtain ⟨its, rv, hl, hz⟩ := I.list hs
  rw [Vals.ref1 r]
  obtain ⟨e1, e2, e3, e4⟩ := each_zip I rv hd
  refine PySem.W.sorted_data (enc := fun b : V × PyData => b.2) (R := fun v (b : V × PyData) => RelV b.1 v) hl.isList e1 e2 (by rw [e3]; exact hal) (by rw [e3]; exact hso) (by rw [← e1.length, ← rv.length]; exact hz) (fun b hb => ?_) fun out hlen hout => ?_
  · have hm : b.2 ∈ ds := by
      rw [← e3]
      exact List.mem_map.mpr ⟨b, hb, rfl⟩
    have := hdp _ hm
    omega
  · have hp : ((xs.zip ds).mergeSort (PySem.W.dataLe false fun b : V × PyData => b.2)).Perm (xs.zip ds) := List.mergeSort_perm _ _
    have hv := vals_each hout
    have hp2 := hp.map (·.1)
    rw [e4] at hp2
    obtain ⟨ep, he'⟩ := PyProof.Rows.sortedAll_at s.heap its out.toArray
    have hlen2 : (((xs.zip ds).mergeSort (PySem.W.dataLe false fun b : V × PyData => b.2)).map (·.1)).length ≤ sizeLine := by
      rw [hp2.length_eq]
      exact hz
    exact ⟨.ref _, upd H (s.heap.objs.size + 1) (.lst _), I.laid (t' := s.toks) (fun _ _ => PyProof.Rows.sortedAll_old) (Nat.le_succ _) ⟨hlen2, out, ep, hv, he'⟩, rfl, q _ _ hp2 (I.hok.fresh (Nat.le_succ _))⟩

/-! ### sorted(x), whatever is walked: behind its collecting -/
theorem sorted_by {X : Cx} {pins : List (Addr × Obj)} {σ : L2.St} {H : Hp} {s : Shared} {Q : VK} {E : Value → Shared → Prop} {r : Addr} (hu : X.A.units + 64 < cLine)
    (hcol : ∀ (R : List Value → Shared → Prop) (E' : Value → Shared → Prop), (∀ (acc : List Value) (s' : Shared) (zs : List V) (ds : List PyData), Inv X pins σ H s' → Vals zs acc → zs.length ≤ sizeLine → DpAll X.K H zs ds → PySem.W.AllAlike ds → PySem.W.Sortable ds → (∀ d ∈ ds, d.depth ≤ 8) →
      (∀ (ys : List V) (p : Addr), ys.Perm zs → H p = none → Q (.ref p) (upd H p (.lst ys))) → R acc s') → wpAny (model X.prog X.w) X.A.in1 (collect (.ref r)) R E' s) :
    wpAny (model X.prog X.w) X.A (call (.builtin "sorted") [.ref r]) (EP X pins σ Q) E s := by
  refine Calls.call_function_entry PyProof.Rows.kind_sorted PyProof.Rows.plain_sorted PyProof.Rows.entry_sorted (PyProof.Rows.args_sorted1 _) ?_
  unfold Builtin.«sorted»
  refine wpAny_bind (m := checkCount "sorted" 1 1 _) (wpAny_pure ?_)
  refine wpAny_bind (hcol _ _ fun acc s' zs ds I1 rv hz hd hal hso hdp q => ?_)
  have hl2 : acc.length ≤ sizeLine := by
    rw [← rv.length]
    exact hz
  refine wpAny_bind (wpAny_newList ?_ hl2)
  have hoL : (s'.heap.push (seqObj "list" acc.toArray 0)).get? s'.heap.objs.size = some (seqObj "list" acc.toArray 0) := Heap.get?_push_size _ rfl
  obtain ⟨e1, e2, e3, e4⟩ := each_zip I1 rv hd
  show wpAny _ _ _ _ _ { s' with heap := s'.heap.push (seqObj "list" acc.toArray 0) }
  have er' : PySem.W.EachIs (fun v (b : V × PyData) => ∃ as, Reads (PySem.W.sortingHeap (s'.heap.push (seqObj "list" acc.toArray 0)) s'.heap.objs.size acc) v b.2 as) acc (zs.zip ds) := e2.mono fun v b ⟨as, rr⟩ =>
    ⟨as, PyProof.Rows.Reads.keeps (fun b o e => PySem.W.sortingHeap_old (Nat.ne_of_lt (Heap.lt_size e)) (Heap.get?_push_of_some _ e)) rr⟩
  refine wpAny_bind (wpAny_holding (wpAny_call_entry PyProof.Rows.slot_list_sort ⟨_, hoL, rfl⟩ PyProof.Rows.entry_list_sort
    (PySem.W.list_sort_vals (κ := PySem.W.dataKind (PySem.W.sortingHeap (s'.heap.push (seqObj "list" acc.toArray 0)) s'.heap.objs.size acc) ((zs.zip ds).map (·.2))) (s := { s' with heap := s'.heap.push (seqObj "list" acc.toArray 0) }) hoL
      (PySem.W.SortsAt.data (s := { s' with heap := PySem.W.sortingHeap (s'.heap.push (seqObj "list" acc.toArray 0)) s'.heap.objs.size acc }) (PySem.W.each_map (R := fun v d => ∃ as, Reads (PySem.W.sortingHeap (s'.heap.push (seqObj "list" acc.toArray 0)) s'.heap.objs.size acc) v d as) (fun b : V × PyData => b.2) er')
        (by rw [e3]; exact hal) (by rw [e3]; exact hso) (fun d hd => ?_)) hl2 ⟨_, rfl, ?_⟩) (PyProof.Rows.args_list_sort _)))
  · rw [e3] at hd
    have := hdp _ hd
    show X.A.units + 1 + 1 + d.depth < cLine
    omega
  · have hp : ((zs.zip ds).mergeSort (PySem.W.dataLe false fun b : V × PyData => b.2)).Perm (zs.zip ds) := List.mergeSort_perm _ _
    have hout := PySem.W.sortVals_data (R := fun v (b : V × PyData) => RelV b.1 v) (enc := fun b : V × PyData => b.2) false e1 er' (by rw [e3]; exact hal)
    generalize PySem.W.sortVals (PySem.W.dataKind (PySem.W.sortingHeap (s'.heap.push (seqObj "list" acc.toArray 0)) s'.heap.objs.size acc) ((zs.zip ds).map (·.2))) false acc acc = out at hout ⊢
    have hv := vals_each hout
    have hp2 := hp.map (·.1)
    rw [e4] at hp2
    obtain ⟨e', he'⟩ := PyProof.Rows.sortedHeap_at (vs := acc) (out := out.toArray) hoL
    have hlen2 : (((zs.zip ds).mergeSort (PySem.W.dataLe false fun b : V × PyData => b.2)).map (·.1)).length ≤ sizeLine := by
      rw [hp2.length_eq]
      exact hz
    refine wpAny_pure ⟨_, rfl, .ref s'.heap.objs.size, upd H s'.heap.objs.size (.lst _), I1.laid (t' := s'.toks) (fun b u e => ?_) (Nat.le_refl _) ⟨hlen2, out, e', hv, he'⟩, rfl, q _ _ hp2 (I1.hok.fresh (Nat.le_refl _))⟩
    have hb : b < s'.heap.objs.size := Heap.lt_size e
    rw [PyProof.Rows.sortedHeap_old (Nat.ne_of_lt hb) (by rw [size_push']; exact Nat.lt_succ_of_lt hb)]
    exact Heap.get?_push_of_some _ e
theorem Paired_perm {α β : Type} {R : α → β → Prop} {as as' : List α} (hp : as'.Perm as) : ∀ {bs : List β}, Paired R as bs → ∃ bs', bs'.Perm bs ∧ Paired R as' bs' := by
  induction hp with
  | nil => intro bs h; exact ⟨bs, .refl _, h⟩
  | cons x _ ih =>
    intro bs h
    cases h with
    | cons r t =>
      obtain ⟨bs', p1, p2⟩ := ih t
      exact ⟨_ :: bs', p1.cons _, .cons r p2⟩
  | swap x y l =>
    intro bs h
    cases h with
    | cons r t =>
      cases t with
      | cons r2 t2 => exact ⟨_ :: _ :: _, List.Perm.swap _ _ _, .cons r2 (.cons r t2)⟩
  | trans _ _ ih1 ih2 =>
    intro bs h
    obtain ⟨b1, p1, q1⟩ := ih2 h
    obtain ⟨b2, p2, q2⟩ := ih1 q1
    exact ⟨b2, p2.trans p1, q2⟩

/-- a part's key -/
def pk (p : Str × Str) : List Key := [.inr p.1, .inr p.2]
/-- a part's tuple stands at a -/
def PartAt (H : Hp) (a : Addr) (p : Str × Str) : Prop := H a = some (.tup [.str p.1, .str p.2])
def partD (p : Str × Str) : PyData := .tuple [.str p.1, .str p.2]
theorem parts_alike (ks : List (Str × Str)) : PySem.W.AllAlike (ks.map partD) := PySem.W.AllAlike.of fun b b' => by
  show PySem.W.alike (.tuple [.str b.1, .str b.2]) (.tuple [.str b'.1, .str b'.2]) = true
  simp [PySem.W.alike, PySem.W.alikeAll]
theorem parts_sortable (ks : List (Str × Str)) : PySem.W.Sortable (ks.map partD) := PySem.W.Sortable.tuples fun b => ⟨.str b.1, [.str b.2], rfl⟩
theorem parts_depth (ks : List (Str × Str)) : ∀ d ∈ ks.map partD, d.depth ≤ 8 := fun d hd => by
  obtain ⟨k, _, rfl⟩ := List.mem_map.mp hd
  show (PyData.tuple [.str k.1, .str k.2]).depth ≤ 8
  simp [PyData.depth, PyData.depthAll]
theorem parts_dp {K : PySem.W.Frag} {H : Hp} : ∀ {bs : List Addr} {ks : List (Str × Str)}, Paired (PartAt H) bs ks → DpAll K H (bs.map V.ref) (ks.map partD)
  | _, _, .nil => .nil
  | _, _, .cons r t => .cons (.tup (SqT.of r) (.cons (.str _) (.cons (.str _) .nil))) (parts_dp t)
theorem map_ref_perm {ys : List V} {bs : List Addr} (h : ys.Perm (bs.map V.ref)) : ∃ as : List Addr, as.Perm bs ∧ ys = as.map V.ref := by
  have e : Paired (fun (v : V) (a : Addr) => v = V.ref a) (bs.map V.ref) bs := by
    clear h
    induction bs with
    | nil => exact .nil
    | cons b r ih => exact .cons rfl ih
  obtain ⟨as, h1, h2⟩ := Paired_perm h e
  refine ⟨as, h1, ?_⟩
  clear h h1 e
  induction h2 with
  | nil => rfl
  | cons r _ ih => rw [r, ih]; rfl

/-! ### sorted(d), d's keys parts -/
def rSortDT : List V → Hp → VK → Prop := fun vs H Q => ∃ (d : Addr) (ps : List ((Str × Str) × V)), vs = [V.ref d] ∧ Rd H d (.dT (ps.map fun e => (pk e.1, e.2))) ∧
  ∀ (as : List Addr) (ks : List (Str × Str)) (p : Addr), ks.Perm (ps.map (·.1)) → Paired (PartAt H) as ks → H p = none → Q (.ref p) (upd H p (.lst (as.map V.ref)))
theorem keys_parts {H : Hp} : ∀ {ps : List ((Str × Str) × V)} {bs : List Addr}, IsKeys H (ps.map fun e => (pk e.1, e.2)) bs → Paired (PartAt H) bs (ps.map (·.1))
  | [], _, h => by
    have h : Paired _ [] _ := h
    cases h
    exact .nil
  | e :: r, _, h => by
    have h : Paired _ (_ :: _) _ := h
    cases h with
    | cons q t => exact .cons q (keys_parts t)
theorem cr_sortDT {X : Cx} (hc : X.calm = true) (hu : X.A.units + 64 < cLine) : CallR X (.builtin "sorted") rSortDT := by
  intro pins s σ H vs us Q I r h
  obtain ⟨d, ps, rfl, hd, q⟩ := h
  rw [Vals.ref1 r]
  refine sorted_by (H := H) hu fun R E' k => ?_
  obtain ⟨z, hs, ks, pr, o, es, ep, ho, hx, hdt, he, hn⟩ := (show ObjOk X.prog X.w H s.heap d (.dT (ps.map fun e => (pk e.1, e.2))) from hd.ok I.hok)
  have l1 : es.size = ks.length := size_of_entries he
  have l2 : (ps.map fun e => (pk e.1, e.2)).length = ks.length := Paired.length pr
  refine PySem.W.kdu_collect (A := X.A.in1) (kdl_raw hs hx hdt) (I.ok.hd hc) ho (by omega) fun h' tk acc' kp it => ?_
  have ea : acc'.toList = ks.map fun x => Value.ref x.2.1 := by
    have hl : acc'.toList.length = ks.length := by rw [Array.length_toList, it.1]; exact l1
    apply List.ext_getElem?
    intro j
    rw [List.getElem?_map]
    cases hj : acc'.toList[j]? with
    | none =>
      have h1 := List.getElem?_eq_none_iff.mp hj
      rw [List.getElem?_eq_none (by omega)]
      all_goals rfl
    | some v =>
      obtain ⟨en, hen, hv⟩ := it.2 j v (by rw [← Array.getElem?_toList]; exact hj)
      have qe := entry_at he j
      rw [hen] at qe
      cases hb : ks[j]? with
      | none =>
        rw [hb] at qe
        exact nomatch (show some en = none from qe)
      | some b =>
        rw [hb] at qe
        have e2 : en = entryOfKey (tupleKind (mixKind X.prog X.w)) b := Option.some.inj qe
        rw [hv, e2]
        all_goals rfl
  have eb : acc'.toList = (ks.map fun x => x.2.1).map Value.ref := by rw [ea, List.map_map]; all_goals rfl
  have rv : Vals ((ks.map fun x => x.2.1).map V.ref) acc'.toList := by rw [eb]; exact vals_refs _
  have hz : ((ks.map fun x => x.2.1).map V.ref).length ≤ sizeLine := by rw [List.length_map, List.length_map]; omega
  have hk := keys_parts (isKeys_of pr)
  refine k acc'.toList _ _ ((ps.map (·.1)).map partD) (I.kept kp) rv hz (parts_dp hk) (parts_alike _) (parts_sortable _) (parts_depth _) fun ys p hp hn => ?_
  obtain ⟨as, p1, e1⟩ := map_ref_perm hp
  obtain ⟨ls, p2, p3⟩ := Paired_perm p1 hk
  rw [e1]
  exact q as ls p p2 p3 hn
end K70

end
section
set_option maxRecDepth 100000
set_option maxHeartbeats 4000000
/-! Rules: set(xs) of a list of texts, sorted of such a set: what stands in it is some texts, no more than the list's. -/
namespace K70
open PySem PySem.Spec PyProof.Rows L2

/-- a set of n texts at a, its table walkable -/
def SetG (P : Program) (w : World) (h : Heap) (a : Addr) (n : Nat) : Prop :=
  ∃ o es ep t, h.get? a = some o ∧ o.ExactSet ∧ o.data = .set es ep t ∧ ElemsOf (strKind P w) es.toList ∧ es.size < scanBound ∧ t.fits es.size = true ∧ es.size = n ∧ Ris t.place.toList ∧ (w.params.followText "set-order" = true ∨ t.led = true)
section
variable {P : Program} {w : World} {A : Around} {E : Value → Shared → Prop} {s : Shared} {a : Addr} {n : Nat}
theorem SetG.at {h h' : Heap} (R : SetG P w h a n) (k : ∀ o, h.get? a = some o → h'.get? a = some o) : SetG P w h' a n := by
  obtain ⟨o, es, ep, t, ho, r⟩ := R
  exact ⟨o, es, ep, t, k o ho, r⟩
theorem setG_fresh {h : Heap} (ho : h.get? a = some { cls := .type "set", dict := none, data := .set #[] 0 (.fresh 0 0 (!w.params.followText "set-order")) }) : SetG P w h a 0 := by
  refine ⟨_, #[], 0, _, ho, ⟨rfl, rfl, rfl⟩, rfl, fun e he => by simp at he, by decide, by rfl, rfl, List.Pairwise.nil, ?_⟩
  cases w.params.followText "set-order"
  · exact Or.inr rfl
  · exact Or.inl rfl
/-- the end of an adding: laid, and anew where it grew full -/
theorem setG_tail {g : Bool → Sem Unit} (hg : ∀ (b : Bool) (s₁ : Shared) (Q' : Unit → Shared → Prop), Q' () s₁ → wpAny (model P w) A (g b) Q' E s₁)
    {o : Obj} {es : Array (Int × Value)} {ep : Nat} {t : SetTable} (ho : s.heap.get? a = some o) (hex : o.ExactSet) (hd : o.data = .set es ep t)
    {es1 : Array (Int × Value)} {t2 : SetTable} (g1 : ElemsOf (strKind P w) es1.toList) (hb1 : es1.size < scanBound) (hf2 : t2.fits es1.size = true) (hr : Ris t2.place.toList) (hl : w.params.followText "set-order" = true ∨ t2.led = true)
    {wasDummy : Bool} {R : Option Bool → Shared → Prop} (hR : ∀ h', Heap.SameBut a s.heap h' → SetG P w h' a es1.size → R (some true) { s with heap := h' }) :
    wpAny (model P w) A (do
        storeSet a es1 t2
        if (!wasDummy && t2.tooFull) = true then do
            g (relayAll t2 es1 (SetTable.grown es1.size)).2.2
            storeSet a (relayAll t2 es1 (SetTable.grown es1.size)).1 (relayAll t2 es1 (SetTable.grown es1.size)).2.1
            pure (some true)
          else pure (some true)) R E s := by
  refine wpAny_bind (wpAny_storeSet_of ho hd ?_ (fits_of_scanBound hb1))
  have q1 := store_at (es' := es1) (t' := t2) ho hd
  have sb := Heap.SameBut.update s.heap a (Obj.putSet es1 t2)
  by_cases hw : (!wasDummy && t2.tooFull) = true
  · rw [if_pos hw]
    have pm := relayAll_perm t2 es1 (SetTable.grown es1.size)
    have f3 := relayAll_fits t2 es1 (SetTable.grown es1.size)
    have r3 := relayAll_ris t2 es1 (SetTable.grown es1.size)
    have l3 := relayAll_led t2 es1 (SetTable.grown es1.size)
    generalize relayAll t2 es1 (SetTable.grown es1.size) = Z at pm f3 r3 l3 ⊢
    obtain ⟨es2, t3, gave⟩ := Z
    dsimp only at pm f3 r3 l3 ⊢
    have z2 : es2.size = es1.size := by
      have := pm.length_eq
      simpa using this
    refine wpAny_bind (hg _ _ _ ?_)
    refine wpAny_bind (wpAny_storeSet_of q1 rfl ?_ (fits_of_scanBound (by omega)))
    have q2 := store_at (es' := es2) (t' := t3) q1 rfl
    refine wpAny_pure (hR _ (sb.trans (Heap.SameBut.update _ a _)) ⟨_, es2, _, t3, q2, hex, rfl, fun e he => g1 e (pm.mem_iff.mp he), by omega, f3, z2, r3, ?_⟩)
    rcases hl with hl | hl
    · exact Or.inl hl
    · exact Or.inr (l3.trans hl)
  · rw [if_neg hw]
    exact wpAny_pure (hR _ sb ⟨_, es1, _, t2, q1, hex, rfl, g1, hb1, hf2, rfl, hr, hl⟩)
theorem setG_add {k : Str} {tk : Tok} {Q : Bool → Shared → Prop} (R : SetG P w s.heap a n) (room : n + 1 < scanBound)
    (hQ : ∀ h' b m, Heap.SameBut a s.heap h' → m ≤ n + 1 → SetG P w h' a m → Q b { s with heap := h' }) :
    wpAny (model P w) A (setAddHashed a (.str k tk) ((strKind P w).hash k)) Q E s := by
  obtain ⟨o, es, ep, t, ho, hex, hd, hel, hb, hf, hn, hr, hl⟩ := R
  have hkey : (strKind P w).is k (.str k tk) = true := strKind_is P w k tk
  have hsc : (Value.str k tk).scannable = true := rfl
  unfold setAddHashed setAddHashedIn
  refine wpAny_holding (wpAny_bind (wpAny_setState_of ho hd hf ?_))
  dsimp only
  rw [byScan_of hsc hb hel]
  simp only [↓reduceIte]
  unfold setAddByScan
  refine wpAny_bind (wpAny_bind (wpAny_rule (wpAny_bind (wpAny_setScan_of hkey ho hd hf hel ?_))))
  cases hfi : List.findIdx? (fun e => (strKind P w).is k e.2) es.toList with
  | some j =>
    dsimp only
    exact wpAny_pure (wpAny_pure (hQ s.heap _ n (Heap.SameBut.refl a s.heap) (Nat.le_succ _) ⟨o, es, ep, t, ho, hex, hd, hel, hb, hf, hn, hr, hl⟩))
  | none =>
    dsimp only
    have hgw : ∀ (b : Bool) {s₁ : Shared} {Q' : Unit → Shared → Prop}, Q' () s₁ → wpAny (model P w) A (match b with | true => rule "set.scan.the-table-gave-way" | false => pure ()) Q' E s₁ := fun b s₁ Q' q => by
      cases b
      · exact wpAny_pure q
      · exact wpAny_rule q
    have pm := layNew_perm t es ((strKind P w).hash k) (.str k tk)
    have f1 := layNew_fits t es ((strKind P w).hash k) (.str k tk)
    have r1 := layNew_ris t es ((strKind P w).hash k) (.str k tk) hr
    have l1 := layNew_led t es ((strKind P w).hash k) (.str k tk)
    generalize layNew t es ((strKind P w).hash k) (.str k tk) = Z at pm f1 r1 l1 ⊢
    obtain ⟨es1, t1, wasDummy, gave⟩ := Z
    dsimp only at pm f1 r1 l1 ⊢
    rw [Array.toList_push] at pm
    have pc : es1.toList.Perm (((strKind P w).hash k, Value.str k tk) :: es.toList) := pm.trans (List.perm_append_singleton _ _)
    have g1 : ElemsOf (strKind P w) es1.toList := fun e he => by
      rcases List.mem_cons.mp (pc.mem_iff.mp he) with z | z
      · rw [z]
        exact ⟨⟨k, hkey, rfl⟩, hsc⟩
      · exact hel e z
    have hsz : es1.size = n + 1 := by
      have q := pc.length_eq
      rw [List.length_cons, Array.length_toList, Array.length_toList, hn] at q
      exact q
    have hled : w.params.followText "set-order" = true ∨ t1.led = true := by
      rcases hl with hl | hl
      · exact Or.inl hl
      · exact Or.inr (l1.trans hl)
    refine wpAny_bind (hgw _ ?_)
    split
    · refine wpAny_bind ?_
      rw [hashByValue_scannable 8 hsc]
      refine wpAny_pure ?_
      refine setG_tail ?_ ho hex hd g1 (by omega) ?_ ?_ ?_ ?_
      · intro b s₁ Q' q; cases b <;> first | exact wpAny_pure q | exact wpAny_rule q
      · first | (split <;> first | exact f1 | exact SetTable.fits_plain_off f1) | exact f1
      · first | (split <;> exact r1) | exact r1
      · first | (split <;> exact hled) | exact hled
      · intro h' sb r; dsimp only; exact wpAny_pure (hQ h' _ _ sb (by omega) r)
    · refine wpAny_bind (wpAny_pure ?_)
      simp only [↓reduceIte]
      refine setG_tail ?_ ho hex hd g1 (by omega) f1 r1 hled ?_
      · intro b s₁ Q' q; cases b <;> first | exact wpAny_pure q | exact wpAny_rule q
      · intro h' sb r; dsimp only; exact wpAny_pure (hQ h' _ _ sb (by omega) r)
/-- the loop that takes a walk's texts into the set -/
theorem setG_loop {I : Addr} {fp wr : List Addr} {G : Array GenState → Array GenState → Prop} {m : Nat} {Pv : Nat → Value → Prop} {St : Nat → Shared → Prop} {R : Result → Shared → Prop}
    (W : WalksS P w A.in1 I fp wr G m Pv St) (S : Addr) (hSf : S ∉ fp) (hb : m + 1 < scanBound) (hval : ∀ i v, Pv i v → ∃ k t, v = .str k t) :
    ∀ (k i : Nat) (s : Shared), m - i = k → i ≤ m → St i s → (∃ c, c ≤ i ∧ SetG P w s.heap S c) →
      (∀ s' c, Moved (S :: wr) G s s' → c ≤ m → SetG P w s'.heap S c → R (.ok (.ret .none)) s') → codeAny (model P w) A (.builtin "set.update.loop" ⟨[.ref S, .ref I], []⟩) R s := by
  have hSw : S ∉ wr := fun h => hSf (W.sub _ h)
  have up : ∀ b ∈ wr, b ∈ S :: wr := fun b hm => List.mem_cons_of_mem _ hm
  intro k
  induction k with
  | zero =>
    intro i s hk hi hst hS hR
    obtain ⟨c, hc, hS⟩ := hS
    obtain rfl : i = m := by omega
    refine codeAny_builtin F.entry_set_update_loop ?_
    rw [Around.under_plainId F.plain_set_update_loop _]
    show wpAny _ A.in1 (pyNext (.ref I) >>= _) _ _ s
    exact wpAny_bind (W.done s _ _ hst fun s' hm => wpAny_pure (hR s' c (hm.mono up) hc (hS.at fun o e => hm.heap S o hSw e)))
  | succ k ih =>
    intro i s hk hi hst hS hR
    obtain ⟨c, hc, hS⟩ := hS
    have hlt : i < m := by omega
    refine codeAny_builtin F.entry_set_update_loop ?_
    rw [Around.under_plainId F.plain_set_update_loop _]
    show wpAny _ A.in1 (pyNext (.ref I) >>= _) _ _ s
    refine wpAny_bind (W.item i s _ _ hlt hst fun v s' hP hst' hm => ?_)
    obtain ⟨z, t, rfl⟩ := hval i v hP
    have hS' : SetG P w s'.heap S c := hS.at fun o e => hm.heap S o hSw e
    show wpAny _ A.in1 (holding [Value.str z t] (setAdd S (.str z t)) >>= _) _ _ s'
    refine wpAny_bind (wpAny_holding ?_)
    unfold setAdd
    refine wpAny_holding (wpAny_bind ((strKind P w).pyHash (k := z) (strKind_is _ _ _ _) ?_))
    refine setG_add (s := { s' with toks := s'.toks + 1 }) hS' (by omega) fun h' b c2 sb hc2 S2 => ?_
    refine wpAny_pure ⟨plainId_quiet F.plain_set_update_loop _, ih (i + 1) _ (by omega) hlt (W.frame _ s' _ _ hst' (Nat.le_succ _) fun b hb o e => (sb.2 b (fun z => hSf (z ▸ hb))).trans e) ⟨c2, by omega, S2⟩ fun s'' c3 m3 l3 S3 => ?_⟩
    exact hR s'' c3 (Moved.trans W.gtrans ((hm.mono up).then_heap (Nat.le_succ _) fun b o hb e => (sb.2 b (fun z => hb (by rw [z]; exact List.mem_cons_self))).trans e) m3) l3 S3

set_option maxHeartbeats 3200000 in
/-- set(xs) -/
theorem setG_of {l : Addr} {items : Array Value} {Q : Value → Shared → Prop} (hh : A.handled = none) (hl : s.heap.IsList l items) (hit : ∀ v ∈ items.toList, ∃ k t, v = Value.str k t) (hb : items.size + 1 < scanBound)
    (h : ∀ (h' : Heap) (tk c : Nat), SetG P w h' s.heap.objs.size c → c ≤ items.size → (∀ b o, s.heap.get? b = some o → h'.get? b = some o) → Q (.ref s.heap.objs.size) { s with heap := h', toks := tk }) :
    wpAny (model P w) A (call (.type "set") [.ref l]) Q E s := by
  obtain ⟨c, tl, hmro⟩ := F.called_set.mro
  have hmade := F.called_set.made
  have hsub := F.called_set.sub
  refine wpAny_call (codeAny_of_tree ?_)
  show wpAny _ _ (callAny (.type "set") _) _ _ _
  refine wpAny_pure ⟨Code.quiet_builtin _ (by decide +kernel), codeAny_builtin F.entry_type_call ?_⟩
  rw [Around.under_plain (weight_type_call_type "set" [.ref l] []) rfl]
  have h1 := F.called_set.notType
  have h2 := F.called_set.canCreate
  have hct := F.typeCall_set_1 (.ref l)
  repeat (any_goals (first | assumption | wp_step))
  refine codeAny_mono (code_set_led1 (.ref l) (E := E) (Q₁ := fun obj s₁ => obj = .ref s.heap.objs.size ∧ s₁ = { s with heap := s.heap.push { cls := .type "set", dict := none, data := .set #[] 0 (.fresh 0 0 (!w.params.followText "set-order")) } }) ⟨rfl, rfl⟩) fun r s₁ hr => ?_
  cases r with
  | error e => exact hr
  | ok fl =>
    cases fl with
    | ret obj =>
      obtain ⟨rfl, rfl⟩ := hr
      have hS : (s.heap.push { cls := .type "set", dict := none, data := .set #[] 0 (.fresh 0 0 (!w.params.followText "set-order")) }).get? s.heap.objs.size = some { cls := .type "set", dict := none, data := .set #[] 0 (.fresh 0 0 (!w.params.followText "set-order")) } := Heap.get?_push_size _ rfl
      have hT : Shared.TypeIs { s with heap := s.heap.push { cls := .type "set", dict := none, data := .set #[] 0 (.fresh 0 0 (!w.params.followText "set-order")) } } (.ref s.heap.objs.size) "set" := ⟨_, hS, rfl⟩
      have hli := F.called_set.init.lookup
      have hbi := F.called_set.init.bind (.ref s.heap.objs.size)
      repeat (any_goals (first | assumption | wp_step))
      refine codeAny_mono (codeAny_call_builtin (R := wants (fun r s₂ => r = .none ∧ ∃ h' tk c, s₂ = { s with heap := h', toks := tk } ∧ SetG P w h' s.heap.objs.size c ∧ c ≤ items.size ∧
          (∀ b o, s.heap.get? b = some o → h'.get? b = some o)) E) F.called_set.init.plain F.entry_set_init (check_set_init_1 hT ?_)) fun r₂ s₂ hr₂ => ?_
      · obtain ⟨ol, hol, hcl, nl, hdl⟩ := hl
        obtain ⟨ocls, odict, odata, oslots⟩ := ol
        simp only at hcl hdl
        subst hcl; subst hdl
        have hol' := Heap.get?_push_of_some { cls := .type "set", dict := none, data := .set #[] 0 (.fresh 0 0 (!w.params.followText "set-order")) } hol
        have hsls := F.sub_list_set
        have hslf := F.sub_list_frozenset
        have hne : (Value.type "list" == Value.type "dict") = false := by decide
        have hl1 : (s.heap.push { cls := .type "set", dict := none, data := .set #[] 0 (.fresh 0 0 (!w.params.followText "set-order")) }).IsList l items := ⟨_, hol', rfl, nl, rfl⟩
        unfold Builtin.«set.__init__» noKeywords Builtin.Frozenset.updateFrom
        generalize hPI : pyIter = PI
        wp_walk
        subst hPI
        refine wpAny_pyIter_list hl1 ?_
        refine wpAny_bind (wpAny_runValue ?_)
        have hlS : l < s.heap.objs.size := Heap.lt_size hol
        have hh3 : A.in1.in1.in1.handled = none := by simp [hh]
        have hneI : l ≠ (s.heap.push { cls := .type "set", dict := none, data := .set #[] 0 (.fresh 0 0 (!w.params.followText "set-order")) }).objs.size := by
          rw [Heap.size_push]
          exact Nat.ne_of_lt (Nat.lt_succ_of_lt hlS)
        have hSf : s.heap.objs.size ∉ [(s.heap.push { cls := .type "set", dict := none, data := .set #[] 0 (.fresh 0 0 (!w.params.followText "set-order")) }).objs.size, l] := by
          rw [Heap.size_push]
          simp only [List.mem_cons, List.not_mem_nil, or_false, not_or]
          exact ⟨Nat.ne_of_lt (Nat.lt_succ_self _), Nat.ne_of_gt hlS⟩
        have hval : ∀ (i : Nat) (v : Value), items[i]? = some v → ∃ k t, v = .str k t := fun i v hv => hit v (List.mem_of_getElem? (by rw [Array.getElem?_toList]; exact hv))
        refine setG_loop ((Walks.list hh3 _ l hneI items).toS) s.heap.objs.size hSf hb hval (items.size - 0) 0 _ (by omega) (Nat.zero_le _) ⟨⟨_, Heap.get?_push_size _ rfl, rfl, rfl⟩, (hl1.push _)⟩ ?hS0 ?hR
        case hS0 => exact ⟨0, Nat.le_refl 0, setG_fresh (Heap.get?_push_of_some _ hS)⟩
        case hR =>
          intro s' c' hm hc' hS'
          obtain ⟨h', g2, d', tk', os'⟩ := s'
          obtain rfl : g2 = s.gens := hm.gens
          obtain rfl : d' = s.drawn := hm.drawn
          obtain rfl : os' = s.os := hm.os
          show wpAny _ _ _ _ _ _
          refine wpAny_pure ?_
          show wpAny _ _ (ret Value.none) _ _ _
          refine wpAny_pure ⟨rfl, h', tk', c', rfl, hS', hc', fun b o e => ?_⟩
          have hb0 : b < s.heap.objs.size := Heap.lt_size e
          have hb2 : b ≠ (s.heap.push { cls := .type "set", dict := none, data := .set #[] 0 (.fresh 0 0 (!w.params.followText "set-order")) }).objs.size := by
            rw [Heap.size_push]
            exact Nat.ne_of_lt (Nat.lt_succ_of_lt hb0)
          exact hm.heap b o (by simp only [List.mem_cons, List.not_mem_nil, or_false, not_or]; exact ⟨Nat.ne_of_lt hb0, hb2⟩) (Heap.get?_push_of_some _ (Heap.get?_push_of_some _ e))
      · cases r₂ with
        | error e => exact hr₂
        | ok fl₂ =>
          cases fl₂ with
          | ret r =>
            obtain ⟨rfl, h', tk, c', rfl, hS', hc', hk'⟩ := hr₂
            repeat (any_goals (first | assumption | wp_step))
            exact h _ _ _ hS' hc' hk'
          | _ => exact hr₂.elim
    | _ => exact hr.elim
end
/-- the set of n texts, tracked -/
def SetGO (P : Program) (w : World) (a : Addr) (n : Nat) : HO := .ext fun h => SetG P w h a n
theorem setG_new {w : World} {P : Program} {H : Hp} {h : Heap} {a : Addr} {n : Nat} (R : SetG P w h a n) : ObjOk P w H h a (SetGO P w a n) := by
  have ⟨o, _, _, _, ho, _⟩ := R
  exact ⟨R, ⟨o, ho⟩, fun h1 h2 p k => p.at k⟩
theorem map_perm {α : Type} {g : α → V} {ys : List V} {bs : List α} (h : ys.Perm (bs.map g)) : ∃ as : List α, as.Perm bs ∧ ys = as.map g := by
  have e : Paired (fun (v : V) (a : α) => v = g a) (bs.map g) bs := by
    clear h
    induction bs with
    | nil => exact .nil
    | cons b r ih => exact .cons rfl ih
  obtain ⟨as, h1, h2⟩ := Paired_perm h e
  refine ⟨as, h1, ?_⟩
  clear h h1 e
  induction h2 with
  | nil => rfl
  | cons r _ ih => rw [r, ih]; rfl
theorem strs_dp {K : PySem.W.Frag} {H : Hp} : ∀ xs : List Str, DpAll K H (xs.map V.str) (xs.map PyData.str)
  | [] => .nil
  | x :: r => .cons (.str x) (strs_dp r)
theorem strs_alike (xs : List Str) : PySem.W.AllAlike (xs.map PyData.str) := PySem.W.AllAlike.of fun b b' => by simp [PySem.W.alike]
theorem strs_sortable (xs : List Str) : PySem.W.Sortable (xs.map PyData.str) := PySem.W.Sortable.others fun b => ⟨(by simp), fun _ => by simp⟩
theorem strs_depth (xs : List Str) : ∀ d ∈ xs.map PyData.str, d.depth ≤ 8 := fun d hd => by
  obtain ⟨k, _, rfl⟩ := List.mem_map.mp hd
  simp [PyData.depth]
section
variable {X : Cx}
def rSetS (K : PySem.W.Frag) (P : Program) (w : World) : List V → Hp → VK → Prop := fun vs H Q => ∃ (l : Addr) (xs : List Str), vs = [V.ref l] ∧ SqL K H l (xs.map V.str) ∧ xs.length ≤ 1000 ∧ ∀ a n, n ≤ xs.length → H a = none → Q (.ref a) (upd H a (SetGO P w a n))
theorem cr_setS (hc : X.calm = true) : CallR X (.type "set") (rSetS X.K X.prog X.w) := by
  intro pins s σ H vs us Q I r h
  obtain ⟨l, xs, rfl, hl, hlen, q⟩ := h
  rw [Vals.ref1 r]
  obtain ⟨its, rv, pl, hz⟩ := I.list hl
  have hsz : its.length = xs.length := by rw [← rv.length, List.length_map]
  have hits : ∀ v ∈ its.toArray.toList, ∃ k t, v = Value.str k t := by
    intro v hv
    obtain ⟨i, hi⟩ := List.mem_iff_getElem?.mp hv
    cases e : (xs.map V.str)[i]? with
    | none =>
      have := rv.none_of e
      rw [show its.toArray.toList = its from rfl, this] at hi
      cases hi
    | some x =>
      obtain ⟨u, h1, h2⟩ := rv.get e
      rw [show its.toArray.toList = its from rfl, h1] at hi
      cases hi
      rw [List.getElem?_map] at e
      cases e2 : xs[i]? with
      | none => rw [e2] at e; cases e
      | some z =>
        rw [e2] at e
        cases e
        obtain ⟨t, ht⟩ := h2
        exact ⟨z, t, ht⟩
  refine setG_of (P := X.prog) (I.ok.hd hc) pl.isList hits (by simp only [List.size_toArray]; unfold scanBound; omega) fun h' tk c R hc' kp => ?_
  simp only [List.size_toArray] at hc'
  exact ⟨.ref s.heap.objs.size, upd H s.heap.objs.size (SetGO X.prog X.w s.heap.objs.size c), I.laid (t' := tk) kp (Nat.le_refl _) (setG_new R), rfl, q _ c (by omega) (I.hok.fresh (Nat.le_refl _))⟩
def rSortSetS (P : Program) (w : World) : List V → Hp → VK → Prop := fun vs H Q => ∃ (a : Addr) (n : Nat), vs = [V.ref a] ∧ H a = some (SetGO P w a n) ∧ ∀ (xs : List Str) (p : Addr), xs.length = n → H p = none → Q (.ref p) (upd H p (.lst (xs.map V.str)))
theorem elems_strs {P : Program} {w : World} : ∀ {l : List Value}, (∀ v ∈ l, ∃ k t, v = Value.str k t) → ∃ xs : List Str, Vals (xs.map V.str) l
  | [], _ => ⟨[], .nil⟩
  | v :: r, h => by
    obtain ⟨k, t, e⟩ := h v List.mem_cons_self
    obtain ⟨xs, hx⟩ := elems_strs (P := P) (w := w) (l := r) fun u hu => h u (List.mem_cons_of_mem _ hu)
    exact ⟨k :: xs, .cons ⟨t, e⟩ hx⟩
theorem cr_sortSetS (hc : X.calm = true) (hu : X.A.units + 64 < cLine) : CallR X (.builtin "sorted") (rSortSetS X.prog X.w) := by
  intro pins s σ H vs us Q I r h
  obtain ⟨a, n, rfl, ha, q⟩ := h
  rw [Vals.ref1 r]
  refine sorted_by (H := H) hu fun R E' k => ?_
  obtain ⟨o, es, ep, t, ho, hex, hd, hel, hb, hf, hn, hr, hl⟩ : SetG X.prog X.w s.heap a n := (I.hok a _ ha).1
  refine collect_set (P := X.prog) (w := X.w) (A := X.A.in1) (I.ok.hd hc) ⟨o, ho, hex.1, hd⟩ hf hb hr hl fun s1 vs k1 hz g1 o1 pm => ?_
  have hvs : ∀ v ∈ vs, ∃ k t, v = Value.str k t := fun v hv => by
    obtain ⟨e, he, rfl⟩ := List.mem_map.mp (pm.mem_iff.mp hv)
    obtain ⟨⟨x, hx, _⟩, _⟩ := hel e he
    obtain ⟨t, ht⟩ := Value.isStrOf_shape hx
    exact ⟨x, t, ht⟩
  obtain ⟨xs, rx⟩ := elems_strs (P := X.prog) (w := X.w) hvs
  have hl1 : xs.length = n := by
    have e1 := rx.length
    rw [List.length_map] at e1
    rw [e1, pm.length_eq, List.length_map, Array.length_toList, hn]
  have J : Inv X pins σ H s1 := I.call' (ch := []) o1 (Un.kept k1) (I.hok.kept k1) (by rw [g1]; exact I.bare) (fun _ z => nomatch z)
  have hz2 : (xs.map V.str).length ≤ sizeLine := by
    rw [List.length_map, hl1, ← hn]
    exact fits_of_scanBound hb
  refine k vs s1 _ _ J rx hz2 (strs_dp xs) (strs_alike xs) (strs_sortable xs) (strs_depth xs) fun ys p hp hn2 => ?_
  obtain ⟨zs, p1, rfl⟩ := map_perm hp
  exact q zs p (p1.length_eq.trans hl1) hn2
end
end K70

end
section
set_option maxRecDepth 100000
set_option maxHeartbeats 4000000
/-! Rules: setdefault by tuple keys, d.update(d2), extend by a tuple, sums of tuples, sum(.., start=i). -/
namespace K70
open PySem PySem.Spec PyProof.Rows L2

section
variable {X : Cx} {pins : List (Addr × Obj)} {σ : L2.St} {H : Hp} {s : Shared} {a b : Addr} {u r : Value} {d : V} {k : List Key} {A : Around} {E : Value → Shared → Prop}
/-- d.setdefault(k, x), k a tuple -/
theorem d_setdT {kvs : List (List Key × V)} {Q : Value → Shared → Prop} (hu : A.units + 1 < cLine) (I : Inv X pins σ H s) (e : H a = some (.dT kvs)) (eb : H b = some (.tup (k.map kV))) (rd : RelV d r) (hl : kvs.length < sizeLine)
    (h1 : ∀ v, valV kvs k = some v → ∀ (w' : Value) (s' : Shared), Inv X pins σ H s' → RelV v w' → Q w' s') (h2 : valV kvs k = none → ∀ (w' : Value) (s' : Shared), Inv X pins σ (upd H a (.dT (putK kvs k d))) s' → RelV d w' → Q w' s') :
    wpAny (model X.prog X.w) A (call (.builtin "dict.setdefault") [.ref a, .ref b, r]) Q E s := by
  obtain ⟨z, hd, xs, rel, dd⟩ := dt_of I.hok e
  have hz : xs.length ≤ sizeLine := by
    rw [← Paired.length rel]
    exact z
  have hv := rel.val k
  refine call_setdefault_heap (hsz := hz) (tupleKind_room_in1 hu) (key_of I.hok eb) hd dd (fun p hp => ?_) fun hn h' dd' hs => ?_
  · rw [hp] at hv
    cases q0 : valV kvs k with
    | none =>
      rw [q0] at hv
      exact (show False from hv).elim
    | some v0 =>
      rw [q0] at hv
      exact h1 v0 q0 _ _ (I.tok _) hv
  · rw [hn] at hv
    cases q0 : valV kvs k with
    | some v0 =>
      rw [q0] at hv
      exact (show False from hv).elim
    | none =>
      have hl2 : (putK kvs k d).length ≤ sizeLine := by
        have := length_putK kvs k d
        omega
      obtain ⟨q, es, ep, hq, g2, g3, g4, _, g5⟩ := dd'
      refine h2 q0 _ _ (d_write I (by rw [e]; exact True.intro) hs ⟨q, hq⟩ ⟨hl2, hd, _, (rel.put k eb rd).keeps fun c ys ec => ?_, q, es, ep, hq, g2, g3, g4, g5⟩) rd
      rw [upd_ne (ne_of ec e (fun z => nomatch z))]
      exact ec
end
def tDSetdT (td ty tx : TE) : TE := fun σ H Q => td σ H fun x H1 => ∃ a, x = .ref a ∧ IsD H1 a ∧ ty σ H1 fun y H2 => tx σ H2 fun z H3 => ∃ (kvs : List (List Key × V)) (k : List Key) (b : Addr), H3 a = some (.dT kvs) ∧ y = .ref b ∧ H3 b = some (.tup (k.map kV)) ∧ kvs.length < sizeLine ∧
  (∀ v, valV kvs k = some v → Q v H3) ∧ (valV kvs k = none → Q z (upd H3 a (.dT (putK kvs k z))))
section
variable {X : Cx} {o e f : Expr} {td ty tx : TE} {apos cpos : Pos}
theorem pe_dsetdT (hu : X.A.units + 1 < cLine) (ho : PE X o td) (he : PE X e ty) (hf : PE X f tx) (m : M2 X o "setdefault" apos e f cpos) : PE X (.Call (.Attribute o "setdefault" apos) [e, f] [] cpos) (tDSetdT td ty tx) := by
  refine ⟨fun pins s σ H Q I h => ?_⟩
  refine wpAny_Call_method m.base m.few m.line PySem.F.plainAttrs_dict PySem.F.slot_dict_setdefault PySem.F.type_dict_setdefault (thn (ho.run pins s σ H _ I h) fun u s1 ⟨x, H1, I1, rx, a, ex, d, q1⟩ => ?_)
  subst ex
  obtain rfl : u = Value.ref a := rx
  obtain ⟨t1, t2, _⟩ := isD_at I1 d
  refine ⟨t1, t2, ?_⟩
  rw [m.trees]
  refine Calls.callWith_builtin rfl (Calls.evalArgs_plain (Calls.spliced_cons (thn (he.run pins s1 σ H1 _ I1 q1) fun iv s2 ⟨y, H2, I2, ry, q2⟩ =>
    Calls.spliced_cons (thn (hf.run pins s2 σ H2 _ I2 q2) fun fv s3 ⟨z, H3, I3, rz, kvs, k, b, ea, ey, eb, hl, q3, q4⟩ => Calls.spliced_nil ?_))))
  subst ey
  cases (show iv = Value.ref b from ry)
  exact d_setdT hu I3 ea eb rz hl (fun v hv w' s4 I4 rw' => ⟨v, _, I4, rw', q3 v hv⟩) fun hn w' s4 I4 rw' => ⟨z, _, I4, rw', q4 hn⟩

/-- d.update(d2), keys ints and texts -/
def rUpd : V → List V → Hp → VK → Prop := fun x vs H Q => ∃ (a b : Addr) (kvs more : List (Key × V)), x = .ref a ∧ vs = [.ref b] ∧ H a = some (.dK kvs) ∧ H b = some (.dK more) ∧ a ≠ b ∧ kvs.length + more.length ≤ sizeLine ∧ Q .non (upd H a (.dK (mergeK kvs more)))
theorem mergeK_len : ∀ (more kvs : List (Key × V)), (mergeK kvs more).length ≤ kvs.length + more.length
  | [], kvs => Nat.le_refl _
  | p :: r, kvs => by
    show (mergeK (putK kvs p.1 p.2) r).length ≤ _
    have h1 := mergeK_len r (putK kvs p.1 p.2)
    have h2 := length_putK kvs p.1 p.2
    rw [List.length_cons]
    omega
theorem mt_update : MtR X "dict.update" rUpd := by
  intro pins s σ H x vs v us Q I rx rv h
  obtain ⟨a, b, kvs, more, rfl, rfl, ha, hb, hne, hl, q⟩ := h
  cases rx
  obtain ⟨u, rfl, ru⟩ := rv.one
  cases ru
  obtain ⟨z, hd, vs1, rel, dd⟩ := dk_of I.hok ha
  obtain ⟨z2, hd2, vs2, rel2, dd2⟩ := dk_of I.hok hb
  refine call_meetsIn PySem.F.slot_dict_update dd.typeIs PySem.F.entry_dict_update (PySem.F.args_dict_update_2 _ _) (meets_dict_update (mixKind X.prog X.w) a b hne hd2)
    ⟨vs1, vs2, dd, dd2, by rw [← rel.length, ← rel2.length]; exact hl, fun h' m1 m2 hs => ?_⟩
  have he : ∃ q, h'.get? a = some q := let ⟨q, _, _, hq, _⟩ := m1; ⟨q, hq⟩
  exact ⟨.non, _, d_write (t' := s.toks) I (by rw [ha]; exact True.intro) hs he (dk_new (Nat.le_trans (mergeK_len more kvs) hl) hd (KV.merge rel2 rel) m1), rfl, q⟩

/-- xs.extend(t), t a tuple -/
def rExtT (K : PySem.W.Frag) : V → List V → Hp → VK → Prop := fun x vs H Q => ∃ l b xs zs, x = .ref l ∧ vs = [.ref b] ∧ H l = some (.lst xs) ∧ SqT K H b zs ∧ xs.length + zs.length ≤ sizeLine ∧ Q .non (upd H l (.lst (xs ++ zs)))
end
theorem ext_tup (l : Addr) (items : Array Value) (n : Nat) (b : Addr) (dd : Option Addr) (sl : Array (Option Value)) (items2 : Array Value) (n2 : Nat) (hs0 : ¬(!items.isEmpty && Builtin.List.listTooLong (items.size + items2.size)) = true) (hs1 : items.size ≤ sizeLine) (hs2 : items.size + items2.size ≤ sizeLine + 1) :
    Meets (Builtin.«list.extend» ⟨[.ref l, .ref b], []⟩) (fun _ R s => s.heap.get? l = some { cls := .type "list", dict := none, data := .seq items n, slots := #[] } ∧ s.heap.get? b = some { cls := .type "tuple", dict := dd, data := .seq items2 n2, slots := sl } ∧ R (.ok (.ret Value.none)) { s with heap := s.heap.update l (Obj.mapSeq fun x => x ++ items2), toks := s.toks }) :=
  .of_wp fun prog w A R s h => by
    obtain ⟨hp, g, d, tk, os⟩ := s
    obtain ⟨hl, hb, h⟩ := h
    have f2 := sub_tuple_tuple
    have f5 := sub_list_tuple
    have f4 := sub_tuple_list
    have f3 := sub_list_list
    have hz' : (items ++ items2).size ≤ sizeLine + 1 := by
      rw [Array.size_append]
      exact hs2
    wp_walk using (wpAny_updateSeq hl rfl (hz := hs1) (_hz' := hz')), wpAny_loadPart' hl, wpAny_loadPart' hb
    exact ⟨_, rfl, h⟩
section
variable {X : Cx}
theorem mt_extT : MtM X "list.extend" (rExtT X.K) := by
  intro pins s σ H x vs v us Q I rx rv h
  obtain ⟨l, b, xs, zs, rfl, rfl, hH, hB, hz, q⟩ := h
  cases rx
  obtain ⟨u, rfl, ru⟩ := rv.one
  cases ru
  obtain ⟨z, its, n, r, hl, e⟩ := I.lstM hH
  obtain ⟨its2, r2, ⟨⟨oc, od, odt, osl⟩, e2, hc2, n2, hd2⟩, hl2⟩ := I.tuple hB
  simp only at hc2 hd2
  subst hc2
  subst hd2
  have z2 := r2.length
  have hsz : its.toArray.size + its2.toArray.size ≤ sizeLine := by rw [List.size_toArray, List.size_toArray]; omega
  have hlong : ¬ (!its.toArray.isEmpty && Builtin.List.listTooLong (its.toArray.size + its2.toArray.size)) = true := by
    rw [notLongL hsz, Bool.and_false]
    exact Bool.false_ne_true
  refine call_meets PySem.F.slot_list_extend ⟨_, e, rfl⟩ PySem.F.entry_list_extend (PySem.F.args_list_extend_2 _ _) (ext_tup l its.toArray n b od osl its2.toArray n2 hlong (by rw [List.size_toArray]; omega) (by omega)) ⟨e, e2, ?_⟩
  refine ⟨.non, _, I.lset (its' := its ++ its2) hH e (by simp) (r.append r2) ?_, rfl, q⟩
  rw [List.length_append]
  omega

/-! ### sum(t), t a tuple of ints -/
theorem preSum_sum (val : Nat → Int) : ∀ (ns : List Int), (∀ i, i < ns.length → val i = ns.getD i 0) → preSum val ns.length = ns.sum := by
  intro ns
  have key : ∀ k, k ≤ ns.length → (∀ i, i < ns.length → val i = ns.getD i 0) → preSum val k = (ns.take k).sum := by
    intro k
    induction k with
    | zero => intro _ _; rfl
    | succ k ih =>
      intro hk hv
      show preSum val k + val k = _
      have hlt : k < ns.length := by omega
      rw [ih (by omega) hv, hv k hlt, sum_take (List.getElem?_eq_getElem hlt), List.getD_eq_getElem?_getD, List.getElem?_eq_getElem hlt]
      rfl
  intro hv
  rw [key ns.length (Nat.le_refl _) hv, List.take_length]
def rSumT (K : PySem.W.Frag) : List V → Hp → VK → Prop := fun vs H Q => ∃ (a : Addr) (ns : List Int), vs = [V.ref a] ∧ SqT K H a (ns.map V.int) ∧ Q (.int ns.sum) H
theorem cr_sumT (hc : X.calm = true) : CallR X (.builtin "sum") (rSumT X.K) := by
  intro pins s σ H vs us Q I r h
  obtain ⟨a, ns, rfl, hs, q⟩ := h
  rw [Vals.ref1 r]
  obtain ⟨its, rv, hl, hz⟩ := I.tuple hs
  have hi := rv.ints
  have hT : s.heap.IsTuple a its.toArray := hl
  have hn : its.length = ns.length := by rw [← rv.length, List.length_map]
  have hlt : a < s.heap.objs.size := by
    obtain ⟨o, e, _⟩ := hl
    exact Heap.lt_size e
  refine call_sum_walkG (wpAny_pyIter_tuple hT ?_)
  refine ⟨_, _, _, _, _, _, fun i => ns.getD i 0, rfl, Walks.tuple (A := X.A.in1) (I.ok.hd hc) _ a (Nat.ne_of_lt hlt) its.toArray, ⟨⟨_, Heap.get?_push_size _ rfl, rfl, rfl⟩, hT.push _⟩, fun b hb => ?_, fun i v hv => ?_, fun h' tk t' hk => ?_⟩
  · show b < (s.heap.push _).objs.size
    rw [Heap.size_push]
    rcases List.mem_cons.mp hb with rfl | hb
    · exact Nat.lt_succ_self _
    · rw [List.mem_singleton.mp hb]
      exact Nat.lt_succ_of_lt hlt
  · obtain ⟨t, e⟩ := PyProof.Rows.IntsAre.int_at hi i v (by rw [← hv]; simp)
    exact ⟨t, e⟩
  · have e : preSum (fun i => ns.getD i 0) its.toArray.size = ns.sum := by
      rw [List.size_toArray, hn]
      exact preSum_sum _ ns fun _ _ => rfl
    rw [e]
    refine ⟨.int ns.sum, H, I.kept (t' := tk) fun b o eb => hk b o (fun z => ?_) (Heap.get?_push_of_some _ eb), ⟨t', rfl⟩, q⟩
    rw [List.mem_singleton.mp z] at eb
    exact absurd (Heap.lt_size eb) (Nat.lt_irrefl _)
end
/-! ### sum(xs, start=i) -/
/-- a walk that begins a turn later -/
def StB (St : Nat → Heap → Prop) : Nat → Heap → Prop
  | 0, _ => False
  | i + 1, h => St i h
def PvB (P : Nat → Value → Prop) : Nat → Value → Prop
  | 0, _ => False
  | i + 1, v => P i v
def valB (z : Int) (val : Nat → Int) : Nat → Int
  | 0 => z
  | i + 1 => val i
theorem walksB {prog : Program} {w : World} {A : Around} {I : Addr} {fp wr : List Addr} {n : Nat} {P : Nat → Value → Prop} {St : Nat → Heap → Prop} (W : Walks prog w A I fp wr n P St) : Walks prog w A I fp wr (n + 1) (PvB P) (StB St) where
  sub := W.sub
  frame := fun i h h' st hk => by
    cases i with
    | zero => exact st
    | succ i => exact W.frame i h h' st hk
  item := fun i s Q E hi st hQ => by
    cases i with
    | zero => exact False.elim st
    | succ i => exact W.item i s Q E (by omega) st hQ
  done := fun s Q E st hQ => W.done s Q E st hQ
  self := fun i s Q E st hQ => by
    cases i with
    | zero => exact False.elim st
    | succ i => exact W.self i s Q E st hQ
theorem preSumB (z : Int) (val : Nat → Int) : ∀ n, preSum (valB z val) (n + 1) = z + preSum val n
  | 0 => by
    show (0 : Int) + z = z + 0
    omega
  | n + 1 => by
    show preSum (valB z val) (n + 1) + val n = z + (preSum val n + val n)
    rw [preSumB z val n]
    omega
theorem args_sum_start (a b : Value) : argsOk "sum" ⟨[a], [(Str.ofString "start", b)]⟩ := by unfold argsOk; kernel_rfl
section
variable {prog : Program} {w : World} {A : Around} {E : Value → Shared → Prop} {s : Shared}
theorem call_sum_start {x : Value} {tz : Tok} {Q : Value → Shared → Prop}
    (h : wpAny (model prog w) A.in1 (pyIter x) (fun it s₂ => ∃ I fp wr n P St val, it = .ref I ∧ Walks prog w A.in1 I fp wr n P St ∧ St 0 s₂.heap ∧ (∀ b ∈ fp, b < s₂.heap.objs.size) ∧
      (∀ i v, P i v → ∃ t, v = .int (val i) t) ∧
      ∀ h' tk t', (∀ b o, b ∉ wr → s₂.heap.get? b = some o → h'.get? b = some o) → Q (.int (1 + preSum val n) t') { s₂ with heap := h', toks := tk }) E s) :
    wpAny (model prog w) A (call (.builtin "sum") [x] [(Str.ofString "start", .int 1 tz)]) Q E s := by
  refine wpAny_call (codeAny_call_builtin F.plain_sum F.entry_sum ?_)
  have ha := args_sum_start x (.int 1 tz)
  have body : wpAny (model prog w) A.in1 (Builtin.«sum» ⟨[x], [(Str.ofString "start", .int 1 tz)]⟩) (fun fin s' => match fin with
      | .done f => (match (Except.ok f : Result) with | .ok (.ret v) => Q v s' | .ok _ => False | .error e => E e s')
      | .again c' => c'.quiet = true ∧ codeAny (model prog w) A c' (fun r s' => match r with | .ok (.ret v) => Q v s' | .ok _ => False | .error e => E e s') s') E s := by
    unfold Builtin.«sum»
    simp only [List.length_cons, List.length_nil]
    rw [if_neg (by decide)]
    refine wpAny_bind (wpAny_of_eq (show Builtin.Builtins.bindParams "sum" ["start"] 0 { kw := [(Str.ofString "start", .int 1 tz)] } = pure [some (.int 1 tz)] from rfl) ?_)
    refine wpAny_bind (wpAny_mono h (fun it s₂ h₂ => ?_) fun _ _ e => e)
    obtain ⟨I, fp, wr, n, P, St, val, rfl, W, hst, hfp, hval, hQ⟩ := h₂
    refine wpAny_bind (wpAny_rule (wpAny_bind (wpAny_mkInt ?_)))
    refine wpAny_bind (wpAny_pure ?_)
    simp only [List.forIn_cons, List.forIn_nil]
    refine wpAny_bind (wpAny_bind (wpAny_bind (wpAny_isInstance (T := "int") (b := false) (typeIs_int _ _ _) PySem.sub_int_str ?_)))
    simp only [Bool.false_eq_true, if_false]
    refine wpAny_pure (wpAny_bind (wpAny_bind (wpAny_isInstance (T := "int") (b := false) (typeIs_int _ _ _) PySem.sub_int_bytes ?_)))
    simp only [Bool.false_eq_true, if_false]
    refine wpAny_pure (wpAny_bind (wpAny_bind (wpAny_isInstance (T := "int") (b := false) (typeIs_int _ _ _) PySem.sub_int_bytearray ?_)))
    simp only [Bool.false_eq_true, if_false]
    refine wpAny_pure (wpAny_pure ?_)
    refine wpAny_bind (wpAny_newObj_type ?_)
    have hSf : s₂.heap.objs.size ∉ fp := fun hm => Nat.lt_irrefl _ (hfp _ hm)
    have e1 : preSum (valB 1 val) 1 = 1 := rfl
    refine wpAny_pure ⟨plainId_quiet F.plain_sum_loop _, codeAny_sum_loopG (walksB W) (valB 1 val) (fun i v hv => ?_) s₂.heap.objs.size hSf n 1 _ s₂.toks 0 0 (Or.inl rfl) (by omega) (by omega)
      (W.frame _ _ _ hst fun b _ o e => Heap.get?_push_of_some _ e) (by rw [e1]; exact Heap.get?_push_size _ rfl) fun h' tk t' hk => ?_⟩
    · cases i with
      | zero => exact False.elim hv
      | succ i => exact hval i v hv
    · rw [preSumB]
      exact hQ h' tk t' fun b o hbw e => hk b o hbw (Nat.ne_of_lt (Heap.lt_size e)) (Heap.get?_push_of_some _ e)
  simp only [checkBuiltinCall, F.kind_sum]
  cases hsig : Manifest.signature? "sum" with
  | none => exact wpAny_pure body
  | some sig =>
    have ha' : Bind.checkArgs "sum" sig ⟨[x], [(Str.ofString "start", .int 1 tz)]⟩ = pure () := by simpa only [argsOk, hsig] using ha
    simp only [ha']
    exact wpAny_pure body
end
section
variable {X : Cx}
/-- sum(xs, start=1) of a list -/
def rSumSt (K : PySem.W.Frag) : List V → List V → Hp → VK → Prop := fun vs zs H Q => ∃ (a : Addr) (ns : List Int), vs = [V.ref a] ∧ zs = [.int 1] ∧ SqL K H a (ns.map V.int) ∧ Q (.int (1 + ns.sum)) H
theorem cr_sumSt (hc : X.calm = true) : CallRK X (.builtin "sum") [Str.ofString "start"] (rSumSt X.K) := by
  intro pins s σ H vs zs us ws Q I r rz h
  obtain ⟨a, ns, rfl, rfl, hs, q⟩ := h
  rw [Vals.ref1 r]
  obtain ⟨w1, rfl, t1, rfl⟩ := vals1 rz
  obtain ⟨its, rv, hl, hz⟩ := I.list hs
  have hi := rv.ints
  have hT : s.heap.IsList a its.toArray := hl.isList
  have hn : its.length = ns.length := by rw [← rv.length, List.length_map]
  have hlt : a < s.heap.objs.size := by
    obtain ⟨o, e, _⟩ := hT
    exact Heap.lt_size e
  show wpAny _ _ (call (.builtin "sum") [.ref a] [(Str.ofString "start", .int 1 t1)]) _ _ _
  refine call_sum_start (wpAny_pyIter_list hT ?_)
  refine ⟨_, _, _, _, _, _, fun i => ns.getD i 0, rfl, Walks.list (A := X.A.in1) (I.ok.hd hc) _ a (Nat.ne_of_lt hlt) its.toArray, ⟨⟨_, Heap.get?_push_size _ rfl, rfl, rfl⟩, hT.push _⟩, fun b hb => ?_, fun i v hv => ?_, fun h' tk t' hk => ?_⟩
  · show b < (s.heap.push _).objs.size
    rw [Heap.size_push]
    rcases List.mem_cons.mp hb with rfl | hb
    · exact Nat.lt_succ_self _
    · rw [List.mem_singleton.mp hb]
      exact Nat.lt_succ_of_lt hlt
  · obtain ⟨t, e⟩ := PyProof.Rows.IntsAre.int_at hi i v (by rw [← hv]; simp)
    exact ⟨t, e⟩
  · have e : preSum (fun i => ns.getD i 0) its.toArray.size = ns.sum := by
      rw [List.size_toArray, hn]
      exact preSum_sum _ ns fun _ _ => rfl
    rw [e]
    refine ⟨.int (1 + ns.sum), H, I.kept (t' := tk) fun b o eb => hk b o (fun z => ?_) (Heap.get?_push_of_some _ eb), ⟨t', rfl⟩, q⟩
    rw [List.mem_singleton.mp z] at eb
    exact absurd (Heap.lt_size eb) (Nat.lt_irrefl _)
end
end K70

end
section
set_option maxRecDepth 100000
set_option maxHeartbeats 4000000
/-! Rules: zip of lists and tuples in any mix, enumerate of a tuple, methods called with keywords. -/
namespace K70
open PySem PySem.Spec PyProof.Rows L2

/-! ### a list or a tuple -/
def SqG (K : PySem.W.Frag) (t : Bool) (H : Hp) (a : Addr) (xs : List V) : Prop := if t = true then SqT K H a xs else SqL K H a xs
def IsSeqIter (t : Bool) (h : Heap) (i a : Addr) (n : Nat) : Prop := if t = true then h.IsTupleIter i a n else h.IsListIter i a n
def IsSeqOf (t : Bool) (h : Heap) (a : Addr) (items : Array Value) : Prop := if t = true then h.IsTuple a items else h.IsList a items
theorem SqG.inj {X : Cx} {pins : List (Addr × Obj)} {σ : L2.St} {H : Hp} {s : Shared} {t : Bool} {a : Addr} {xs ys : List V} (I : Inv X pins σ H s) (h : SqG X.K t H a xs) (h' : SqG X.K t H a ys) : xs = ys := by
  cases t with
  | true => exact I.tuple_inj h h'
  | false => exact I.list_inj h h'
theorem SqG.at {X : Cx} {pins : List (Addr × Obj)} {σ : L2.St} {H : Hp} {s : Shared} {t : Bool} {a : Addr} {xs : List V} (I : Inv X pins σ H s) (h : SqG X.K t H a xs) : ∃ its : List Value, Vals xs its ∧ IsSeqOf t s.heap a its.toArray := by
  cases t with
  | true =>
    obtain ⟨its, r, p, _⟩ := I.tuple h
    exact ⟨its, r, p⟩
  | false =>
    obtain ⟨its, r, p, _⟩ := I.list h
    exact ⟨its, r, p.isList⟩
theorem IsSeqOf.lt {t : Bool} {h : Heap} {a : Addr} {items : Array Value} (x : IsSeqOf t h a items) : a < h.objs.size := by
  cases t with
  | true => obtain ⟨o, e, _⟩ := (show h.IsTuple a items from x); exact Heap.lt_size e
  | false => obtain ⟨o, e, _⟩ := (show h.IsList a items from x); exact Heap.lt_size e
theorem draws_seq {prog : Program} {w : World} {A : Around} (hh : A.handled = none) (t : Bool) (i a : Addr) (hne : a ≠ i) (items : Array Value) :
    Draws prog w A i [i, a] items.size (fun n v => items[n]? = some v) (fun n h => IsSeqIter t h i a n ∧ IsSeqOf t h a items) := by
  cases t with
  | true => exact Draws.tuple hh i a hne items
  | false => exact Draws.list hh i a hne items
theorem IsSeqIter.ob {t : Bool} {h : Heap} {i a : Addr} {n : Nat} (x : IsSeqIter t h i a n) : ∃ o, h.get? i = some o ∧ ∀ v, o.data ≠ .cell v := by
  cases t with
  | true =>
    obtain ⟨o, e, _, d⟩ := (show h.IsTupleIter i a n from x)
    exact ⟨o, e, fun v q => by rw [d] at q; cases q⟩
  | false =>
    obtain ⟨o, e, _, d⟩ := (show h.IsListIter i a n from x)
    exact ⟨o, e, fun v q => by rw [d] at q; cases q⟩
theorem IsSeqIter.at {t : Bool} {h h' : Heap} {i a : Addr} {n : Nat} (x : IsSeqIter t h i a n) (k : ∀ o, h.get? i = some o → h'.get? i = some o) : IsSeqIter t h' i a n := by
  cases t with
  | true => exact Heap.IsTupleIter.at x k
  | false => exact Heap.IsListIter.at x k
def seqIterOb (t : Bool) (a : Addr) : Obj := if t = true then { cls := .type "tuple_iterator", data := .fields #[.ref a, .int 0 0] } else { cls := .type "list_iterator", data := .fields #[.ref a, .int 0 0] }
theorem seq_apart {t : Bool} {h : Heap} {i a : Addr} {n : Nat} {items : Array Value} (x : IsSeqOf t h a items) (y : IsSeqIter t h i a n) : a ≠ i := by
  intro e
  subst e
  cases t with
  | true =>
    obtain ⟨o1, g1, g2, _⟩ := (show h.IsTuple a items from x)
    obtain ⟨o2, g3, g4, _⟩ := (show h.IsTupleIter a a n from y)
    rw [g1] at g3
    cases g3
    rw [g2] at g4
    injection g4 with g4
    exact absurd g4 (by decide)
  | false =>
    obtain ⟨o1, g1, g2, _⟩ := (show h.IsList a items from x)
    obtain ⟨o2, g3, g4, _⟩ := (show h.IsListIter a a n from y)
    rw [g1] at g3
    cases g3
    rw [g2] at g4
    injection g4 with g4
    exact absurd g4 (by decide)
theorem begins_seq (t : Bool) (a : Addr) (items : Array Value) : Begins (.ref a) (seqIterOb t a) fun h => IsSeqOf t h a items := by
  cases t with
  | true => exact begins_tuple a items
  | false => exact begins_list a items
theorem seqIter_of {t : Bool} {h : Heap} {i a : Addr} (e : h.get? i = some (seqIterOb t a)) : IsSeqIter t h i a 0 := by
  cases t with
  | true => exact ⟨_, e, rfl, rfl⟩
  | false => exact ⟨_, e, rfl, rfl⟩

/-! ### zip -/
def ItzG (K : PySem.W.Frag) (ta tb : Bool) (a b : Addr) : It :=
  ⟨fun i H => ∃ (xs ys : List V), SqG K ta H a xs ∧ SqG K tb H b ys ∧ i < xs.length ∧ i < ys.length,
    fun i H v H' => ∃ T x y, v = .ref T ∧ H T = none ∧ H' = upd H T (.tup [x, y]) ∧ (∀ xs, SqG K ta H a xs → xs[i]? = some x) ∧ ∀ ys, SqG K tb H b ys → ys[i]? = some y,
    fun i H => ∃ xs ys : List V, SqG K ta H a xs ∧ SqG K tb H b ys ∧ (xs.length = i ∨ ys.length = i) ∧ i ≤ xs.length ∧ i ≤ ys.length⟩
theorem turn_zipG {P : Program} {w : World} {K : PySem.W.Frag} {elts : List Expr} {kk : Nat} {tpos : Pos} {ta tb : Bool} {a b z TI TO i1 i2 : Addr} (S : ZipSep2 z TI TO i1 i2 [i1, a] [i2, b]) :
    Turn P w K (.Tuple elts kk tpos) (ItzG K ta tb a b) [z, TI, TO, i1, i2] z (fun i h => IsZip h z TI TO .none ∧ IsTupOf2 h TI (.ref i1) (.ref i2) ∧ (∃ x y, IsTupOf2 h TO x y) ∧ IsSeqIter ta h i1 a i ∧ IsSeqIter tb h i2 b i) where
  mem := by simp
  obj := fun i h st c hc => by
    obtain ⟨hz, hTI, ⟨x, y, hTO⟩, h1, h2⟩ := st
    have e' : c = z ∨ c = TI ∨ c = TO ∨ c = i1 ∨ c = i2 := by simpa using hc
    rcases e' with q | q | q | q | q
    · rw [q]; exact ⟨_, hz, fun v q => nomatch q⟩
    · rw [q]; exact ⟨_, hTI, fun v q => nomatch q⟩
    · rw [q]; exact ⟨_, hTO, fun v q => nomatch q⟩
    · rw [q]; exact h1.ob
    · rw [q]; exact h2.ob
  keep := fun i h h' st k => by
    obtain ⟨hz, hTI, ⟨x, y, hTO⟩, h1, h2⟩ := st
    exact ⟨k z (by simp) _ hz, k TI (by simp) _ hTI, ⟨x, y, k TO (by simp) _ hTO⟩, h1.at fun o q => k i1 (by simp) o q, h2.at fun o q => k i2 (by simp) o q⟩
  item := by
    intro X hP hw hK hc i pins s σ H E I hf st hg
    subst hP hw hK
    obtain ⟨hz, hTI, hTO, h1, h2⟩ := st
    obtain ⟨xs, ys, hqx, hqy, hx, hy⟩ := hg
    obtain ⟨its, rv, p⟩ := hqx.at I
    obtain ⟨its2, rv2, p2⟩ := hqy.at I
    have l1 := rv.length
    have l2 := rv2.length
    have hh : X.A.in1.handled = none := I.ok.hd hc
    have D1 := draws_seq (prog := X.prog) (w := X.w) hh ta i1 a (seq_apart p h1) its.toArray
    have D2 := draws_seq (prog := X.prog) (w := X.w) hh tb i2 b (seq_apart p2 h2) its2.toArray
    refine wpAny_mono ((GoesN.zip2 (elts := elts) (x1 := kk) (pos := tpos) S D1 D2).goes i s (fun v s2 => ∃ x H', Inv X pins σ H' s2 ∧ RelV x v ∧ (ItzG X.K ta tb a b).yld i H x H' ∧
      (IsZip s2.heap z TI TO .none ∧ IsTupOf2 s2.heap TI (.ref i1) (.ref i2) ∧ (∃ x y, IsTupOf2 s2.heap TO x y) ∧ IsSeqIter ta s2.heap i1 a (i + 1) ∧ IsSeqIter tb s2.heap i2 b (i + 1)) ∧ ∀ c ∈ [z, TI, TO, i1, i2], H' c = none) E (by simp; omega) ⟨hz, hTI, hTO, ⟨h1, p⟩, ⟨h2, p2⟩⟩ fun v h' tk hY st' hk htk => ?_) (fun r s1 hr => hr) fun _ _ e => e
    obtain ⟨T, x, y, rfl, hTn, hx1, hy1, hT⟩ := hY
    obtain ⟨g1, g2, g3, ⟨g4, _⟩, ⟨g5, _⟩⟩ := st'
    have hxs : xs[i]? = some xs[i] := List.getElem?_eq_getElem hx
    have hys : ys[i]? = some ys[i] := List.getElem?_eq_getElem hy
    obtain ⟨u, hu, ru⟩ := rv.get hxs
    obtain ⟨u2, hu2, ru2⟩ := rv2.get hys
    have hx1 : its[i]? = some x := by simpa using hx1
    have hy1 : its2[i]? = some y := by simpa using hy1
    rw [hu] at hx1
    rw [hu2] at hy1
    cases hx1
    cases hy1
    have new : ObjOk X.prog X.w (upd H T (.tup [xs[i], ys[i]])) h' T (.tup [xs[i], ys[i]]) := ⟨by show 2 ≤ sizeLine; decide, [x, y], .cons ru (.cons ru2 .nil), hT⟩
    have fresh : H T = none := I.hok.fresh hTn
    refine ⟨.ref T, upd H T (.tup [xs[i], ys[i]]), I.turnedNew (t' := tk) (ch := [z, TI, TO, i1, i2]) (fun c o hb q => hk c o (fun hm => hb ?_) q) hf hTn new, rfl, ⟨T, _, _, rfl, fresh, rfl, fun l hl => by rw [SqG.inj I hl hqx]; exact hxs, fun l hl => by rw [SqG.inj I hl hqy]; exact hys⟩, ⟨g1, g2, g3, g4, g5⟩, fun c hc => ?_⟩
    · have q : c = z ∨ c = TO ∨ c = i1 ∨ c = i2 := by simpa using hm
      rcases q with q | q | q | q <;> simp [q]
    · have hlt : c < s.heap.objs.size := by
        have e' : c = z ∨ c = TI ∨ c = TO ∨ c = i1 ∨ c = i2 := by simpa using hc
        obtain ⟨x0, y0, hTO⟩ := hTO
        rcases e' with q | q | q | q | q
        · rw [q]; exact Heap.lt_size hz
        · rw [q]; exact Heap.lt_size hTI
        · rw [q]; exact Heap.lt_size hTO
        · rw [q]; obtain ⟨_, e1, _⟩ := h1.ob; exact Heap.lt_size e1
        · rw [q]; obtain ⟨_, e2, _⟩ := h2.ob; exact Heap.lt_size e2
      rw [upd_ne (Nat.ne_of_lt (Nat.lt_of_lt_of_le hlt hTn))]
      exact (hf c hc).1
  done := by
    intro X hP hw hK hc i pins s σ H E I hf st hg
    subst hP hw hK
    obtain ⟨hz, hTI, hTO, h1, h2⟩ := st
    obtain ⟨xs, ys, hqx, hqy, hend, hx, hy⟩ := hg
    obtain ⟨its, rv, p⟩ := hqx.at I
    obtain ⟨its2, rv2, p2⟩ := hqy.at I
    have l1 := rv.length
    have l2 := rv2.length
    have hh : X.A.in1.handled = none := I.ok.hd hc
    have D1 := draws_seq (prog := X.prog) (w := X.w) hh ta i1 a (seq_apart p h1) its.toArray
    have D2 := draws_seq (prog := X.prog) (w := X.w) hh tb i2 b (seq_apart p2 h2) its2.toArray
    have hi : min its.toArray.size its2.toArray.size = i := by
      simp only [List.size_toArray]
      omega
    have G := (GoesN.zip2 (elts := elts) (x1 := kk) (pos := tpos) S D1 D2).stops s (fun s1 => Inv X pins σ H s1) E
    rw [hi] at G
    refine G ⟨hz, hTI, hTO, ⟨h1, p⟩, ⟨h2, p2⟩⟩ fun h' tk hk htk => ?_
    refine I.turnedL (t' := tk) (ch := [z, TI, TO, i1, i2]) (fun c o hb q => hk c o (fun hm => hb ?_) q) hf
    have q : c = z ∨ c = TO ∨ c = i1 ∨ c = i2 := by simpa using hm
    rcases q with q | q | q | q <;> simp [q]
  self := fun A i s Q E st h => wpAny_pyIter_zip st.1 h
def iZipG (K : PySem.W.Frag) (ta : TA) : TI := fun σ H R => ta σ H fun vs H1 => ∃ a b t1 t2 xs ys, vs = [.ref a, .ref b] ∧ SqG K t1 H1 a xs ∧ SqG K t2 H1 b ys ∧ R (ItzG K t1 t2 a b) H1
theorem pi_zipG {X : Cx} {e e2 : Expr} {ta : TA} {p pos tpos : Pos} {elts : List Expr} {kk : Nat} (hg : Gl X "zip") (hm : X.mg "zip" = none) (ha : PA X [e, e2] ta)
    (hs : starEach [e, e2] X.env = (false, eval e X.env) :: starEach [e2] X.env := by rfl) (hpl : (backTo pos (starEach [e2] X.env)).any (·.1) = false := by rfl) :
    PI X (.Tuple elts kk tpos) (.Call (.Name "zip" p) [e, e2] [] pos) (iZipG X.K ta) := by
  refine ⟨fun pins s σ H R I h => ?_⟩
  refine Call_ (ld_blt I hg hm PyProof.Rows.boot_zip (PyProof.Rows.callWith_type1 (thn (ha.run pos pins s σ H _ I h) fun us s1 ⟨vs, H1, I1, r1, q1⟩ => ?_) hs hpl))
  obtain ⟨a, b, t1, t2, xs, ys, rfl, hqx, hqy, q⟩ := q1
  obtain ⟨u1, u2, rfl, e1, e2⟩ := vals2 r1
  obtain rfl : u1 = Value.ref a := e1
  obtain rfl : u2 = Value.ref b := e2
  obtain ⟨its, rv, p1⟩ := hqx.at I1
  obtain ⟨its2, rv2, p2⟩ := hqy.at I1
  have a1 := p1.lt
  have a2 := p2.lt
  refine zip_begins2 (begins_seq t1 a its.toArray) (begins_seq t2 b its2.toArray) p1 p2 fun h' hz hTI hTO h1 h2 hsz hk => wpAny_pyIter_zip hz ?_
  have I2 : Inv X pins σ H1 { s1 with heap := h' } := I1.kept (t' := s1.toks) hk
  have S := zip_sep2 (N := s1.heap.objs.size) (fp1 := [a]) (fp2 := [b]) (fun c hc => by rw [List.mem_singleton.mp hc]; exact a1) (fun c hc => by rw [List.mem_singleton.mp hc]; exact a2)
  refine ⟨s1.heap.objs.size + 4, [s1.heap.objs.size + 4, s1.heap.objs.size + 2, s1.heap.objs.size + 3, s1.heap.objs.size, s1.heap.objs.size + 1], _, _, H1, rfl, I2, turn_zipG S, ⟨hz, hTI, ⟨_, _, hTO⟩, seqIter_of h1, seqIter_of h2⟩, fun c hcm => ?_, q⟩
  have e' : c = s1.heap.objs.size + 4 ∨ c = s1.heap.objs.size + 2 ∨ c = s1.heap.objs.size + 3 ∨ c = s1.heap.objs.size ∨ c = s1.heap.objs.size + 1 := by simpa using hcm
  have hle : s1.heap.objs.size ≤ c := by
    rcases e' with z | z | z | z | z
    · rw [z]; exact Nat.le_add_right _ _
    · rw [z]; exact Nat.le_add_right _ _
    · rw [z]; exact Nat.le_add_right _ _
    · rw [z]; exact Nat.le_refl _
    · rw [z]; exact Nat.le_add_right _ _
  exact I1.fpOk hle (I1.hok.fresh hle)
/-- a walk told by its items: a loop's W, a comprehension's -/
theorem for_zipG {K : PySem.W.Frag} {t1 t2 : Bool} {a b : Addr} {xs ys : List V} {g : TG} {tb : TS} {D : Ends} {σ : L2.St} {H : Hp} (hl : xs.length = ys.length) (Pv : Nat → L2.St → Hp → Prop) (h0 : Pv 0 σ H) (hq : ∀ i σ H, Pv i σ H → SqG K t1 H a xs ∧ SqG K t2 H b ys)
    (hs : ∀ (i : Nat) (x y : V) (T : Addr) (σ : L2.St) (H : Hp), xs[i]? = some x → ys[i]? = some y → Pv i σ H → H T = none → g (.ref T) σ (upd H T (.tup [x, y])) fun σ2 H2 => tb { D with nx := Pv (i + 1), ct := Pv (i + 1), bk := D.nx } σ2 H2) (hd : ∀ σ H, Pv xs.length σ H → D.nx σ H) :
    ∃ W : Nat → Nat → L2.St → Hp → Prop, (∃ m, W 0 m σ H) ∧ ∀ i m σ H, W i m σ H →
      ((ItzG K t1 t2 a b).stop i H ∧ D.nx σ H) ∨ ((ItzG K t1 t2 a b).go i H ∧ ∃ N : L2.St → Hp → Prop, (∀ σ' H', N σ' H' → ∃ m', m' < m ∧ W (i + 1) m' σ' H') ∧ ∀ v H', (ItzG K t1 t2 a b).yld i H v H' → g v σ H' fun σ2 H2 => tb { D with nx := N, ct := N, bk := D.nx } σ2 H2) := by
  refine ⟨fun i m σ H => m = xs.length - i ∧ i ≤ xs.length ∧ Pv i σ H, ⟨xs.length, rfl, Nat.zero_le _, h0⟩, ?_⟩
  rintro i m σ H ⟨rfl, hi, p⟩
  obtain ⟨qx, qy⟩ := hq i σ H p
  by_cases hlt : i < xs.length
  · refine .inr ⟨⟨xs, ys, qx, qy, hlt, by omega⟩, Pv (i + 1), fun σ' H' p' => ⟨xs.length - (i + 1), by omega, rfl, hlt, p'⟩, fun v H' y => ?_⟩
    obtain ⟨T, x', y', rfl, hT, rfl, f1, f2⟩ := y
    exact hs i x' y' T σ H (f1 xs qx) (f2 ys qy) p hT
  · have e : i = xs.length := by omega
    subst e
    exact .inl ⟨⟨xs, ys, qx, qy, .inl rfl, Nat.le_refl _, by omega⟩, hd σ H p⟩
/-- [e for a, b in zip(xs, ys)] -/
theorem lc_zipG {K : PySem.W.Frag} {t1 t2 : Bool} {a b : Addr} {xs ys : List V} {g : TG} {tt : TT} {te : TE} {vs : List Nat} {σ : L2.St} {H : Hp} {D : Addr} {Q : VK} (hl : xs.length = ys.length) (Pv : Nat → Hp → Prop) (h0 : Pv 0 (upd H D (.lst []))) (hq : ∀ i H, Pv i H → SqG K t1 H a xs ∧ SqG K t2 H b ys)
    (hs : ∀ (i : Nat) (x y : V) (T : Addr) (H : Hp), xs[i]? = some x → ys[i]? = some y → Pv i H → H T = none → g (.ref T) (wipe σ vs) (upd H T (.tup [x, y])) fun σ2 H2 => wipe σ2 vs = wipe σ vs ∧ tt σ2 H2 fun c H3 =>
      if c = true then te σ2 H3 fun z H4 => ∃ acc, H4 D = some (.lst acc) ∧ acc.length < sizeLine ∧ Pv (i + 1) (upd H4 D (.lst (acc ++ [z]))) else Pv (i + 1) H3) (hd : ∀ H, Pv xs.length H → Q (.ref D) H) :
    ∃ W : Nat → Nat → Hp → Prop, (∃ m, W 0 m (upd H D (.lst []))) ∧ ∀ i m H, W i m H →
      ((ItzG K t1 t2 a b).stop i H ∧ Q (.ref D) H) ∨ ((ItzG K t1 t2 a b).go i H ∧ ∃ Nx : Hp → Prop, (∀ H', Nx H' → ∃ m', m' < m ∧ W (i + 1) m' H') ∧ ∀ x H', (ItzG K t1 t2 a b).yld i H x H' → g x (wipe σ vs) H' fun σ2 H2 => wipe σ2 vs = wipe σ vs ∧ tt σ2 H2 fun b H3 =>
        if b = true then te σ2 H3 fun y H4 => ∃ acc, H4 D = some (.lst acc) ∧ acc.length < sizeLine ∧ Nx (upd H4 D (.lst (acc ++ [y]))) else Nx H3) := by
  refine ⟨fun i m H => m = xs.length - i ∧ i ≤ xs.length ∧ Pv i H, ⟨xs.length, rfl, Nat.zero_le _, h0⟩, ?_⟩
  rintro i m H ⟨rfl, hi, p⟩
  obtain ⟨qx, qy⟩ := hq i H p
  by_cases hlt : i < xs.length
  · refine .inr ⟨⟨xs, ys, qx, qy, hlt, by omega⟩, Pv (i + 1), fun H' p' => ⟨xs.length - (i + 1), by omega, rfl, hlt, p'⟩, fun v H' y => ?_⟩
    obtain ⟨T, x', y', rfl, hT, rfl, f1, f2⟩ := y
    exact hs i x' y' T H (f1 xs qx) (f2 ys qy) p hT
  · have e : i = xs.length := by omega
    subst e
    exact .inl ⟨⟨xs, ys, qx, qy, .inl rfl, Nat.le_refl _, by omega⟩, hd H p⟩
end K70

end
section
set_option maxRecDepth 100000
set_option maxHeartbeats 4000000
/-! Rules: enumerate of a list or a tuple, methods called with keywords. -/
namespace K70
open PySem PySem.Spec PyProof.Rows L2

def IteG (K : PySem.W.Frag) (t : Bool) (a : Addr) : It :=
  ⟨fun i H => ∃ (xs : List V), SqG K t H a xs ∧ i < xs.length, fun i H v H' => ∃ T x, v = .ref T ∧ H T = none ∧ H' = upd H T (.tup [.int (i : Nat), x]) ∧ ∀ xs, SqG K t H a xs → xs[i]? = some x, fun i H => ∃ xs : List V, SqG K t H a xs ∧ xs.length = i⟩
theorem turn_enumG {P : Program} {w : World} {K : PySem.W.Frag} {elts : List Expr} {kk : Nat} {tpos : Pos} {t : Bool} {a e it : Addr} (hei : e ≠ it) (hea : e ≠ a) :
    Turn P w K (.Tuple elts kk tpos) (IteG K t a) [e, it] e (fun i h => (∃ old, IsEnum h e it (0 + (i : Int)) old) ∧ IsSeqIter t h it a i) where
  mem := by simp
  obj := fun i h st b hb => by
    obtain ⟨⟨old, he⟩, hit⟩ := st
    have q : b = e ∨ b = it := by simpa using hb
    rcases q with q | q
    · rw [q]; exact ⟨_, he, fun v z => nomatch z⟩
    · rw [q]; exact hit.ob
  keep := fun i h h' st k => by
    obtain ⟨⟨old, he⟩, hit⟩ := st
    exact ⟨⟨old, k e (by simp) _ he⟩, hit.at fun o q => k it (by simp) o q⟩
  item := by
    intro X hP hw hK hc i pins s σ H E I hf st hg
    subst hP hw hK
    obtain ⟨he, hit⟩ := st
    obtain ⟨xs, hq, hx⟩ := hg
    obtain ⟨its, rv, p⟩ := hq.at I
    have l1 := rv.length
    have D1 := draws_seq (prog := X.prog) (w := X.w) (show X.A.in1.handled = none from I.ok.hd hc) t it a (seq_apart p hit) its.toArray
    have hef : e ∉ [it, a] := by
      simp only [List.mem_cons, List.not_mem_nil, or_false, not_or]
      exact ⟨hei, hea⟩
    refine wpAny_mono ((GoesN.enumFrom (elts := elts) (x1 := kk) (pos := tpos) 0 D1 e hei hef (by simp)).goes i s (fun v s2 => ∃ x H', Inv X pins σ H' s2 ∧ RelV x v ∧ (IteG X.K t a).yld i H x H' ∧
      ((∃ old, IsEnum s2.heap e it (0 + ((i + 1 : Nat) : Int)) old) ∧ IsSeqIter t s2.heap it a (i + 1)) ∧ ∀ c ∈ [e, it], H' c = none) E (by simp; omega) ⟨he, ⟨hit, p⟩⟩ fun v h' tk hY st' hk htk => ?_) (fun r s1 hr => hr) fun _ _ z => z
    obtain ⟨T, tt, x, rfl, hTn, hx1, hT⟩ := hY
    obtain ⟨g1, ⟨g2, _⟩⟩ := st'
    have hxs : xs[i]? = some xs[i] := List.getElem?_eq_getElem hx
    obtain ⟨u, hu, ru⟩ := rv.get hxs
    have hx1 : its[i]? = some x := by simpa using hx1
    rw [hu] at hx1
    cases hx1
    have e0 : (0 : Int) + (i : Int) = (i : Int) := by omega
    rw [e0] at hT
    have new : ObjOk X.prog X.w (upd H T (.tup [.int (i : Nat), xs[i]])) h' T (.tup [.int (i : Nat), xs[i]]) := ⟨by show 2 ≤ sizeLine; decide, [.int (i : Nat) tt, x], .cons ⟨tt, rfl⟩ (.cons ru .nil), hT⟩
    refine ⟨.ref T, upd H T (.tup [.int (i : Nat), xs[i]]), I.turnedNew (t' := tk) (ch := [e, it]) (fun c o hb q => hk c o hb q) hf hTn new, rfl, ⟨T, _, rfl, I.hok.fresh hTn, rfl, fun l hl => by rw [SqG.inj I hl hq]; exact hxs⟩, ⟨g1, g2⟩, fun c hc => ?_⟩
    have hlt : c < s.heap.objs.size := by
      have q : c = e ∨ c = it := by simpa using hc
      obtain ⟨old, he⟩ := he
      rcases q with q | q
      · rw [q]; exact Heap.lt_size he
      · rw [q]; obtain ⟨_, e1, _⟩ := hit.ob; exact Heap.lt_size e1
    rw [upd_ne (Nat.ne_of_lt (Nat.lt_of_lt_of_le hlt hTn))]
    exact (hf c hc).1
  done := by
    intro X hP hw hK hc i pins s σ H E I hf st hg
    subst hP hw hK
    obtain ⟨he, hit⟩ := st
    obtain ⟨xs, hq, hx⟩ := hg
    obtain ⟨its, rv, p⟩ := hq.at I
    have l1 := rv.length
    have D1 := draws_seq (prog := X.prog) (w := X.w) (show X.A.in1.handled = none from I.ok.hd hc) t it a (seq_apart p hit) its.toArray
    have hef : e ∉ [it, a] := by
      simp only [List.mem_cons, List.not_mem_nil, or_false, not_or]
      exact ⟨hei, hea⟩
    have hi : its.toArray.size = i := by
      simp only [List.size_toArray]
      omega
    have G := (GoesN.enumFrom (elts := elts) (x1 := kk) (pos := tpos) 0 D1 e hei hef (by simp)).stops s (fun s1 => Inv X pins σ H s1) E
    rw [hi] at G
    exact G ⟨he, ⟨hit, p⟩⟩ fun h' tk hk htk => I.turnedL (t' := tk) (ch := [e, it]) (fun c o hb q => hk c o hb q) hf
  self := fun A i s Q E st h => let ⟨⟨_, he⟩, _⟩ := st; wpAny_pyIter_enum he h
set_option maxHeartbeats 1000000 in
theorem meets_enum1 {v : Value} {o : Obj} {G : Heap → Prop} (B : Begins v o G) :
    Meets (Builtin.«enumerate.__new__» ⟨[.type "enumerate", v], []⟩) (fun _ R s => G s.heap ∧
      R (.ok (.ret (.ref (s.heap.push o).objs.size))) { s with heap := (s.heap.push o).push { cls := .type "enumerate", data := .fields #[.none, .bool false, .ref s.heap.objs.size, rawInt 0, .none, .none] } }) :=
  .of_wp fun prog w A R s h => by
    obtain ⟨hp, g, d, tk, os⟩ := s
    obtain ⟨h1, h⟩ := h
    have hsub := sub_enumerate
    have q1 : ∀ {A' : Around} {E : Value → Shared → Prop} {Q : Value → Shared → Prop}, Q (.ref hp.objs.size) ⟨hp.push o, g, d, tk, os⟩ → wpAny (model prog w) A' (pyIter v) Q E ⟨hp, g, d, tk, os⟩ :=
      fun q => B.iter prog w _ _ ⟨hp, g, d, tk, os⟩ _ h1 q
    wp_walk using q1
    refine wpAny_stack_any fun st => wpAny_pure ?_
    split
    · rename_i c _ _ _ _ _
      cases (c == Value.type "enumerate") <;> (wp_walk using q1; exact ⟨_, rfl, h⟩)
    · wp_walk using q1
      exact ⟨_, rfl, h⟩
theorem call_enum1 {prog : Program} {w : World} {A : Around} {E : Value → Shared → Prop} {s : Shared} {v : Value} {o : Obj} {G : Heap → Prop} {Q : Value → Shared → Prop} (B : Begins v o G) (h1 : G s.heap)
    (h : ∀ h', IsEnum h' (s.heap.objs.size + 1) s.heap.objs.size 0 .none → h'.get? s.heap.objs.size = some o →
      (∀ b o, s.heap.get? b = some o → h'.get? b = some o) → Q (.ref (s.heap.objs.size + 1)) { s with heap := h' }) :
    wpAny (model prog w) A (call (.type "enumerate") [v]) Q E s := by
  refine callType_new F.called_enumerate (by decide) (F.typeCall_enumerate_1 _) (F.newCall_enumerate_1 _) (fun obj => F.args_object_init_2 obj _) F.entry_enumerate_new (meets_enum1 B) ⟨h1, ?_⟩
  have hz : (s.heap.push o).objs.size = s.heap.objs.size + 1 := Heap.size_push ..
  show _ ∧ _
  rw [hz]
  have he : IsEnum ((s.heap.push o).push { cls := .type "enumerate", data := .fields #[.none, .bool false, .ref s.heap.objs.size, rawInt 0, .none, .none] }) (s.heap.objs.size + 1) s.heap.objs.size 0 .none := by
    have q := Heap.get?_push_size (s.heap.push o) (o := { cls := .type "enumerate", data := .fields #[.none, .bool false, .ref s.heap.objs.size, rawInt 0, .none, .none] }) rfl
    rw [hz] at q
    exact q
  exact ⟨⟨_, he, rfl⟩, h _ he (Heap.get?_push_of_some _ (Heap.get?_push_size _ B.free)) fun b u x => Heap.get?_push_of_some _ (Heap.get?_push_of_some _ x)⟩
def iEnumG (K : PySem.W.Frag) (ta : TA) : TI := fun σ H R => ta σ H fun vs H1 => ∃ a t xs, vs = [.ref a] ∧ SqG K t H1 a xs ∧ R (IteG K t a) H1
theorem pi_enumG {X : Cx} {e : Expr} {ta : TA} {p pos tpos : Pos} {elts : List Expr} {kk : Nat} (hg : Gl X "enumerate") (hm : X.mg "enumerate" = none) (ha : PA X [e] ta) (hs : starEach [e] X.env = [(false, eval e X.env)] := by rfl) :
    PI X (.Tuple elts kk tpos) (.Call (.Name "enumerate" p) [e] [] pos) (iEnumG X.K ta) := by
  refine ⟨fun pins s σ H R I h => ?_⟩
  refine Call_ (ld_blt I hg hm boot_enumerate (PyProof.Rows.callWith_type1 (thn (ha.run pos pins s σ H _ I h) fun us s1 ⟨vs, H1, I1, r1, q1⟩ => ?_) hs rfl))
  obtain ⟨a, t, xs, rfl, hq, q⟩ := q1
  obtain ⟨u, rfl, e1⟩ := vals1 r1
  obtain rfl : u = Value.ref a := e1
  obtain ⟨its, rv, p'⟩ := hq.at I1
  have hlt := p'.lt
  refine call_enum1 (begins_seq t a its.toArray) p' fun h' he hit hk => wpAny_pyIter_enum he ?_
  have I2 : Inv X pins σ H1 { s1 with heap := h' } := I1.kept (t' := s1.toks) hk
  refine ⟨s1.heap.objs.size + 1, [s1.heap.objs.size + 1, s1.heap.objs.size], _, _, H1, rfl, I2, turn_enumG (t := t) (a := a) (Nat.succ_ne_self _) (Nat.ne_of_gt (Nat.lt_succ_of_lt hlt)), ⟨⟨.none, he⟩, seqIter_of hit⟩, fun b hb => ?_, q⟩
  have e' : b = s1.heap.objs.size + 1 ∨ b = s1.heap.objs.size := by simpa using hb
  have hle : s1.heap.objs.size ≤ b := by
    rcases e' with z | z
    · rw [z]; exact Nat.le_add_right _ _
    · rw [z]; exact Nat.le_refl _
  exact I1.fpOk hle (I1.hok.fresh hle)
theorem for_enumG {K : PySem.W.Frag} {t : Bool} {a : Addr} {xs : List V} {g : TG} {tb : TS} {D : Ends} {σ : L2.St} {H : Hp} (Pv : Nat → L2.St → Hp → Prop) (h0 : Pv 0 σ H) (hq : ∀ i σ H, Pv i σ H → SqG K t H a xs)
    (hs : ∀ (i : Nat) (x : V) (T : Addr) (σ : L2.St) (H : Hp), xs[i]? = some x → Pv i σ H → H T = none → g (.ref T) σ (upd H T (.tup [.int (i : Nat), x])) fun σ2 H2 => tb { D with nx := Pv (i + 1), ct := Pv (i + 1), bk := D.nx } σ2 H2) (hd : ∀ σ H, Pv xs.length σ H → D.nx σ H) :
    ∃ W : Nat → Nat → L2.St → Hp → Prop, (∃ m, W 0 m σ H) ∧ ∀ i m σ H, W i m σ H →
      ((IteG K t a).stop i H ∧ D.nx σ H) ∨ ((IteG K t a).go i H ∧ ∃ N : L2.St → Hp → Prop, (∀ σ' H', N σ' H' → ∃ m', m' < m ∧ W (i + 1) m' σ' H') ∧ ∀ v H', (IteG K t a).yld i H v H' → g v σ H' fun σ2 H2 => tb { D with nx := N, ct := N, bk := D.nx } σ2 H2) := by
  refine ⟨fun i m σ H => m = xs.length - i ∧ i ≤ xs.length ∧ Pv i σ H, ⟨xs.length, rfl, Nat.zero_le _, h0⟩, ?_⟩
  rintro i m σ H ⟨rfl, hi, p⟩
  have qx := hq i σ H p
  by_cases hlt : i < xs.length
  · refine .inr ⟨⟨xs, qx, hlt⟩, Pv (i + 1), fun σ' H' p' => ⟨xs.length - (i + 1), by omega, rfl, hlt, p'⟩, fun v H' y => ?_⟩
    obtain ⟨T, x', rfl, hT, rfl, f1⟩ := y
    exact hs i x' T σ H (f1 xs qx) p hT
  · have e : i = xs.length := by omega
    subst e
    exact .inl ⟨⟨xs, qx, rfl⟩, hd σ H p⟩
end K70

end
section
set_option maxRecDepth 100000
set_option maxHeartbeats 4000000
/-! Rules: o.m(a, k = b); an own exception's base.__init__; a dict whose keys are places. -/
namespace K70
open PySem PySem.Spec PyProof.Rows L2

/-! ### o.m(e, .., k = v, ..) -/
def tMethKw (C : Addr) (m : Str) (sp : Sp) (gV : List V → List V → List V) (E : XK) (ta : TE) (t tk : TA) : TE := fun σ H Q => ta σ H fun x H1 => ∃ a dx fs, x = .ref a ∧ H1 a = some (.ins C dx fs) ∧ fs.lookup m = none ∧ t σ H1 fun vs H2 => tk σ H2 fun zs H3 => sp (gV (x :: vs) zs) H3 Q E
section
variable {X : Cx} {CX : CXT} {k : Nat} {f C : Addr} {fd : FuncData} {ps ks : List Str} {sp : Sp} {E : XK} {m : Str} {pos apos : Pos} {e o : Expr} {es : List Expr} {kws : List Keyword} {ta : TE} {t tk : TA} {g : List Value → List Value → List Value} {gV : List V → List V → List V}
theorem pe_methKw {pl : Sem Bool} (he : PE X o ta) (c : Cls X.K C) (hm : Meth X.K C m f) (F : FnOk X.prog X.w X.K X.mg X.base CX k f fd ps sp) (hr : Room k X.A) (hb : KBinds X.K fd ps ks g gV) (hx : Passes CX X E) (ha : PA X (e :: es) t) (hkw : PK X kws tk)
    (hall : (backToKw pos (keywordEach kws X.env)).all (·.1.isSome) = true := by rfl) (hks : (backToKw pos (keywordEach kws X.env)).filterMap (·.1) = ks := by rfl)
    (hst : starEach (e :: es) X.env = (false, eval e X.env) :: starEach es X.env := by rfl) (hpl : ((backTo pos (starEach (e :: es) X.env)).any (·.1) || (backToKw pos (keywordEach kws X.env)).any (·.1.isNone)) = false := by rfl)
    (ht : eval (.Call (.Attribute o m apos) (e :: es) kws pos) X.env = (do
      let ov ← eval o X.env
      standAt apos.atName
      let (f, first) ← holding [ov] (getMethod ov m pl)
      callWith pos f first (backTo pos (starEach (e :: es) X.env)) (backToKw pos (keywordEach kws X.env))) := by rfl) :
    PE X (.Call (.Attribute o m apos) (e :: es) kws pos) (tMethKw C m sp gV E ta t tk) := by
  refine ⟨fun pins s σ H Q I h => ?_⟩
  refine PySem.W.methodCall_KW (pl := pl) (thn (he.run pins s σ H _ I h) fun u s1 ⟨x, H1, I1, rx, a, dx, fs, ex, ea, l, q⟩ => ?_) ht
  subst ex
  obtain rfl : u = Value.ref a := rx
  refine getmeth_ok I1 ea c hm l ?_
  refine PySem.W.callWith_KW (first := [.ref a]) (h₀ := X.base) I.ok.mod.kin hm.kp hall (thn (ha.run pos pins s1 σ H1 _ I1 q) fun us s2 ⟨vs, H2, I2, r, q2⟩ => ?_) hpl hst
  refine thn (hkw.run pos pins s2 σ H2 _ I2 q2) fun ws s3 ⟨zs, H3, I3, rz, q3⟩ => ⟨I3.kIn, ?_⟩
  rw [hks]
  exact run_fnk (us := .ref a :: us) (vs := .ref a :: vs) F hr hb hx I3 (.cons rfl r) rz q3
end

/-! ### B.__init__(self, ..), B an own base over ValueError -/
structure PeB (K : PySem.W.Frag) (B : Addr) : Prop where
  rd : PySem.W.readsIn K B (.type "type") = true
  ga : PySem.W.specialIn K (.ref B) "__getattribute__" = some (some (.builtin "type.__getattribute__"))
  at_ : PySem.W.findCls K (.ref B) (.type "type") "__init__" = some (.val (.builtin "ValueError.__init__"))
section
variable {X : Cx} {e : Expr} {es : List Expr} {ta : TA} {x : Str} {p1 p2 pos : Pos}
theorem pe_baseInit {pl : Sem Bool} {B : Addr} (hg : Gl X x) (hm : X.mg x = some (.ref B)) (b : PeB X.K B) (ha : PA X (e :: es) ta) (hdb : (x == ("__debug__" : Str)) = false := by decide)
    (hc : eval (.Call (.Attribute (.Name x p1) "__init__" p2) (e :: es) [] pos) X.env = (do
      let ov ← eval (.Name x p1) X.env
      standAt p2.atName
      let (f, first) ← holding [ov] (getMethod ov "__init__" pl)
      callWith pos f first (backTo pos (starEach (e :: es) X.env)) (backToKw pos (keywordEach [] X.env))) := by rfl)
    (he : starEach (e :: es) X.env = (false, eval e X.env) :: starEach es X.env := by rfl) (hpl : (backTo pos (starEach es X.env)).any (·.1) = false := by rfl) :
    PE X (.Call (.Attribute (.Name x p1) "__init__" p2) (e :: es) [] pos) (tVeI X.K ta) := by
  refine ⟨fun pins s σ H Q I h => ?_⟩
  refine PySem.W.methodCall_KW (ld_glob I hg hm ?_ hdb) hc
  refine PySem.W.method_cls I.kIn b.ga (PySem.W.cls_value I.kIn b.rd b.at_ (by decide +kernel) ?_)
  show wpAny _ _ (callWith pos (Value.builtin "ValueError.__init__") [] (backTo pos (starEach (e :: es) X.env)) []) _ _ _
  refine PyProof.Rows.callWith_method1 (thn (ha.run pos pins _ σ H _ (I.tok _) h) fun us s1 ⟨vs, H1, I1, r1, a, C, ws, ev, hl, T, ea, q⟩ => ?_) he hpl
  subst ev
  cases r1 with
  | @cons _ u0 _ ur ra rw' =>
    obtain rfl : u0 = Value.ref a := ra
    have hlen : ur.length ≤ sizeLine := by
      rw [← Paired.length rw', sizeLine_eq]
      omega
    exact oinit_ok T I1 ea hlen fun s' J => ⟨.non, H1, J, rfl, q⟩
end

/-! ### a dict whose keys are places, (form, None) or (form, shades) -/
abbrev PlaceK := Str × Option (List Str)
def toNK (k : PlaceK) : NestedKey := .tup [.text k.1, match k.2 with | none => .none | some ss => .tup (ss.map .text)]
def PlaceAt (H : Hp) (a : Addr) (k : PlaceK) : Prop := match k.2 with
  | none => H a = some (.tup [.str k.1, .non])
  | some ss => ∃ t, H a = some (.tup [.str k.1, .ref t]) ∧ H t = some (.tup (ss.map V.str))
def ndOf (xs : List (Addr × PlaceK)) : List (NestedKey × Addr × Value) := xs.map fun x => (toNK x.2, x.1, Value.bool true)
def NDO (P : Program) (w : World) (d : Addr) (xs : List (Addr × PlaceK)) : HO := .ext fun h => ∃ o es ep, h.get? d = some o ∧ o.ExactDict ∧ o.data = .dict es ep ∧ es.toList = (ndOf xs).map (entryOfKey (nestedKind P w)) ∧ ((ndOf xs).map (·.1)).Nodup
theorem ndo_ok {P : Program} {w : World} {H : Hp} {h : Heap} {d : Addr} {xs : List (Addr × PlaceK)} {o : Obj} {es : Array DictEntry} {ep : Nat} (ho : h.get? d = some o) (h1 : o.ExactDict) (h2 : o.data = .dict es ep) (h3 : es.toList = (ndOf xs).map (entryOfKey (nestedKind P w)))
    (h4 : ((ndOf xs).map (·.1)).Nodup) : ObjOk P w H h d (NDO P w d xs) :=
  ⟨⟨o, es, ep, ho, h1, h2, h3, h4⟩, ⟨o, ho⟩, fun g1 g2 ⟨o', es', ep', a1, a2⟩ k => ⟨o', es', ep', k _ a1, a2⟩⟩
theorem texts_nested {h : Heap} : ∀ {ss : List Str} {us : List Value}, Vals (ss.map V.str) us → NestedAll h (ss.map .text) us
  | [], _, r => by
    cases r
    exact .nil
  | x :: ss, _, r => by
    cases r with
    | cons a b =>
      obtain ⟨t, rfl⟩ := a
      exact .cons (.text x t) (texts_nested b)
section
variable {X : Cx} {pins : List (Addr × Obj)} {σ : L2.St} {H : Hp} {s : Shared}
theorem texts_depth : ∀ ss : List Str, NestedKey.depthAll (ss.map .text) = 0
  | [] => rfl
  | x :: ss => by
    show NestedKey.depthAll (NestedKey.text x :: ss.map .text) = 0
    rw [NestedKey.depthAll, texts_depth ss]
    rfl
theorem place_is (I : Inv X pins σ H s) {a : Addr} {k : PlaceK} (h : PlaceAt H a k) : (nestedKind X.prog X.w).is s.heap (toNK k) a := by
  obtain ⟨f, o⟩ := k
  cases o with
  | none =>
    have h : H a = some (.tup [.str f, .non]) := h
    obtain ⟨_, its, r, ob, e1, e2, n, e3⟩ := (show ObjOk X.prog X.w H s.heap a (.tup [.str f, .non]) from I.hok a _ h)
    obtain ⟨u1, u2, rfl, ⟨t1, rfl⟩, r2⟩ := vals2 r
    obtain rfl : u2 = Value.none := r2
    refine ⟨NestedIs.tup e1 e2 e3 (.cons (.text f t1) (.cons .none .nil)), ?_⟩
    show (NestedKey.tup [.text f, .none]).depth ≤ 8
    simp [NestedKey.depth, NestedKey.depthAll]
  | some ss =>
    obtain ⟨t, h1, h2⟩ : ∃ t, H a = some (.tup [.str f, .ref t]) ∧ H t = some (.tup (ss.map V.str)) := h
    obtain ⟨_, its, r, ob, e1, e2, n, e3⟩ := (show ObjOk X.prog X.w H s.heap a (.tup [.str f, .ref t]) from I.hok a _ h1)
    obtain ⟨u1, u2, rfl, ⟨t1, rfl⟩, r2⟩ := vals2 r
    obtain rfl : u2 = Value.ref t := r2
    obtain ⟨_, its2, r2, ob2, g1, g2, n2, g3⟩ := (show ObjOk X.prog X.w H s.heap t (.tup (ss.map V.str)) from I.hok t _ h2)
    refine ⟨NestedIs.tup e1 e2 e3 (.cons (.text f t1) (.cons (.tup g1 g2 g3 (by simpa using texts_nested r2)) .nil)), ?_⟩
    show (NestedKey.tup [.text f, .tup (ss.map .text)]).depth ≤ 8
    simp [NestedKey.depth, NestedKey.depthAll, texts_depth]
theorem not_sysm (I : Inv X pins σ H s) {a : Addr} (h : s.heap.objs.size ≤ a) : (a == sysModules) = false := by
  have hb := I.big
  have hne : a ≠ sysModules := Nat.ne_of_gt (Nat.lt_of_lt_of_le hb h)
  simpa using hne
/-- {} that will hold places: it stands apart from the table of modules -/
def tDNewN (P : Program) (w : World) : TE := fun _ H Q => ∀ p, H p = none → (p == sysModules) = false → Q (.ref p) (upd H p (NDO P w p []))
theorem pe_dnewN {pos : Pos} : PE X (.Dict [] [] pos) (tDNewN X.prog X.w) := by
  refine ⟨fun pins s σ H Q I h => wpAny_Dict_empty ?_⟩
  have ho : (s.heap.push { cls := .type "dict", data := .dict #[] }).get? s.heap.objs.size = some { cls := .type "dict", data := .dict #[] } := Heap.get?_push_size _ rfl
  obtain ⟨o, es, ep, e1, e2, e3, e4, _, e6⟩ := Heap.DictOfH.new (knd := nestedKind X.prog X.w) s.heap
  exact ⟨.ref s.heap.objs.size, _, I.laid (a := s.heap.objs.size) (o := NDO X.prog X.w s.heap.objs.size []) (t' := s.toks) (fun _ _ q => Heap.get?_push_of_some _ q) (Nat.le_refl _) (ndo_ok e1 e2 e3 e4 e6), rfl, h _ (I.hok.fresh (Nat.le_refl _)) (not_sysm I (Nat.le_refl _))⟩
theorem putAt_ndo {k : NestedKey} : ∀ (xs : List (Addr × PlaceK)), (ndOf xs).map (putAt k (Value.bool true)) = ndOf xs
  | [] => rfl
  | x :: r => by
    show putAt k (Value.bool true) (toNK x.2, x.1, Value.bool true) :: (ndOf r).map (putAt k (Value.bool true)) = _ :: ndOf r
    rw [putAt_ndo r]
    unfold putAt
    split <;> rfl
/-- d[k] = True -/
def sNPut (P : Program) (w : World) (td ty tv : TE) : TS := fun D σ H => tv σ H fun v H1 => td σ H1 fun x H2 => ty σ H2 fun y H3 => ∃ (d a : Addr) (xs : List (Addr × PlaceK)) (k : PlaceK), v = .bl true ∧ x = .ref d ∧ y = .ref a ∧ H3 d = some (NDO P w d xs) ∧
  PlaceAt H3 a k ∧ (∀ p ∈ xs, PlaceAt H3 p.1 p.2) ∧ xs.length < sizeLine ∧ ∀ xs', (xs' = xs ∨ xs' = xs ++ [(a, k)]) → D.nx σ (upd H3 d (NDO P w d xs'))
theorem ps_nput {o i value : Expr} {td ty tv : TE} {pos pos' : Pos} (hu : X.A.units + 64 < cLine) (ho : PE X o td) (hi : PE X i ty) (hv : PE X value tv) (hs : swapsWith value (some (.Subscript o i pos')) pos.line X.env = pure false := by rfl) :
    PS X (.Assign [.Subscript o i pos'] value pos) (sNPut X.prog X.w td ty tv) := by
  refine ⟨fun pins s σ H D I h => ?_⟩
  refine wpAny_Assign_Subscript (thn (hv.run pins s σ H _ I h) fun r s1 ⟨v, H1, I1, rv, q1⟩ => thn (ho.run pins s1 σ H1 _ I1 q1) fun u s2 ⟨x, H2, I2, rx, q2⟩ => thn (hi.run pins s2 σ H2 _ I2 q2) fun iv s3 ⟨y, H3, I3, ry, d, a, xs, k, ev, ex, ey, hd, hk, hks, hl, q3⟩ => ?_) hs
  subst ev
  subst ex
  subst ey
  obtain rfl : r = Value.bool true := rv
  obtain rfl : u = Value.ref d := rx
  obtain rfl : iv = Value.ref a := ry
  obtain ⟨⟨ob, es, ep, e1, e2, e3, e4, e5⟩, _⟩ := (show ObjOk X.prog X.w H3 s3.heap d (NDO X.prog X.w d xs) from I3.hok d _ hd)
  have dd : s3.heap.DictOfH (nestedKind X.prog X.w) d (ndOf xs) := ⟨ob, es, ep, e1, e2, e3, e4, fun x hx => by
    obtain ⟨p, hp, rfl⟩ := List.mem_map.mp hx
    exact place_is I3 (hks p hp), e5⟩
  refine wpAny_setItem_heap (knd := nestedKind X.prog X.w) (hsz := by unfold ndOf; rw [List.length_map]; omega) (by show X.A.units + 1 + 8 < cLine; omega) (place_is I3 hk) dd fun h' dd' hsb => ?_
  obtain ⟨o', es', ep', g1, g2, g3, g4, _, g5⟩ := dd'
  have key : ∃ xs', (xs' = xs ∨ xs' = xs ++ [(a, k)]) ∧ storedH (ndOf xs) (toNK k) a (Value.bool true) = ndOf xs' := by
    unfold storedH
    by_cases c : (atKey (ndOf xs) (toNK k)).isSome = true
    · rw [if_pos c]
      exact ⟨xs, .inl rfl, putAt_ndo xs⟩
    · rw [if_neg c]
      refine ⟨xs ++ [(a, k)], .inr rfl, ?_⟩
      unfold ndOf
      rw [List.map_append]
      rfl
  obtain ⟨xs', h1, h2⟩ := key
  rw [h2] at g4 g5
  exact ⟨σ, _, d_write I3 (by rw [hd]; exact True.intro) hsb ⟨o', g1⟩ (ndo_ok g1 g2 g3 g4 g5), q3 xs' h1⟩
theorem vals_fst : ∀ xs : List (Addr × PlaceK), Vals (xs.map fun x => V.ref x.1) (xs.map fun x => Value.ref x.1)
  | [] => .nil
  | _ :: r => .cons rfl (vals_fst r)
/-- list(d) -/
def rListN (P : Program) (w : World) : List V → Hp → VK → Prop := fun vs H Q => ∃ (d : Addr) (xs : List (Addr × PlaceK)), vs = [V.ref d] ∧ (d == sysModules) = false ∧ H d = some (NDO P w d xs) ∧ xs.length ≤ sizeLine ∧ ∀ p, H p = none → Q (.ref p) (upd H p (.lst (xs.map fun x => V.ref x.1)))
theorem cr_listN (hc : X.calm = true) : CallR X (.type "list") (rListN X.prog X.w) := by
  intro pins s σ H vs us Q I r h
  obtain ⟨d, xs, rfl, lo, hd, hlen, q⟩ := h
  rw [Vals.ref1 r]
  obtain ⟨⟨o, es, ep, ho, hx, hdt, he, hn⟩, _⟩ := (show ObjOk X.prog X.w H s.heap d (NDO X.prog X.w d xs) from I.hok d _ hd)
  have l0 : es.toList.length = xs.length := by
    rw [he, List.length_map]
    unfold ndOf
    rw [List.length_map]
  have l1 : es.size = xs.length := by
    rw [← l0]
    simp
  refine PySem.W.kdl_call (kdl_raw lo hx hdt) (I.ok.hd hc) ho (by omega) fun h' tk acc' c' kp e it => ?_
  have ea : acc'.toList = xs.map fun x => Value.ref x.1 := by
    apply List.ext_getElem?
    intro j
    rw [List.getElem?_map]
    have hl : acc'.toList.length = xs.length := by
      rw [Array.length_toList, it.1]
      exact l1
    cases hj : acc'.toList[j]? with
    | none =>
      have h1 := List.getElem?_eq_none_iff.mp hj
      rw [List.getElem?_eq_none (by omega)]
      rfl
    | some v =>
      obtain ⟨en, hen, hv⟩ := it.2 j v (by rw [← Array.getElem?_toList]; exact hj)
      have hen : es.toList[j]? = some en := by
        rw [Array.getElem?_toList]
        exact hen
      rw [he, List.getElem?_map] at hen
      unfold ndOf at hen
      rw [List.getElem?_map] at hen
      cases hb : xs[j]? with
      | none =>
        rw [hb] at hen
        cases hen
      | some b =>
        rw [hb] at hen
        have e2 := Option.some.inj hen
        rw [hv, ← e2]
        rfl
  have rv : Vals (xs.map fun x => V.ref x.1) acc'.toList := by
    rw [ea]
    exact vals_fst xs
  refine ⟨.ref s.heap.objs.size, _, I.laid (t' := tk) (o := .lst (xs.map fun x => V.ref x.1)) kp (Nat.le_refl _) ⟨by rw [List.length_map]; exact hlen, acc'.toList, c', rv, by rw [Array.toArray_toList]; exact e⟩, rfl, q _ (I.hok.fresh (Nat.le_refl _))⟩
end
end K70

end
section
set_option maxRecDepth 100000
set_option maxHeartbeats 4000000
/-! The text by places: each def, its names by slot (parameters first). -/
namespace K70
open PySem L2
def top (i : Nat) : Stmt := PySem.Challenge.pw_partkits_k70_whole_kit_more.main.body.getD i (.Pass ⟨0, 0, 0, 0⟩)
abbrev s_NoKits_init : Stmt := inClass (top 4) 0
theorem sc_NoKits_init : FnScope ["self", "paper"] ["self", "paper"] (defScope s_NoKits_init) := ⟨rfl, rfl, rfl, by decide +kernel, rfl, by decide +kernel, by decide +kernel⟩
abbrev s_counted : Stmt := top 6
theorem sc_counted : FnScope ["rows", "found", "form", "shade", "many"] ["rows"] (defScope s_counted) := ⟨rfl, rfl, rfl, by decide +kernel, rfl, by decide +kernel, by decide +kernel⟩
abbrev s_Heap_init : Stmt := inClass (top 7) 0
theorem sc_Heap_init : FnScope ["self", "rows", "counts", "form", "shade"] ["self", "rows"] (defScope s_Heap_init) := ⟨rfl, rfl, rfl, by decide +kernel, rfl, by decide +kernel, by decide +kernel⟩
abbrev s_Heap_rows : Stmt := inClass (top 7) 5
theorem sc_Heap_rows : FnScope ["self"] ["self"] (defScope s_Heap_rows) := ⟨rfl, rfl, rfl, by decide +kernel, rfl, by decide +kernel, by decide +kernel⟩
abbrev s_Heap_many : Stmt := inClass (top 7) 6
theorem sc_Heap_many : FnScope ["self", "form", "shade", "row"] ["self", "form", "shade"] (defScope s_Heap_many) := ⟨rfl, rfl, rfl, by decide +kernel, rfl, by decide +kernel, by decide +kernel⟩
abbrev s_Heap_plus : Stmt := inClass (top 7) 8
theorem sc_Heap_plus : FnScope ["self", "other"] ["self", "other"] (defScope s_Heap_plus) := ⟨rfl, rfl, rfl, by decide +kernel, rfl, by decide +kernel, by decide +kernel⟩
abbrev s_lets : Stmt := top 9
theorem sc_lets : FnScope ["heap", "want", "shade", "form", "many"] ["heap", "want"] (defScope s_lets) := ⟨rfl, rfl, rfl, by decide +kernel, rfl, by decide +kernel, by decide +kernel⟩
abbrev s_spread : Stmt := top 10
theorem sc_spread : FnScope ["heap", "wants", "gifts", "left", "k", "parts", "holders", "front", "at", "part", "other"] ["heap", "wants", "gifts", "left", "k"] (defScope s_spread) := ⟨rfl, rfl, rfl, by decide +kernel, rfl, by decide +kernel, by decide +kernel⟩
abbrev s_way_of : Stmt := top 11
theorem sc_way_of : FnScope ["parts", "holders", "part", "found", "one"] ["parts", "holders", "part"] (defScope s_way_of) := ⟨rfl, rfl, rfl, by decide +kernel, rfl, by decide +kernel, by decide +kernel⟩
abbrev s_lead : Stmt := top 12
theorem sc_lead : FnScope ["heap", "wants", "gifts", "left", "k", "most", "parts", "holders", "part", "way", "one", "got", "given_up", "many"] ["heap", "wants", "gifts", "left", "k", "most"] (defScope s_lead) := ⟨rfl, rfl, rfl, by decide +kernel, rfl, by decide +kernel, by decide +kernel⟩
abbrev s_parts_left : Stmt := top 13
theorem sc_parts_left : FnScope ["heap", "found", "form", "shade", "many"] ["heap"] (defScope s_parts_left) := ⟨rfl, rfl, rfl, by decide +kernel, rfl, by decide +kernel, by decide +kernel⟩
abbrev s_led : Stmt := top 14
theorem sc_led : FnScope ["heap", "wants", "gifts", "left", "lacks", "k", "many", "holders", "reached", "want"] ["heap", "wants"] (defScope s_led) := ⟨rfl, rfl, rfl, by decide +kernel, rfl, by decide +kernel, by decide +kernel⟩
abbrev s_as_gift : Stmt := top 15
theorem sc_as_gift : FnScope ["some", "part"] ["some"] (defScope s_as_gift) := ⟨rfl, rfl, rfl, by decide +kernel, rfl, by decide +kernel, by decide +kernel⟩
abbrev s_shades_of : Stmt := top 16
theorem sc_shades_of : FnScope ["wants", "some", "found", "k"] ["wants", "some"] (defScope s_shades_of) := ⟨rfl, rfl, rfl, by decide +kernel, rfl, by decide +kernel, by decide +kernel⟩
abbrev s_deal : Stmt := top 17
theorem sc_deal : FnScope ["heap", "wants", "gifts", "left", "lacks", "reached", "some", "form", "k"] ["heap", "wants"] (defScope s_deal) := ⟨rfl, rfl, rfl, by decide +kernel, rfl, by decide +kernel, by decide +kernel⟩
abbrev s_wants_of : Stmt := top 19
theorem sc_wants_of : FnScope ["sheet", "choice", "found", "k", "row"] ["sheet", "choice"] (defScope s_wants_of) := ⟨rfl, rfl, rfl, by decide +kernel, rfl, by decide +kernel, by decide +kernel⟩
abbrev s_times : Stmt := top 21
theorem sc_times : FnScope ["heap", "number", "form", "shade", "many"] ["heap", "number"] (defScope s_times) := ⟨rfl, rfl, rfl, by decide +kernel, rfl, by decide +kernel, by decide +kernel⟩
abbrev s_with_kits : Stmt := top 22
theorem sc_with_kits : FnScope ["heap", "kits", "many", "found", "kit", "number"] ["heap", "kits", "many"] (defScope s_with_kits) := ⟨rfl, rfl, rfl, by decide +kernel, rfl, by decide +kernel, by decide +kernel⟩
abbrev s_wanted_at : Stmt := top 23
theorem sc_wanted_at : FnScope ["wants", "form", "shades", "found", "own", "some", "many", "is_there", "shade"] ["wants", "form", "shades"] (defScope s_wanted_at) := ⟨rfl, rfl, rfl, by decide +kernel, rfl, by decide +kernel, by decide +kernel⟩
abbrev s_has_at : Stmt := top 24
theorem sc_has_at : FnScope ["heap", "form", "shades", "shade"] ["heap", "form", "shades"] (defScope s_has_at) := ⟨rfl, rfl, rfl, by decide +kernel, rfl, by decide +kernel, by decide +kernel⟩
abbrev s_never_at : Stmt := top 25
theorem sc_never_at : FnScope ["heap", "kits", "wants", "most", "word", "thing", "form", "shades", "many", "kit"] ["heap", "kits", "wants"] (defScope s_never_at) := ⟨rfl, rfl, rfl, by decide +kernel, rfl, by decide +kernel, by decide +kernel⟩
abbrev s_sums_of : Stmt := top 26
theorem sc_sums_of : FnScope ["parts", "total", "rows", "k", "longer", "row", "rest", "begin", "number"] ["parts", "total"] (defScope s_sums_of) := ⟨rfl, rfl, rfl, by decide +kernel, rfl, by decide +kernel, by decide +kernel⟩
abbrev s_fills : Stmt := top 27
theorem sc_fills : FnScope ["heap", "kits", "wants", "places", "many", "form", "shades", "there", "kit", "number"] ["heap", "kits", "wants", "places", "many"] (defScope s_fills) := ⟨rfl, rfl, rfl, by decide +kernel, rfl, by decide +kernel, by decide +kernel⟩
abbrev s_fewest : Stmt := top 28
theorem sc_fewest : FnScope ["heap", "kits", "sheet", "wants", "never", "places", "total", "found", "many", "word", "thing"] ["heap", "kits", "sheet"] (defScope s_fewest) := ⟨rfl, rfl, rfl, by decide +kernel, rfl, by decide +kernel, by decide +kernel⟩
abbrev s_Ltap : Stmt := top 30
theorem sc_Ltap : FnScope ["_law_script"] ["_law_script"] (defScope s_Ltap) := ⟨rfl, rfl, rfl, by decide +kernel, rfl, by decide +kernel, by decide +kernel⟩
abbrev s_Lpick : Stmt := top 31
theorem sc_Lpick : FnScope ["_law_tap_here", "_law_many", "_law_cells", "_law_at", "_law_rest", "_law_turn", "_law_cell", "_law_mixed"] ["_law_tap_here", "_law_many"] (defScope s_Lpick) := ⟨rfl, rfl, rfl, by decide +kernel, rfl, by decide +kernel, by decide +kernel⟩
abbrev s_Lwords : Stmt := top 32
theorem sc_Lwords : FnScope ["_law_tap_here", "_law_forms", "_law_shades", "_law_some_here", "_law_many", "_law_k"] ["_law_tap_here"] (defScope s_Lwords) := ⟨rfl, rfl, rfl, by decide +kernel, rfl, by decide +kernel, by decide +kernel⟩
abbrev s_Lrows : Stmt := top 33
theorem sc_Lrows : FnScope ["_law_tap_here", "_law_words_here", "_law_many", "_law_most_now", "_law_forms", "_law_shades", "_law_found", "_law_k", "_law_part"] ["_law_tap_here", "_law_words_here", "_law_many", "_law_most_now"] (defScope s_Lrows) := ⟨rfl, rfl, rfl, by decide +kernel, rfl, by decide +kernel, by decide +kernel⟩
abbrev s_Lsome : Stmt := top 34
theorem sc_Lsome : FnScope ["_law_tap_here", "_law_shades", "_law_way", "_law_some_here", "_law_shade"] ["_law_tap_here", "_law_shades"] (defScope s_Lsome) := ⟨rfl, rfl, rfl, by decide +kernel, rfl, by decide +kernel, by decide +kernel⟩
abbrev s_Lwants : Stmt := top 35
theorem sc_Lwants : FnScope ["_law_tap_here", "_law_words_here", "_law_many", "_law_most_now", "_law_forms", "_law_shades", "_law_found", "_law_k", "_law_form"] ["_law_tap_here", "_law_words_here", "_law_many", "_law_most_now"] (defScope s_Lwants) := ⟨rfl, rfl, rfl, by decide +kernel, rfl, by decide +kernel, by decide +kernel⟩
abbrev s_Lsheet : Stmt := top 36
theorem sc_Lsheet : FnScope ["_law_tap_here", "_law_wants_here", "_law_rows_here", "_law_own", "_law_want"] ["_law_tap_here", "_law_wants_here"] (defScope s_Lsheet) := ⟨rfl, rfl, rfl, by decide +kernel, rfl, by decide +kernel, by decide +kernel⟩
abbrev s_Lhas : Stmt := top 37
theorem sc_Lhas : FnScope ["_law_rows_here", "_law_form", "_law_shades", "_law_own", "_law_shade", "_law_many"] ["_law_rows_here", "_law_form", "_law_shades"] (defScope s_Lhas) := ⟨rfl, rfl, rfl, by decide +kernel, rfl, by decide +kernel, by decide +kernel⟩
abbrev s_Lwanted : Stmt := top 38
theorem sc_Lwanted : FnScope ["_law_wants_here", "_law_form", "_law_shades", "_law_found", "_law_own", "_law_some_here", "_law_many", "_law_strange", "_law_one"] ["_law_wants_here", "_law_form", "_law_shades"] (defScope s_Lwanted) := ⟨rfl, rfl, rfl, by decide +kernel, rfl, by decide +kernel, by decide +kernel⟩
abbrev s_Ljoined : Stmt := top 39
theorem sc_Ljoined : FnScope ["_law_one", "_law_other", "_law_word"] ["_law_one", "_law_other"] (defScope s_Ljoined) := ⟨rfl, rfl, rfl, by decide +kernel, rfl, by decide +kernel, by decide +kernel⟩
abbrev s_Lplaces : Stmt := top 40
theorem sc_Lplaces : FnScope ["_law_wants_here", "_law_found", "_law_form", "_law_sets", "_law_own", "_law_some_here", "_law_many", "_law_want", "_law_one_set"] ["_law_wants_here"] (defScope s_Lplaces) := ⟨rfl, rfl, rfl, by decide +kernel, rfl, by decide +kernel, by decide +kernel⟩
abbrev s_Lsums : Stmt := top 41
theorem sc_Lsums : FnScope ["_law_parts", "_law_total", "_law_rows_here", "_law_k", "_law_longer", "_law_row", "_law_number"] ["_law_parts", "_law_total"] (defScope s_Lsums) := ⟨rfl, rfl, rfl, by decide +kernel, rfl, by decide +kernel, by decide +kernel⟩
abbrev s_Ltables : Stmt := top 42
theorem sc_Ltables : FnScope ["_law_rows_here", "_law_kits", "_law_wants_here", "_law_found", "_law_form", "_law_shades", "_law_lack", "_law_kit"] ["_law_rows_here", "_law_kits", "_law_wants_here"] (defScope s_Ltables) := ⟨rfl, rfl, rfl, by decide +kernel, rfl, by decide +kernel, by decide +kernel⟩
abbrev s_Lnever : Stmt := top 43
theorem sc_Lnever : FnScope ["_law_rows_here", "_law_kits", "_law_wants_here", "_law_lack", "_law_own"] ["_law_rows_here", "_law_kits", "_law_wants_here"] (defScope s_Lnever) := ⟨rfl, rfl, rfl, by decide +kernel, rfl, by decide +kernel, by decide +kernel⟩
abbrev s_Lfewest : Stmt := top 44
theorem sc_Lfewest : FnScope ["_law_rows_here", "_law_kits", "_law_wants_here", "_law_most_now", "_law_tables_here", "_law_total", "_law_many", "_law_short", "_law_lack", "_law_own", "_law_a", "_law_b"] ["_law_rows_here", "_law_kits", "_law_wants_here", "_law_most_now"] (defScope s_Lfewest) := ⟨rfl, rfl, rfl, by decide +kernel, rfl, by decide +kernel, by decide +kernel⟩
abbrev s_Lscene : Stmt := top 45
theorem sc_Lscene : FnScope ["_law_tap_here", "_law_most_now", "_law_words_here", "_law_rows_here", "_law_many", "_law_kits", "_law_wants_here", "_law_k"] ["_law_tap_here", "_law_most_now"] (defScope s_Lscene) := ⟨rfl, rfl, rfl, by decide +kernel, rfl, by decide +kernel, by decide +kernel⟩
abbrev s_Ltold : Stmt := top 46
theorem sc_Ltold : FnScope ["_law_heap", "_law_heaps", "_law_sheet_here", "_law_found"] ["_law_heap", "_law_heaps", "_law_sheet_here"] (defScope s_Ltold) := ⟨rfl, rfl, rfl, by decide +kernel, rfl, by decide +kernel, by decide +kernel⟩
abbrev s_Lwider : Stmt := top 47
theorem sc_Lwider : FnScope ["_law_want", "_law_form", "_law_shades", "_law_many", "_law_rest", "_law_word"] ["_law_want"] (defScope s_Lwider) := ⟨rfl, rfl, rfl, by decide +kernel, rfl, by decide +kernel, by decide +kernel⟩
abbrev s_law : Stmt := top 48
theorem sc_law : FnScope ["_law_script", "_law_tap_here", "_law_words_here", "_law_rows_here", "_law_kits", "_law_wants_here", "_law_sheet_here", "_law_heap", "_law_heaps", "_law_least", "_law_more", "_law_easier", "_law_at", "_law_some_here", "_law_told_now", "_law_fewer", "_law_kit"] ["_law_script"] (defScope s_law) := ⟨rfl, rfl, rfl, by decide +kernel, rfl, by decide +kernel, by decide +kernel⟩
end K70

end
section
/-! The plain law: dealings of a heap to wants, by counts; kits; the search that fails. -/
namespace K70M
section
variable {α : Type} [DecidableEq α]

/-- how many of p -/
def cnt : List (α × Int) → α → Int
  | [], _ => 0
  | e :: r, p => (if e.1 = p then e.2 else 0) + cnt r p
/-- how many at T -/
def tsum (T : α → Bool) : List (α × Int) → Int
  | [] => 0
  | e :: r => (if T e.1 = true then e.2 else 0) + tsum T r
def tot : List (α × Int) → Int
  | [] => 0
  | e :: r => e.2 + tot r
theorem cnt_app (l m : List (α × Int)) (p : α) : cnt (l ++ m) p = cnt l p + cnt m p := by
  induction l with
  | nil => simp [cnt]
  | cons e r ih => simp only [List.cons_append, cnt, ih]; omega
theorem tsum_app (T : α → Bool) (l m : List (α × Int)) : tsum T (l ++ m) = tsum T l + tsum T m := by
  induction l with
  | nil => simp [tsum]
  | cons e r ih => simp only [List.cons_append, tsum, ih]; omega
theorem tot_app (l m : List (α × Int)) : tot (l ++ m) = tot l + tot m := by
  induction l with
  | nil => simp [tot]
  | cons e r ih => simp only [List.cons_append, tot, ih]; omega
def but (p : α) (l : List (α × Int)) : List (α × Int) := l.filter fun e => decide (e.1 ≠ p)
theorem but_cons_eq {p : α} {e : α × Int} {r : List (α × Int)} (h : e.1 = p) : but p (e :: r) = but p r := by
  unfold but
  rw [List.filter_cons, if_neg (by simp [h])]
theorem but_cons_ne {p : α} {e : α × Int} {r : List (α × Int)} (h : ¬ e.1 = p) : but p (e :: r) = e :: but p r := by
  unfold but
  rw [List.filter_cons, if_pos (by simp [h])]
theorem cnt_but (p q : α) (l : List (α × Int)) : cnt (but p l) q = if q = p then 0 else cnt l q := by
  induction l with
  | nil => simp [but, cnt]
  | cons e r ih =>
    by_cases h : e.1 = p
    · rw [but_cons_eq h, ih]
      by_cases hq : q = p
      · rw [if_pos hq, if_pos hq]
      · rw [if_neg hq, if_neg hq]
        have : ¬ e.1 = q := fun z => hq (z.symm.trans h)
        simp only [cnt, if_neg this]; omega
    · rw [but_cons_ne h]
      simp only [cnt, ih]
      by_cases hq : q = p
      · have : ¬ e.1 = q := fun z => h (z.trans hq)
        rw [if_neg this, if_pos hq, if_pos hq]; omega
      · rw [if_neg hq, if_neg hq]
theorem tsum_but (T : α → Bool) (p : α) (l : List (α × Int)) : tsum T l = (if T p = true then cnt l p else 0) + tsum T (but p l) := by
  induction l with
  | nil => simp [but, tsum, cnt]
  | cons e r ih =>
    by_cases h : e.1 = p
    · rw [but_cons_eq h]
      simp only [tsum, cnt, h]
      rw [ih]
      simp only [if_true]
      split <;> omega
    · rw [but_cons_ne h]
      simp only [tsum, cnt, if_neg h]
      rw [ih]
      split <;> split <;> omega
theorem tot_but (p : α) (l : List (α × Int)) : tot l = cnt l p + tot (but p l) := by
  induction l with
  | nil => simp [but, tot, cnt]
  | cons e r ih =>
    by_cases h : e.1 = p
    · rw [but_cons_eq h]
      simp only [tot, cnt, if_pos h]
      omega
    · rw [but_cons_ne h]
      simp only [tot, cnt, if_neg h]
      omega
theorem but_len (p : α) (l : List (α × Int)) : (but p l).length ≤ l.length := List.length_filter_le _ _
theorem but_head {p : α} {x : Int} {r : List (α × Int)} : (but p ((p, x) :: r)).length ≤ r.length := by
  have e : but p ((p, x) :: r) = but p r := but_cons_eq rfl
  rw [e]
  exact but_len p r
theorem mem_but {p : α} {l : List (α × Int)} {e : α × Int} (h : e ∈ but p l) : e ∈ l := (List.mem_filter.mp h).1

/-- nowhere below nought: so at T -/
theorem tsum_nonneg (T : α → Bool) : ∀ (n : Nat) (l : List (α × Int)), l.length ≤ n → (∀ p, 0 ≤ cnt l p) → 0 ≤ tsum T l
  | 0, l, hl, _ => by
    have : l = [] := List.length_eq_zero_iff.mp (by omega)
    subst this
    exact Int.le_refl _
  | n + 1, [], _, _ => Int.le_refl _
  | n + 1, (p, x) :: r, hl, h => by
    rw [tsum_but T p]
    have h1 : 0 ≤ tsum T (but p ((p, x) :: r)) := tsum_nonneg T n _ (by have := but_head (p := p) (x := x) (r := r); simp only [List.length_cons] at hl; omega) fun q => by
      rw [cnt_but]
      split
      · exact Int.le_refl _
      · exact h q
    have h2 := h p
    split <;> omega
def neg (l : List (α × Int)) : List (α × Int) := l.map fun e => (e.1, - e.2)
theorem cnt_neg (l : List (α × Int)) (p : α) : cnt (neg l) p = - cnt l p := by
  induction l with
  | nil => rfl
  | cons e r ih =>
    show (if e.1 = p then - e.2 else 0) + cnt (neg r) p = _
    rw [ih]
    simp only [cnt]
    split <;> omega
theorem tsum_neg (T : α → Bool) (l : List (α × Int)) : tsum T (neg l) = - tsum T l := by
  induction l with
  | nil => rfl
  | cons e r ih =>
    show (if T e.1 = true then - e.2 else 0) + tsum T (neg r) = _
    rw [ih]
    simp only [tsum]
    split <;> omega
theorem tsum_le (T : α → Bool) {l m : List (α × Int)} (h : ∀ p, cnt l p ≤ cnt m p) : tsum T l ≤ tsum T m := by
  have := tsum_nonneg T _ (m ++ neg l) (Nat.le_refl _) fun p => by
    rw [cnt_app, cnt_neg]
    have := h p
    omega
  rw [tsum_app, tsum_neg] at this
  omega
theorem cnt_nonneg {l : List (α × Int)} (h : ∀ e ∈ l, 0 ≤ e.2) (p : α) : 0 ≤ cnt l p := by
  induction l with
  | nil => exact Int.le_refl _
  | cons e r ih =>
    have h1 := h e List.mem_cons_self
    have h2 := ih fun x hx => h x (List.mem_cons_of_mem _ hx)
    simp only [cnt]
    split <;> omega
theorem cnt_mem {l : List (α × Int)} (h : ∀ e ∈ l, 0 ≤ e.2) {e : α × Int} (he : e ∈ l) : e.2 ≤ cnt l e.1 := by
  induction l with
  | nil => cases he
  | cons x r ih =>
    have h1 := h x List.mem_cons_self
    have hr : ∀ e ∈ r, 0 ≤ e.2 := fun y hy => h y (List.mem_cons_of_mem _ hy)
    simp only [cnt]
    rcases List.mem_cons.mp he with z | z
    · subst z
      rw [if_pos rfl]
      have := cnt_nonneg hr e.1
      omega
    · have := ih hr z
      split <;> omega
theorem tot_nonneg {l : List (α × Int)} (h : ∀ e ∈ l, 0 ≤ e.2) : 0 ≤ tot l := by
  induction l with
  | nil => exact Int.le_refl _
  | cons e r ih =>
    have h1 := h e List.mem_cons_self
    have h2 := ih fun x hx => h x (List.mem_cons_of_mem _ hx)
    simp only [tot]
    omega

/-! ### wants and dealings -/
/-- a want: what it lets, how many -/
abbrev Wt (α : Type) := (α → Bool) × Int
def Gift (w : Wt α) (l : List (α × Int)) : Prop := (∀ e ∈ l, 0 ≤ e.2 ∧ (0 < e.2 → w.1 e.1 = true)) ∧ tot l = w.2
def Gifts : List (Wt α) → List (List (α × Int)) → Prop
  | [], [] => True
  | w :: ws, l :: ls => Gift w l ∧ Gifts ws ls
  | _, _ => False
def Deals (c : α → Int) (ws : List (Wt α)) : Prop := ∃ ls, Gifts ws ls ∧ ∀ p, cnt ls.flatten p ≤ c p
theorem Deals.mono {c c' : α → Int} {ws : List (Wt α)} (h : Deals c ws) (hc : ∀ p, c p ≤ c' p) : Deals c' ws := by
  obtain ⟨ls, h1, h2⟩ := h
  exact ⟨ls, h1, fun p => Int.le_trans (h2 p) (hc p)⟩
theorem deals_nil {c : α → Int} (h : ∀ p, 0 ≤ c p) : Deals c ([] : List (Wt α)) := ⟨[], trivial, fun p => by simpa [cnt] using h p⟩
theorem Gifts.nonneg : ∀ {ws : List (Wt α)} {ls : List (List (α × Int))}, Gifts ws ls → ∀ e ∈ ls.flatten, 0 ≤ e.2
  | [], [], _, e, he => by simp at he
  | _ :: _, _ :: _, h, e, he => by
    rw [List.flatten_cons] at he
    rcases List.mem_append.mp he with z | z
    · exact (h.1.1 e z).1
    · exact Gifts.nonneg h.2 e z
  | [], _ :: _, h, _, _ => h.elim
  | _ :: _, [], h, _, _ => h.elim
theorem gifts_erase : ∀ {a : List (Wt α)} {w : Wt α} {b : List (Wt α)} {ls : List (List (α × Int))}, Gifts (a ++ w :: b) ls → ∃ ls', Gifts (a ++ b) ls' ∧ ∀ p, cnt ls'.flatten p ≤ cnt ls.flatten p
  | [], w, b, [], h => h.elim
  | [], w, b, l :: ls, h => by
    refine ⟨ls, h.2, fun p => ?_⟩
    rw [List.flatten_cons, cnt_app]
    have := cnt_nonneg (fun e he => (h.1.1 e he).1) p
    omega
  | x :: a, w, b, [], h => h.elim
  | x :: a, w, b, l :: ls, h => by
    obtain ⟨ls', h1, h2⟩ := gifts_erase (a := a) h.2
    refine ⟨l :: ls', ⟨h.1, h1⟩, fun p => ?_⟩
    rw [List.flatten_cons, cnt_app, List.flatten_cons, cnt_app]
    have := h2 p
    omega
theorem Deals.erase {c : α → Int} {a b : List (Wt α)} {w : Wt α} (h : Deals c (a ++ w :: b)) : Deals c (a ++ b) := by
  obtain ⟨ls, h1, h2⟩ := h
  obtain ⟨ls', h3, h4⟩ := gifts_erase h1
  exact ⟨ls', h3, fun p => Int.le_trans (h4 p) (h2 p)⟩
theorem gifts_wider : ∀ {a : List (Wt α)} {w w' : Wt α} {b : List (Wt α)} {ls : List (List (α × Int))}, (∀ p, w.1 p = true → w'.1 p = true) → w'.2 = w.2 → Gifts (a ++ w :: b) ls → Gifts (a ++ w' :: b) ls
  | [], w, w', b, [], _, _, h => h.elim
  | [], w, w', b, l :: ls, h1, h2, h => ⟨⟨fun e he => ⟨(h.1.1 e he).1, fun z => h1 _ ((h.1.1 e he).2 z)⟩, h.1.2.trans h2.symm⟩, h.2⟩
  | x :: a, w, w', b, [], _, _, h => h.elim
  | x :: a, w, w', b, l :: ls, h1, h2, h => ⟨h.1, gifts_wider (a := a) h1 h2 h.2⟩
theorem Deals.wider {c : α → Int} {a b : List (Wt α)} {w w' : Wt α} (h1 : ∀ p, w.1 p = true → w'.1 p = true) (h2 : w'.2 = w.2) (h : Deals c (a ++ w :: b)) : Deals c (a ++ w' :: b) := by
  obtain ⟨ls, h3, h4⟩ := h
  exact ⟨ls, gifts_wider h1 h2 h3, h4⟩
def wsum : List (Wt α) → Int
  | [] => 0
  | w :: r => w.2 + wsum r
theorem Gifts.tot : ∀ {ws : List (Wt α)} {ls : List (List (α × Int))}, Gifts ws ls → tot ls.flatten = wsum ws
  | [], [], _ => rfl
  | w :: ws, l :: ls, h => by
    rw [List.flatten_cons, tot_app, h.1.2, Gifts.tot h.2]
    rfl
  | [], _ :: _, h => h.elim
  | _ :: _, [], h => h.elim

/-! ### what hinders -/
/-- the wants that the flags name, their manys added -/
def fsum : List Bool → List (Wt α) → Int
  | b :: bs, w :: ws => (if b = true then w.2 else 0) + fsum bs ws
  | _, _ => 0
/-- each flagged want lets, of what there is, parts at T alone -/
def FlagIn (T : α → Bool) (c : α → Int) : List Bool → List (Wt α) → Prop
  | b :: bs, w :: ws => (b = true → ∀ p, w.1 p = true → T p = true ∨ c p ≤ 0) ∧ FlagIn T c bs ws
  | _, _ => True
theorem tsum_all (T : α → Bool) {l : List (α × Int)} (h : ∀ e ∈ l, T e.1 = true ∨ e.2 = 0) : tsum T l = tot l := by
  induction l with
  | nil => rfl
  | cons e r ih =>
    have h1 := h e List.mem_cons_self
    have h2 := ih fun x hx => h x (List.mem_cons_of_mem _ hx)
    simp only [tsum, tot, h2]
    rcases h1 with z | z
    · rw [if_pos z]
    · split <;> omega
theorem tsum_pos (T : α → Bool) {l : List (α × Int)} (h : ∀ e ∈ l, 0 ≤ e.2) : 0 ≤ tsum T l := by
  induction l with
  | nil => exact Int.le_refl _
  | cons e r ih =>
    have h1 := h e List.mem_cons_self
    have h2 := ih fun x hx => h x (List.mem_cons_of_mem _ hx)
    simp only [tsum]
    split <;> omega
theorem hinder_aux (T : α → Bool) (c : α → Int) : ∀ (bs : List Bool) (ws : List (Wt α)) (ls : List (List (α × Int))), FlagIn T c bs ws → Gifts ws ls → (∀ p, c p ≤ 0 → cnt ls.flatten p ≤ 0) → fsum bs ws ≤ tsum T ls.flatten
  | [], ws, ls, _, g, _ => by
    have := tsum_pos T g.nonneg
    simpa [fsum] using this
  | _ :: _, [], ls, _, g, _ => by
    have := tsum_pos T g.nonneg
    simpa [fsum] using this
  | b :: bs, w :: ws, [], _, g, _ => g.elim
  | b :: bs, w :: ws, l :: ls, f, g, hc => by
    have hl : ∀ e ∈ l, 0 ≤ e.2 := fun e he => (g.1.1 e he).1
    have ih := hinder_aux T c bs ws ls f.2 g.2 fun p hp => by
      have := hc p hp
      rw [List.flatten_cons, cnt_app] at this
      have := cnt_nonneg hl p
      omega
    rw [List.flatten_cons, tsum_app]
    simp only [fsum]
    by_cases hb : b = true
    · rw [if_pos hb]
      have e : tsum T l = tot l := tsum_all T fun x hx => by
        by_cases h0 : x.2 = 0
        · exact .inr h0
        · have hx1 := g.1.1 x hx
          rcases f.1 hb x.1 (hx1.2 (by omega)) with z | z
          · exact .inl z
          · have h1 := hc x.1 z
            rw [List.flatten_cons, cnt_app] at h1
            have h2 := cnt_mem hl hx
            have h3 := cnt_nonneg g.2.nonneg x.1
            exact .inr (by omega)
      rw [e, g.1.2]
      omega
    · rw [if_neg hb]
      have := tsum_pos T hl
      omega
theorem hinder {rows : List (α × Int)} {ws : List (Wt α)} (T : α → Bool) (bs : List Bool) (f : FlagIn T (cnt rows) bs ws) (h : Deals (cnt rows) ws) : fsum bs ws ≤ tsum T rows := by
  obtain ⟨ls, g, hc⟩ := h
  exact Int.le_trans (hinder_aux T _ bs ws ls f g fun p hp => Int.le_trans (hc p) hp) (tsum_le T hc)
end
end K70M

end
section
/-! The plain law: kits added, the fewest. -/
namespace K70M
section
variable {α : Type} [DecidableEq α]
/-- what a heap has with so many of each kit -/
def comb (h : List (α × Int)) : List (List (α × Int)) → List Int → α → Int
  | k :: ks, n :: ns, p => n * cnt k p + comb h ks ns p
  | [], _, p => cnt h p
  | _ :: _, [], p => cnt h p
def NN (l : List (α × Int)) : Prop := ∀ e ∈ l, 0 ≤ e.2
def N0 (n : List Int) : Prop := ∀ x ∈ n, 0 ≤ x
theorem N0.cons {x : Int} {n : List Int} (h : N0 (x :: n)) : 0 ≤ x ∧ N0 n := ⟨h x List.mem_cons_self, fun y hy => h y (List.mem_cons_of_mem _ hy)⟩
theorem N0.mk {x : Int} {n : List Int} (h : 0 ≤ x) (t : N0 n) : N0 (x :: n) := fun y hy => by
  rcases List.mem_cons.mp hy with z | z
  · rw [z]; exact h
  · exact t y z
theorem N0.sum : ∀ {n : List Int}, N0 n → 0 ≤ n.sum
  | [], _ => by simp
  | x :: n, h => by
    have h1 := h.cons
    have h2 := N0.sum h1.2
    rw [List.sum_cons]
    omega
theorem N0.le : ∀ {n : List Int}, N0 n → ∀ x ∈ n, x ≤ n.sum
  | [], _, x, hx => by cases hx
  | y :: n, h, x, hx => by
    have h1 := h.cons
    rw [List.sum_cons]
    rcases List.mem_cons.mp hx with z | z
    · have := N0.sum h1.2
      omega
    · have := N0.le h1.2 x z
      omega
theorem comb_nonneg {h : List (α × Int)} (hh : NN h) (p : α) : ∀ {ks : List (List (α × Int))} {n : List Int}, (∀ k ∈ ks, NN k) → N0 n → 0 ≤ comb h ks n p
  | [], n, _, _ => cnt_nonneg hh p
  | k :: ks, [], _, _ => cnt_nonneg hh p
  | k :: ks, x :: n, hk, hn => by
    have h1 := comb_nonneg hh p (fun j hj => hk j (List.mem_cons_of_mem _ hj)) hn.cons.2
    have h2 := Int.mul_nonneg hn.cons.1 (cnt_nonneg (hk k List.mem_cons_self) p)
    simp only [comb]
    omega
theorem comb_none {h : List (α × Int)} {p : α} : ∀ {ks : List (List (α × Int))} (n : List Int), (∀ k ∈ ks, cnt k p = 0) → comb h ks n p = cnt h p
  | [], n, _ => rfl
  | k :: ks, [], _ => rfl
  | k :: ks, x :: n, hk => by
    simp only [comb]
    rw [hk k List.mem_cons_self, comb_none n fun j hj => hk j (List.mem_cons_of_mem _ hj)]
    omega
theorem comb_bump {h : List (α × Int)} {p : α} {x : Int} (hx : 0 ≤ x) : ∀ {ks : List (List (α × Int))} {n : List Int}, (∀ k ∈ ks, NN k) → N0 n → n.length = ks.length → (∃ k ∈ ks, 0 < cnt k p) →
    ∃ n' : List Int, n'.length = ks.length ∧ N0 n' ∧ n'.sum = n.sum + x ∧ (∀ q, comb h ks n q ≤ comb h ks n' q) ∧ comb h ks n p + x ≤ comb h ks n' p
  | [], n, _, _, _, he => by
    obtain ⟨k, hk, _⟩ := he
    cases hk
  | k :: ks, [], _, _, hl, _ => by simp at hl
  | k :: ks, y :: n, hk, hn, hl, he => by
    by_cases hp : 0 < cnt k p
    · refine ⟨(y + x) :: n, by simpa using hl, .mk (by have := hn.cons.1; omega) hn.cons.2, by rw [List.sum_cons, List.sum_cons]; omega, fun q => ?_, ?_⟩
      · simp only [comb]
        have := Int.mul_nonneg hx (cnt_nonneg (hk k List.mem_cons_self) q)
        rw [Int.add_mul]
        omega
      · simp only [comb]
        have h1 : x * 1 ≤ x * cnt k p := Int.mul_le_mul_of_nonneg_left (by omega) hx
        rw [Int.add_mul]
        omega
    · obtain ⟨j, hj, hj2⟩ := he
      have hj' : j ∈ ks := by
        rcases List.mem_cons.mp hj with z | z
        · subst z
          exact absurd hj2 hp
        · exact z
      obtain ⟨n', h1, h2, h3, h4, h5⟩ := comb_bump (h := h) (p := p) hx (ks := ks) (n := n) (fun j hj => hk j (List.mem_cons_of_mem _ hj)) hn.cons.2 (by simpa using hl) ⟨j, hj', hj2⟩
      refine ⟨y :: n', by simp [h1], .mk hn.cons.1 h2, by rw [List.sum_cons, List.sum_cons]; omega, fun q => ?_, ?_⟩
      · simp only [comb]
        have := h4 q
        omega
      · simp only [comb]
        omega
theorem fewer_aux {h : List (α × Int)} {ks : List (List (α × Int))} {n : List Int} (hh : NN h) (hk : ∀ k ∈ ks, NN k) (hn : N0 n) (hl : n.length = ks.length) : ∀ (N : Nat) (E : List (α × Int)), E.length ≤ N → NN E → (∀ p, cnt E p ≤ comb h ks n p) →
    ∃ n' : List Int, n'.length = ks.length ∧ N0 n' ∧ n'.sum ≤ tot E ∧ ∀ p, cnt E p ≤ comb h ks n' p := by
  have zero : ∃ n' : List Int, n'.length = ks.length ∧ N0 n' ∧ n'.sum ≤ 0 := by
    refine ⟨List.replicate ks.length 0, by simp, fun x hx => ?_, ?_⟩
    · rw [List.eq_of_mem_replicate hx]
      exact Int.le_refl _
    · have : ∀ m : Nat, (List.replicate m (0 : Int)).sum = 0 := fun m => by
        induction m with
        | zero => rfl
        | succ m ih => rw [List.replicate_succ, List.sum_cons, ih]; rfl
      rw [this]
      exact Int.le_refl _
  intro N
  induction N with
  | zero =>
    intro E hE _ _
    have : E = [] := List.length_eq_zero_iff.mp (by omega)
    subst this
    obtain ⟨n', h1, h2, h3⟩ := zero
    exact ⟨n', h1, h2, h3, fun p => comb_nonneg hh p hk h2⟩
  | succ N ih =>
    intro E hE hnn hc
    match E, hE, hnn, hc with
    | [], _, _, _ =>
      obtain ⟨n', h1, h2, h3⟩ := zero
      exact ⟨n', h1, h2, h3, fun p => comb_nonneg hh p hk h2⟩
    | (p, x) :: r, hE, hnn, hc =>
      have bl := but_head (p := p) (x := x) (r := r)
      simp only [List.length_cons] at hE
      obtain ⟨n', h1, h2, h3, h4⟩ := ih (but p ((p, x) :: r)) (by omega) (fun e he => hnn e (mem_but he)) fun q => by
        rw [cnt_but]
        split
        · exact comb_nonneg hh q hk hn
        · exact hc q
      have ht := tot_but p ((p, x) :: r)
      have hp0 := cnt_nonneg hnn p
      have others : ∀ q, ¬ q = p → cnt ((p, x) :: r) q ≤ comb h ks n' q := fun q hq => by
        have := h4 q
        rw [cnt_but, if_neg hq] at this
        exact this
      by_cases hle : cnt ((p, x) :: r) p ≤ comb h ks n' p
      · refine ⟨n', h1, h2, by omega, fun q => ?_⟩
        by_cases hq : q = p
        · rw [hq]; exact hle
        · exact others q hq
      · have hex : ∃ k ∈ ks, 0 < cnt k p := by
          apply Classical.byContradiction
          intro hno
          have hz : ∀ k ∈ ks, cnt k p = 0 := fun k hk' => by
            have a := cnt_nonneg (hk k hk') p
            have b : ¬ 0 < cnt k p := fun z => hno ⟨k, hk', z⟩
            omega
          have c1 := hc p
          rw [comb_none n hz] at c1
          rw [comb_none n' hz] at hle
          exact hle c1
        obtain ⟨n'', g1, g2, g3, g4, g5⟩ := comb_bump (h := h) hp0 hk h2 h1 hex
        refine ⟨n'', g1, g2, by omega, fun q => ?_⟩
        by_cases hq : q = p
        · rw [hq]
          have := comb_nonneg hh p hk h2
          omega
        · exact Int.le_trans (others q hq) (g4 q)
/-- so many kits that the wants count are enough -/
theorem fewer {h : List (α × Int)} {ks : List (List (α × Int))} {n : List Int} {ws : List (Wt α)} (hh : NN h) (hk : ∀ k ∈ ks, NN k) (hn : N0 n) (hl : n.length = ks.length) (d : Deals (comb h ks n) ws) :
    ∃ n' : List Int, n'.length = ks.length ∧ N0 n' ∧ n'.sum ≤ wsum ws ∧ Deals (comb h ks n') ws := by
  obtain ⟨ls, g, hc⟩ := d
  obtain ⟨n', h1, h2, h3, h4⟩ := fewer_aux hh hk hn hl _ ls.flatten (Nat.le_refl _) g.nonneg hc
  exact ⟨n', h1, h2, by rw [← g.tot]; exact h3, ls, g, h4⟩
theorem comb_le {h : List (α × Int)} {p : α} : ∀ {ks : List (List (α × Int))} {n n' : List Int}, (∀ k ∈ ks, NN k) → n.length = ks.length → n'.length = ks.length → (∀ (i : Nat) (x y : Int), n[i]? = some x → n'[i]? = some y → x ≤ y) → comb h ks n p ≤ comb h ks n' p
  | [], _, _, _, _, _, _ => Int.le_refl _
  | k :: ks, [], _, _, hl, _, _ => by simp at hl
  | k :: ks, _ :: _, [], _, _, hl, _ => by simp at hl
  | k :: ks, x :: n, y :: n', hk, h1, h2, h3 => by
    have ih := comb_le (h := h) (p := p) (ks := ks) (n := n) (n' := n') (fun j hj => hk j (List.mem_cons_of_mem _ hj)) (by simpa using h1) (by simpa using h2) fun i a b ha hb => h3 (i + 1) a b (by simpa using ha) (by simpa using hb)
    have := Int.mul_le_mul_of_nonneg_right (h3 0 x y rfl rfl) (cnt_nonneg (hk k List.mem_cons_self) p)
    simp only [comb]
    omega
/-- with M of each, M above the wants, all is built that can be -/
theorem never_of {h : List (α × Int)} {ks : List (List (α × Int))} {ws : List (Wt α)} {M : Int} (hh : NN h) (hk : ∀ k ∈ ks, NN k) (hM : wsum ws ≤ M) (hno : ¬ Deals (comb h ks (List.replicate ks.length M)) ws) :
    ¬ ∃ n : List Int, n.length = ks.length ∧ N0 n ∧ Deals (comb h ks n) ws := by
  rintro ⟨n, hl, hn, d⟩
  obtain ⟨n', h1, h2, h3, h4⟩ := fewer hh hk hn hl d
  refine hno (h4.mono fun p => comb_le hk h1 (by simp) fun i x y hx hy => ?_)
  have e1 := N0.le h2 x (List.mem_of_getElem? hx)
  have e2 : y = M := List.eq_of_mem_replicate (List.mem_of_getElem? hy)
  omega
theorem comb_congr {h h' : List (α × Int)} {p : α} (e : cnt h p = cnt h' p) : ∀ {ks ks' : List (List (α × Int))} (n : List Int), ks.length = ks'.length → (∀ (i : Nat) (k k' : List (α × Int)), ks[i]? = some k → ks'[i]? = some k' → cnt k p = cnt k' p) → comb h ks n p = comb h' ks' n p
  | [], [], _, _, _ => e
  | [], _ :: _, _, hl, _ => by simp at hl
  | _ :: _, [], _, hl, _ => by simp at hl
  | k :: ks, k' :: ks', [], _, _ => e
  | k :: ks, k' :: ks', x :: n, hl, hk => by
    simp only [comb]
    rw [hk 0 k k' rfl rfl, comb_congr e n (by simpa using hl) fun i a b ha hb => hk (i + 1) a b (by simpa using ha) (by simpa using hb)]
/-- a heap that has more -/
theorem comb_heap {h h' : List (α × Int)} {p : α} (e : cnt h p ≤ cnt h' p) : ∀ {ks : List (List (α × Int))} (n : List Int), comb h ks n p ≤ comb h' ks n p
  | [], _ => e
  | _ :: _, [] => e
  | k :: ks, x :: n => by
    have := comb_heap e (ks := ks) n
    simp only [comb]
    omega
/-- a kit more -/
theorem comb_kit {h k : List (α × Int)} {p : α} : ∀ {ks : List (List (α × Int))} {n : List Int}, n.length = ks.length → comb h (ks ++ [k]) (n ++ [0]) p = comb h ks n p
  | [], [], _ => by simp [comb]
  | [], _ :: _, hl => by simp at hl
  | _ :: _, [], hl => by simp at hl
  | j :: ks, x :: n, hl => by
    show x * cnt j p + comb h (ks ++ [k]) (n ++ [0]) p = _
    rw [comb_kit (by simpa using hl)]
    rfl
/-- the first kit has more -/
theorem comb_first {h k k' : List (α × Int)} {p : α} (e : cnt k p ≤ cnt k' p) {ks : List (List (α × Int))} {n : List Int} (hn : N0 n) : comb h (k :: ks) n p ≤ comb h (k' :: ks) n p := by
  cases n with
  | nil => exact Int.le_refl _
  | cons x n =>
    have := Int.mul_le_mul_of_nonneg_left e hn.cons.1
    simp only [comb]
    omega
end
end K70M

end
section
/-! The plain law: dicts of counts; gifts led on along a way; the search that fails. -/
namespace K70M
section
variable {α : Type} [DecidableEq α]
def gvo (c : List (α × Int)) (p : α) : Option Int := (c.find? fun e => decide (e.1 = p)).map (·.2)
def pin (c : List (α × Int)) (p : α) (x : Int) : List (α × Int) := if (c.any fun e => decide (e.1 = p)) = true then c.map fun e => if e.1 = p then (e.1, x) else e else c ++ [(p, x)]
def Nd (c : List (α × Int)) : Prop := (c.map (·.1)).Nodup
theorem get_none {c : List (α × Int)} {p : α} (h : gvo c p = none) : p ∉ c.map (·.1) := by
  intro hm
  obtain ⟨e, he, hp⟩ := List.mem_map.mp hm
  unfold gvo at h
  rw [Option.map_eq_none_iff, List.find?_eq_none] at h
  exact h e he (by simpa using hp)
theorem get_mem {c : List (α × Int)} {p : α} {x : Int} (h : gvo c p = some x) : (p, x) ∈ c := by
  unfold gvo at h
  rw [Option.map_eq_some_iff] at h
  obtain ⟨e, he, hx⟩ := h
  have h1 := List.mem_of_find?_eq_some he
  have h2 := List.find?_some he
  have h3 : e.1 = p := by simpa using h2
  rw [← h3, ← hx]
  exact h1
theorem get_key {c : List (α × Int)} {p : α} {x : Int} (h : gvo c p = some x) : p ∈ c.map (·.1) := List.mem_map.mpr ⟨_, get_mem h, rfl⟩
theorem cnt_notin {c : List (α × Int)} {p : α} (h : p ∉ c.map (·.1)) : cnt c p = 0 := by
  induction c with
  | nil => rfl
  | cons e r ih =>
    simp only [List.map_cons, List.mem_cons, not_or] at h
    simp only [cnt]
    rw [if_neg fun z => h.1 z.symm, ih h.2]
    rfl
theorem cnt_get {c : List (α × Int)} (hn : Nd c) (p : α) : cnt c p = (gvo c p).getD 0 := by
  induction c with
  | nil => rfl
  | cons e r ih =>
    have hn' : e.1 ∉ r.map (·.1) ∧ (r.map (·.1)).Nodup := List.nodup_cons.mp hn
    simp only [cnt]
    by_cases h : e.1 = p
    · rw [if_pos h, cnt_notin (by rw [← h]; exact hn'.1)]
      unfold gvo
      rw [List.find?_cons_of_pos (by simpa using h)]
      simp
    · rw [if_neg h, ih hn'.2]
      unfold gvo
      rw [List.find?_cons_of_neg (by simpa using h)]
      simp
theorem cnt_at {c : List (α × Int)} (hn : Nd c) {e : α × Int} (he : e ∈ c) : cnt c e.1 = e.2 := by
  induction c with
  | nil => cases he
  | cons x r ih =>
    have hn' : x.1 ∉ r.map (·.1) ∧ (r.map (·.1)).Nodup := List.nodup_cons.mp hn
    simp only [cnt]
    rcases List.mem_cons.mp he with z | z
    · subst z
      rw [if_pos rfl, cnt_notin hn'.1]
      omega
    · rw [if_neg fun q => hn'.1 (by rw [q]; exact List.mem_map.mpr ⟨e, z, rfl⟩), ih hn'.2 z]
      omega
theorem any_keys {c : List (α × Int)} {p : α} : (c.any fun e => decide (e.1 = p)) = true ↔ p ∈ c.map (·.1) := by
  rw [List.any_eq_true, List.mem_map]
  constructor
  · rintro ⟨e, h1, h2⟩
    exact ⟨e, h1, by simpa using h2⟩
  · rintro ⟨e, h1, h2⟩
    exact ⟨e, h1, by simpa using h2⟩
theorem keys_map {c : List (α × Int)} {p : α} {x : Int} : (c.map fun e => if e.1 = p then (e.1, x) else e).map (·.1) = c.map (·.1) := by
  rw [List.map_map]
  refine List.map_congr_left fun e _ => ?_
  show (if e.1 = p then (e.1, x) else e).1 = e.1
  split <;> rfl
theorem pin_keys {c : List (α × Int)} {p : α} {x : Int} : (pin c p x).map (·.1) = if p ∈ c.map (·.1) then c.map (·.1) else c.map (·.1) ++ [p] := by
  unfold pin
  by_cases h : p ∈ c.map (·.1)
  · rw [if_pos (any_keys.mpr h), if_pos h, keys_map]
  · rw [if_neg fun z => h (any_keys.mp z), if_neg h, List.map_append]
    rfl
theorem pin_nd {c : List (α × Int)} {p : α} {x : Int} (hn : Nd c) : Nd (pin c p x) := by
  unfold Nd
  rw [pin_keys]
  split
  · exact hn
  · rename_i h
    rw [List.nodup_append]
    exact ⟨hn, by simp, fun a ha b hb e => h (by rw [List.mem_singleton] at hb; rw [← hb, ← e]; exact ha)⟩
theorem pin_mem_key {c : List (α × Int)} {p q : α} {x : Int} : q ∈ (pin c p x).map (·.1) ↔ q = p ∨ q ∈ c.map (·.1) := by
  rw [pin_keys]
  split
  · constructor
    · exact .inr
    · rintro (h | h)
      · rw [h]; assumption
      · exact h
  · rw [List.mem_append, List.mem_singleton]
    exact or_comm
theorem but_map {p : α} {x : Int} : ∀ c : List (α × Int), but p (c.map fun e => if e.1 = p then (e.1, x) else e) = but p c
  | [] => rfl
  | e :: r => by
    rw [List.map_cons]
    by_cases h : e.1 = p
    · rw [if_pos h, but_cons_eq (show (e.1, x).1 = p from h), but_cons_eq h, but_map r]
    · rw [if_neg h, but_cons_ne h, but_cons_ne h, but_map r]
theorem but_pin {c : List (α × Int)} {p : α} {x : Int} : but p (pin c p x) = but p c := by
  unfold pin
  split
  · exact but_map c
  · unfold but
    rw [List.filter_append]
    simp
theorem pin_mem {c : List (α × Int)} {p : α} {x : Int} {e : α × Int} (h : e ∈ pin c p x) : e = (p, x) ∨ e ∈ c := by
  unfold pin at h
  split at h
  · obtain ⟨y, hy, he⟩ := List.mem_map.mp h
    split at he
    · rename_i q
      exact .inl (by rw [← he, q])
    · exact .inr (by rw [← he]; exact hy)
  · rcases List.mem_append.mp h with z | z
    · exact .inr z
    · exact .inl (List.mem_singleton.mp z)
theorem pin_in {c : List (α × Int)} {p : α} {x : Int} : (p, x) ∈ pin c p x := by
  unfold pin
  split
  · rename_i h
    obtain ⟨e, he, hp⟩ := List.mem_map.mp (any_keys.mp h)
    exact List.mem_map.mpr ⟨e, he, by rw [if_pos hp, hp]⟩
  · exact List.mem_append_right _ List.mem_cons_self
theorem cnt_pin {c : List (α × Int)} {p : α} {x : Int} (hn : Nd c) (q : α) : cnt (pin c p x) q = if q = p then x else cnt c q := by
  by_cases h : q = p
  · rw [if_pos h, h]
    exact cnt_at (pin_nd hn) pin_in
  · rw [if_neg h]
    have h1 := cnt_but p q (pin c p x)
    have h2 := cnt_but p q c
    rw [if_neg h] at h1 h2
    rw [← h1, ← h2, but_pin]
theorem tot_pin {c : List (α × Int)} {p : α} {x : Int} (hn : Nd c) : tot (pin c p x) = tot c + x - cnt c p := by
  have h1 := tot_but p (pin c p x)
  have h2 := tot_but p c
  rw [but_pin, cnt_pin hn, if_pos rfl] at h1
  omega
theorem pin_len {c : List (α × Int)} {p : α} {x : Int} : (pin c p x).length ≤ c.length + 1 := by
  unfold pin
  split
  · rw [List.length_map]; omega
  · rw [List.length_append]; exact Nat.le_refl _
theorem pin_nn {c : List (α × Int)} {p : α} {x : Int} (h : NN c) (hx : 0 ≤ x) : NN (pin c p x) := fun e he => by
  rcases pin_mem he with z | z
  · rw [z]; exact hx
  · exact h e z
/-- a list of its keys, each with its count, counts alike -/
theorem cnt_keys {c : List (α × Int)} (hn : Nd c) {ks : List α} (hk : ks.Perm (c.map (·.1))) (p : α) : cnt (ks.map fun q => (q, cnt c q)) p = cnt c p := by
  have nk : ks.Nodup := hk.nodup_iff.mpr hn
  have nd : Nd (ks.map fun q => (q, cnt c q)) := by
    unfold Nd
    rw [List.map_map, show ((fun x : α × Int => x.1) ∘ fun q => (q, cnt c q)) = id from rfl, List.map_id]
    exact nk
  by_cases h : p ∈ c.map (·.1)
  · have : (p, cnt c p) ∈ ks.map fun q => (q, cnt c q) := List.mem_map.mpr ⟨p, hk.mem_iff.mpr h, rfl⟩
    exact cnt_at nd this
  · rw [cnt_notin h, cnt_notin]
    rw [List.map_map]
    intro z
    exact h (hk.mem_iff.mp (by simpa using z))

/-! ### the flow -/
structure Flo (ws : List (Wt α)) (G : List (List (α × Int))) (lk : List Int) : Prop where
  lG : G.length = ws.length
  ll : lk.length = ws.length
  nG : ∀ g ∈ G, NN g ∧ Nd g
  lt : ∀ (i : Nat) (g : List (α × Int)) (w : Wt α), G[i]? = some g → ws[i]? = some w → ∀ e ∈ g, 0 < e.2 → w.1 e.1 = true
  tt : ∀ (i : Nat) (g : List (α × Int)) (w : Wt α) (x : Int), G[i]? = some g → ws[i]? = some w → lk[i]? = some x → tot g + x = w.2 ∧ 0 ≤ x
structure Flow (c : α → Int) (ws : List (Wt α)) (G : List (List (α × Int))) (L : List (α × Int)) (lk : List Int) : Prop where
  f : Flo ws G lk
  nL : NN L
  dL : Nd L
  con : ∀ p, cnt L p + cnt G.flatten p = c p
theorem gifts_of : ∀ {ws : List (Wt α)} {G : List (List (α × Int))} {lk : List Int}, Flo ws G lk → (∀ x ∈ lk, x ≤ 0) → Gifts ws G
  | [], [], _, _, _ => trivial
  | [], _ :: _, _, f, _ => by have := f.lG; simp at this
  | _ :: _, [], _, f, _ => by have := f.lG; simp at this
  | _ :: _, _ :: _, [], f, _ => by have := f.ll; simp at this
  | w :: ws, g :: G, x :: lk, f, h => by
    have t := f.tt 0 g w x rfl rfl rfl
    have hx := h x List.mem_cons_self
    have lG := f.lG
    have ll := f.ll
    refine ⟨⟨fun e he => ⟨(f.nG g List.mem_cons_self).1 e he, f.lt 0 g w rfl rfl e he⟩, by omega⟩, gifts_of (ws := ws) (G := G) (lk := lk) ⟨by simpa using lG, by simpa using ll, fun g' h' => f.nG g' (List.mem_cons_of_mem _ h'), fun i g' w' h1 h2 => f.lt (i + 1) g' w' (by simpa using h1) (by simpa using h2), fun i g' w' x' h1 h2 h3 => f.tt (i + 1) g' w' x' (by simpa using h1) (by simpa using h2) (by simpa using h3)⟩ fun y hy => h y (List.mem_cons_of_mem _ hy)⟩
theorem Flow.deals {c : α → Int} {ws : List (Wt α)} {G : List (List (α × Int))} {L : List (α × Int)} {lk : List Int} (F : Flow c ws G L lk) (h : ∀ x ∈ lk, x ≤ 0) : Deals c ws :=
  ⟨G, gifts_of F.f h, fun p => by
    have h1 := F.con p
    have h2 := cnt_nonneg F.nL p
    omega⟩
/-- flags by place -/
def flags (R : Nat → Bool) : Nat → Nat → List Bool
  | _, 0 => []
  | i, n + 1 => R i :: flags R (i + 1) n
theorem flag_in {T : α → Bool} {c : α → Int} {R : Nat → Bool} : ∀ {ws : List (Wt α)} {i : Nat}, (∀ (j : Nat) (w : Wt α), ws[j]? = some w → R (i + j) = true → ∀ p, w.1 p = true → T p = true ∨ c p ≤ 0) → FlagIn T c (flags R i ws.length) ws
  | [], _, _ => trivial
  | w :: ws, i, h => ⟨fun hb p => h 0 w rfl hb p, flag_in (ws := ws) (i := i + 1) fun j w' hj hr => h (j + 1) w' (by simpa using hj) (by rw [← hr]; congr 1; omega)⟩
theorem tsum_le_tot (T : α → Bool) {l : List (α × Int)} (h : NN l) : tsum T l ≤ tot l := by
  induction l with
  | nil => exact Int.le_refl _
  | cons e r ih =>
    have h1 := h e List.mem_cons_self
    have h2 := ih fun x hx => h x (List.mem_cons_of_mem _ hx)
    simp only [tsum, tot]
    split <;> omega
theorem tsum_zero (T : α → Bool) {l : List (α × Int)} (h : ∀ e ∈ l, T e.1 = true → e.2 ≤ 0) : tsum T l ≤ 0 := by
  induction l with
  | nil => exact Int.le_refl _
  | cons e r ih =>
    have h1 := h e List.mem_cons_self
    have h2 := ih fun x hx => h x (List.mem_cons_of_mem _ hx)
    simp only [tsum]
    split
    · have := h1 (by assumption); omega
    · omega
theorem stuck_sum {T : α → Bool} {R : Nat → Bool} : ∀ {ws : List (Wt α)} {G : List (List (α × Int))} {lk : List Int} {i : Nat}, Flo ws G lk → (∀ (j : Nat) (g : List (α × Int)), G[j]? = some g → R (i + j) = false → ∀ e ∈ g, T e.1 = true → e.2 ≤ 0) →
    tsum T G.flatten ≤ fsum (flags R i ws.length) ws ∧ ((∃ (j : Nat) (x : Int), lk[j]? = some x ∧ 0 < x ∧ R (i + j) = true) → tsum T G.flatten < fsum (flags R i ws.length) ws)
  | [], [], lk, _, f, _ => by
    have ll := f.ll
    have : lk = [] := List.length_eq_zero_iff.mp (by simpa using ll)
    subst this
    exact ⟨Int.le_refl _, fun ⟨j, x, h, _⟩ => by simp at h⟩
  | [], _ :: _, _, _, f, _ => by have := f.lG; simp at this
  | _ :: _, [], _, _, f, _ => by have := f.lG; simp at this
  | _ :: _, _ :: _, [], _, f, _ => by have := f.ll; simp at this
  | w :: ws, g :: G, x :: lk, i, f, h => by
    have t := f.tt 0 g w x rfl rfl rfl
    have lG := f.lG
    have ll := f.ll
    have n := f.nG g List.mem_cons_self
    have f' : Flo ws G lk := ⟨by simpa using lG, by simpa using ll, fun g' h' => f.nG g' (List.mem_cons_of_mem _ h'), fun i g' w' h1 h2 => f.lt (i + 1) g' w' (by simpa using h1) (by simpa using h2), fun i g' w' x' h1 h2 h3 => f.tt (i + 1) g' w' x' (by simpa using h1) (by simpa using h2) (by simpa using h3)⟩
    obtain ⟨ih1, ih2⟩ := stuck_sum (T := T) (R := R) (ws := ws) (G := G) (lk := lk) (i := i + 1) f' fun j g' hj hr => h (j + 1) g' (by simpa using hj) (by rw [← hr]; congr 1; omega)
    have h0 := h 0 g rfl
    rw [List.flatten_cons, tsum_app]
    show tsum T g + tsum T G.flatten ≤ (if R i = true then w.2 else 0) + fsum (flags R (i + 1) ws.length) ws ∧ (_ → tsum T g + tsum T G.flatten < (if R i = true then w.2 else 0) + fsum (flags R (i + 1) ws.length) ws)
    have le := tsum_le_tot T n.1
    cases hR : R i with
    | true =>
      simp only [if_true]
      refine ⟨by omega, ?_⟩
      rintro ⟨j, y, hj, hy, hr⟩
      cases j with
      | zero =>
        have : x = y := by simpa using hj
        omega
      | succ j =>
        have := ih2 ⟨j, y, by simpa using hj, hy, by rw [← hr]; congr 1; omega⟩
        omega
    | false =>
      have z := tsum_zero T (h0 (by simpa using hR))
      simp only [Bool.false_eq_true, if_false]
      refine ⟨by omega, ?_⟩
      rintro ⟨j, y, hj, hy, hr⟩
      cases j with
      | zero =>
        rw [Nat.add_zero, hR] at hr
        cases hr
      | succ j =>
        have := ih2 ⟨j, y, by simpa using hj, hy, by rw [← hr]; congr 1; omega⟩
        omega
/-- the search that fails: no dealing -/
theorem Flow.stuck {rows : List (α × Int)} {ws : List (Wt α)} {G : List (List (α × Int))} {L : List (α × Int)} {lk : List Int} (F : Flow (cnt rows) ws G L lk) (R : Nat → Bool) (T : α → Bool) {k : Nat} {x : Int} (hk : lk[k]? = some x) (hx : 0 < x) (hR : R k = true)
    (c1 : ∀ (j : Nat) (w : Wt α), ws[j]? = some w → R j = true → ∀ p, w.1 p = true → T p = true ∨ cnt rows p ≤ 0) (c2 : ∀ p, T p = true → cnt L p ≤ 0) (c3 : ∀ (j : Nat) (g : List (α × Int)), G[j]? = some g → R j = false → ∀ p, T p = true → cnt g p ≤ 0) : ¬ Deals (cnt rows) ws := by
  intro d
  have h1 := hinder T (flags R 0 ws.length) (flag_in fun j w hj hr => c1 j w hj (by simpa using hr)) d
  have h2 := (stuck_sum (T := T) (R := R) (i := 0) F.f fun j g hj hr e he ht => by
    have := c3 j g hj (by simpa using hr) e.1 ht
    rw [cnt_at (F.f.nG g (List.mem_of_getElem? hj)).2 he] at this
    exact this).2 ⟨k, x, hk, hx, by simpa using hR⟩
  have h3 : tsum T rows ≤ tsum T (L ++ G.flatten) := tsum_le T fun p => by
    rw [cnt_app]
    have := F.con p
    omega
  have h4 : tsum T L ≤ 0 := tsum_zero T fun e he ht => by
    have := c2 e.1 ht
    rw [cnt_at F.dL he] at this
    exact this
  rw [tsum_app] at h3
  omega

/-! ### on along a way -/
def up1 (m : Int) (got : α) (q : Option α) (g : List (α × Int)) : List (α × Int) :=
  match q with
  | none => pin g got (cnt g got + m)
  | some r => pin (pin g got (cnt g got + m)) r (cnt (pin g got (cnt g got + m)) r - m)
def stepW (m : Int) (G : List (List (α × Int))) (e : Nat × α × Option α) : List (List (α × Int)) :=
  match G[e.1]? with
  | some g => G.set e.1 (up1 m e.2.1 e.2.2 g)
  | none => G
def Chain (k : Nat) : Option α → List (Nat × α × Option α) → Prop
  | none, [] => True
  | some p, (i, got, q) :: r => got = p ∧ (q = none → i = k) ∧ Chain k q r
  | _, _ => False
def WayOk (ws : List (Wt α)) (m : Int) (G : List (List (α × Int))) (way : List (Nat × α × Option α)) : Prop :=
  ∀ e ∈ way, ∃ g w, G[e.1]? = some g ∧ ws[e.1]? = some w ∧ w.1 e.2.1 = true ∧ ∀ q, e.2.2 = some q → m ≤ cnt g q
theorem cnt_set {p : α} {g' : List (α × Int)} : ∀ {G : List (List (α × Int))} {i : Nat} {g : List (α × Int)}, G[i]? = some g → cnt (G.set i g').flatten p = cnt G.flatten p - cnt g p + cnt g' p
  | [], _, _, h => by simp at h
  | x :: G, 0, g, h => by
    have : x = g := by simpa using h
    subst this
    rw [List.set_cons_zero, List.flatten_cons, List.flatten_cons, cnt_app, cnt_app]
    omega
  | x :: G, i + 1, g, h => by
    rw [List.set_cons_succ, List.flatten_cons, List.flatten_cons, cnt_app, cnt_app, cnt_set (by simpa using h)]
    omega
def dl (m : Int) (o : Option α) (p : α) : Int := if o = some p then m else 0
theorem cnt_up1 {m : Int} {got : α} {q : Option α} {g : List (α × Int)} (hn : Nd g) (p : α) : cnt (up1 m got q g) p = cnt g p + dl m (some got) p - dl m q p := by
  unfold up1 dl
  cases q with
  | none =>
    show cnt (pin g got (cnt g got + m)) p = _
    rw [cnt_pin hn]
    by_cases h : p = got
    · rw [if_pos h, if_pos (by rw [h]), h]; simp
    · rw [if_neg h, if_neg (fun z => h (Option.some.inj z).symm)]; simp
  | some r =>
    show cnt (pin (pin g got (cnt g got + m)) r (cnt (pin g got (cnt g got + m)) r - m)) p = _
    rw [cnt_pin (pin_nd hn), cnt_pin hn, cnt_pin hn]
    by_cases h1 : p = r
    · subst h1
      rw [if_pos rfl, if_pos rfl]
      by_cases h : p = got
      · rw [if_pos h, if_pos (by rw [h]), h]
      · rw [if_neg h, if_neg (fun z => h (Option.some.inj z).symm)]; omega
    · rw [if_neg h1, if_neg (fun z => h1 (Option.some.inj z).symm)]
      by_cases h : p = got
      · rw [if_pos h, if_pos (by rw [h]), h]; omega
      · rw [if_neg h, if_neg (fun z => h (Option.some.inj z).symm)]; omega
theorem tot_up1 {m : Int} {got : α} {q : Option α} {g : List (α × Int)} (hn : Nd g) : tot (up1 m got q g) = if q = none then tot g + m else tot g := by
  unfold up1
  cases q with
  | none =>
    show tot (pin g got (cnt g got + m)) = _
    rw [tot_pin hn, if_pos rfl]; omega
  | some r =>
    show tot (pin (pin g got (cnt g got + m)) r (cnt (pin g got (cnt g got + m)) r - m)) = _
    rw [tot_pin (pin_nd hn), tot_pin hn, if_neg (by simp)]; omega
theorem nd_up1 {m : Int} {got : α} {q : Option α} {g : List (α × Int)} (hn : Nd g) : Nd (up1 m got q g) := by
  unfold up1
  cases q with
  | none => exact pin_nd hn
  | some r => exact pin_nd (pin_nd hn)
theorem nn_of_cnt {g : List (α × Int)} (hn : Nd g) (h : ∀ p, 0 ≤ cnt g p) : NN g := fun e he => by
  have := h e.1
  rw [cnt_at hn he] at this
  exact this
theorem nn_up1 {m : Int} {got : α} {q : Option α} {g : List (α × Int)} (hm : 0 ≤ m) (hn : Nd g) (h : NN g) (hq : ∀ r, q = some r → m ≤ cnt g r) : NN (up1 m got q g) := nn_of_cnt (nd_up1 hn) fun p => by
  rw [cnt_up1 hn]
  have h0 := cnt_nonneg h p
  have h1 : 0 ≤ dl m (some got) p := by unfold dl; split <;> omega
  unfold dl at h1 ⊢
  by_cases hp : q = some p
  · rw [if_pos hp]
    have := hq p hp
    omega
  · rw [if_neg hp]; omega
theorem Flo.step {ws : List (Wt α)} {G : List (List (α × Int))} {lk : List Int} (f : Flo ws G lk) {m : Int} (hm : 0 ≤ m) {i : Nat} {got : α} {q : Option α} {g : List (α × Int)} {w : Wt α} (hg : G[i]? = some g) (hw : ws[i]? = some w) (hlt : w.1 got = true) (hq : ∀ r, q = some r → m ≤ cnt g r)
    {lk' : List Int} (hl : lk'.length = lk.length) (ho : ∀ j, j ≠ i → lk'[j]? = lk[j]?) (hi : ∀ x, lk[i]? = some x → lk'[i]? = some (if q = none then x - m else x)) (hx : q = none → ∀ x, lk[i]? = some x → m ≤ x) : Flo ws (G.set i (up1 m got q g)) lk' := by
  have n := f.nG g (List.mem_of_getElem? hg)
  refine ⟨by rw [List.length_set]; exact f.lG, hl.trans f.ll, fun g' h' => ?_, fun j g' w' h1 h2 e he hp => ?_, fun j g' w' x h1 h2 h3 => ?_⟩
  · rcases List.mem_or_eq_of_mem_set h' with z | z
    · exact f.nG g' z
    · rw [z]; exact ⟨nn_up1 hm n.2 n.1 hq, nd_up1 n.2⟩
  · rw [List.getElem?_set] at h1
    by_cases hj : i = j
    · subst hj
      rw [if_pos rfl, if_pos (List.getElem?_eq_some_iff.mp hg).1] at h1
      cases h1
      rw [hw] at h2
      cases h2
      by_cases hgot : e.1 = got
      · rw [hgot]; exact hlt
      · have h3 := cnt_at (nd_up1 (m := m) (got := got) (q := q) n.2) he
        rw [cnt_up1 n.2] at h3
        have h4 : dl m (some got) e.1 = 0 := by unfold dl; rw [if_neg fun z => hgot (Option.some.inj z).symm]
        have h5 : 0 ≤ dl m q e.1 := by unfold dl; split <;> omega
        have h6 : 0 < cnt g e.1 := by omega
        have h7 : cnt g e.1 = (gvo g e.1).getD 0 := cnt_get n.2 e.1
        cases hge : gvo g e.1 with
        | none => rw [hge] at h7; simp at h7; omega
        | some y =>
          rw [hge] at h7
          have h7 : cnt g e.1 = y := h7
          exact f.lt i g w hg hw (e.1, y) (get_mem hge) (by show 0 < y; omega)
    · rw [if_neg hj] at h1
      exact f.lt j g' w' h1 h2 e he hp
  · rw [List.getElem?_set] at h1
    by_cases hj : i = j
    · subst hj
      rw [if_pos rfl, if_pos (List.getElem?_eq_some_iff.mp hg).1] at h1
      cases h1
      have hil : i < lk.length := by rw [f.ll]; exact (List.getElem?_eq_some_iff.mp hw).1
      have h4 : lk[i]? = some lk[i] := List.getElem?_eq_getElem hil
      have h5 := hi _ h4
      rw [h3] at h5
      obtain ⟨h6, h7⟩ := f.tt i g w _ hg hw h4
      rw [hw] at h2
      cases h2
      rw [tot_up1 n.2]
      by_cases hqn : q = none
      · rw [if_pos hqn] at h5 ⊢
        have := hx hqn _ h4
        have := Option.some.inj h5
        omega
      · rw [if_neg hqn] at h5 ⊢
        have := Option.some.inj h5
        omega
    · rw [if_neg hj] at h1
      rw [ho j fun z => hj z.symm] at h3
      exact f.tt j g' w' x h1 h2 h3
theorem stepW_at {m : Int} {G : List (List (α × Int))} {e : Nat × α × Option α} {g : List (α × Int)} (h : G[e.1]? = some g) : stepW m G e = G.set e.1 (up1 m e.2.1 e.2.2 g) := by
  unfold stepW
  rw [h]
theorem aug {ws : List (Wt α)} {m : Int} (hm : 0 ≤ m) {k : Nat} : ∀ {way : List (Nat × α × Option α)} {o : Option α} {G : List (List (α × Int))} {lk : List Int} {x : Int}, Chain k o way → o ≠ none → (way.map (·.1)).Nodup → WayOk ws m G way → Flo ws G lk → lk[k]? = some x → m ≤ x →
    Flo ws (way.foldl (stepW m) G) (lk.set k (x - m)) ∧ ∀ p, cnt (way.foldl (stepW m) G).flatten p = cnt G.flatten p + dl m o p
  | [], none, _, _, _, _, h, _, _, _, _, _ => absurd rfl h
  | [], some _, _, _, _, hc, _, _, _, _, _, _ => hc.elim
  | _ :: _, none, _, _, _, hc, _, _, _, _, _, _ => hc.elim
  | (i, got, q) :: r, some p0, G, lk, x, hc, _, hn, hw, f, hk, hx => by
    obtain ⟨rfl, hik, hc⟩ := hc
    obtain ⟨g, w, h1, h2, h3, h4⟩ := hw (i, got, q) List.mem_cons_self
    have h1 : G[i]? = some g := h1
    have h2 : ws[i]? = some w := h2
    have nn := f.nG g (List.mem_of_getElem? h1)
    have hn' : i ∉ r.map (·.1) ∧ (r.map (·.1)).Nodup := List.nodup_cons.mp hn
    rw [List.foldl_cons, stepW_at (e := (i, got, q)) h1]
    have hcs : ∀ p, cnt (G.set i (up1 m got q g)).flatten p = cnt G.flatten p + dl m (some got) p - dl m q p := fun p => by
      rw [cnt_set h1, cnt_up1 nn.2]; omega
    cases q with
    | none =>
      have hr : r = [] := by
        cases r with
        | nil => rfl
        | cons _ _ => exact hc.elim
      subst hr
      have hik := hik rfl
      subst hik
      refine ⟨f.step hm h1 h2 h3 h4 (by rw [List.length_set]) (fun j hj => by rw [List.getElem?_set, if_neg fun z => hj z.symm]) (fun y hy => ?_) (fun _ y hy => ?_), fun p => ?_⟩
      · rw [hk] at hy
        cases hy
        rw [List.getElem?_set, if_pos rfl, if_pos (List.getElem?_eq_some_iff.mp hk).1, if_pos rfl]
      · rw [hk] at hy
        cases hy
        exact hx
      · have := hcs p
        rw [List.foldl_nil]
        have z : dl m (none : Option α) p = 0 := by unfold dl; rw [if_neg (by simp)]
        show cnt (G.set i (up1 m got none g)).flatten p = _
        omega
    | some q0 =>
      have f2 : Flo ws (G.set i (up1 m got (some q0) g)) lk := f.step hm h1 h2 h3 h4 rfl (fun _ _ => rfl) (fun y hy => by rw [if_neg (by simp)]; exact hy) (fun z => by cases z)
      have w2 : WayOk ws m (G.set i (up1 m got (some q0) g)) r := fun e he => by
        obtain ⟨g', w', a1, a2, a3, a4⟩ := hw e (List.mem_cons_of_mem _ he)
        have : i ≠ e.1 := fun z => hn'.1 (List.mem_map.mpr ⟨e, he, z.symm⟩)
        exact ⟨g', w', by rw [List.getElem?_set, if_neg this]; exact a1, a2, a3, a4⟩
      obtain ⟨r1, r2⟩ := aug hm (way := r) (o := some q0) hc (by simp) hn'.2 w2 f2 hk hx
      refine ⟨r1, fun p => ?_⟩
      have e1 := r2 p
      have e2 := hcs p
      show cnt (r.foldl (stepW m) (G.set i (up1 m got (some q0) g))).flatten p = _
      omega
/-- the whole lead: left at p0 less by m, the gifts on along the way -/
theorem Flow.lead {c : α → Int} {ws : List (Wt α)} {G : List (List (α × Int))} {L : List (α × Int)} {lk : List Int} (F : Flow c ws G L lk) {m : Int} (hm : 0 ≤ m) {k : Nat} {p0 : α} {way : List (Nat × α × Option α)} {x : Int} (hc : Chain k (some p0) way) (hn : (way.map (·.1)).Nodup) (hw : WayOk ws m G way) (hk : lk[k]? = some x) (hx : m ≤ x) (hL : m ≤ cnt L p0) :
    Flow c ws (way.foldl (stepW m) G) (pin L p0 (cnt L p0 - m)) (lk.set k (x - m)) := by
  obtain ⟨f, e⟩ := aug hm hc (by simp) hn hw F.f hk hx
  refine ⟨f, pin_nn F.nL (by omega), pin_nd F.dL, fun p => ?_⟩
  rw [e, cnt_pin F.dL]
  have := F.con p
  unfold dl
  by_cases h : p = p0
  · rw [if_pos h, if_pos (by rw [h])]
    rw [h] at this ⊢
    omega
  · rw [if_neg h, if_neg fun z => h (Option.some.inj z).symm]
    omega
end
end K70M

end
section
set_option maxRecDepth 100000
set_option maxHeartbeats 4000000
/-! The data: parts, rows, wants, heaps as they stand. -/
namespace K70
open PySem PySem.Spec PyProof.Rows L2 K70M
abbrev Part := Str × Str
abbrev Row := Part × Int
/-- form, shades, many -/
abbrev Want := Str × List Str × Int
theorem pk_inj {p q : Part} : pk p = pk q ↔ p = q := by
  constructor
  · intro h
    have h : ([.inr p.1, .inr p.2] : List Key) = [.inr q.1, .inr q.2] := h
    simp only [List.cons.injEq, Sum.inr.injEq, and_true] at h
    exact Prod.ext h.1 h.2
  · rintro rfl
    rfl
def encI (c : List Row) : List (List Key × V) := c.map fun e => (pk e.1, V.int e.2)
theorem enc_val (c : List Row) (p : Part) : valV (encI c) (pk p) = (gvo c p).map V.int := by
  induction c with
  | nil => rfl
  | cons e r ih =>
    by_cases h : e.1 = p
    · rw [show encI (e :: r) = (pk e.1, V.int e.2) :: encI r from rfl, valV_pos (pk_inj.mpr h)]
      unfold gvo
      rw [List.find?_cons_of_pos (by simpa using h)]
      rfl
    · rw [show encI (e :: r) = (pk e.1, V.int e.2) :: encI r from rfl, valV_neg (fun z => h (pk_inj.mp z)), ih]
      unfold gvo
      rw [List.find?_cons_of_neg (by simpa using h)]
theorem enc_any (c : List Row) (p : Part) : ((encI c).any fun kv => decide (kv.1 = pk p)) = c.any fun e => decide (e.1 = p) := by
  unfold encI
  rw [List.any_map]
  congr 1
  funext e
  show decide (pk e.1 = pk p) = decide (e.1 = p)
  simp only [pk_inj]
theorem enc_put (c : List Row) (p : Part) (x : Int) : putK (encI c) (pk p) (.int x) = encI (pin c p x) := by
  unfold putK pin
  rw [enc_any]
  split
  · unfold encI
    rw [List.map_map, List.map_map]
    refine List.map_congr_left fun e _ => ?_
    show (if pk e.1 = pk p then (pk e.1, V.int x) else (pk e.1, V.int e.2)) = (pk (if e.1 = p then (e.1, x) else e).1, V.int (if e.1 = p then (e.1, x) else e).2)
    by_cases h : e.1 = p
    · rw [if_pos (pk_inj.mpr h), if_pos h]
    · rw [if_neg (fun z => h (pk_inj.mp z)), if_neg h]
  · unfold encI
    rw [List.map_append]
    rfl
theorem enc_len (c : List Row) : (encI c).length = c.length := List.length_map _

/-! ### things that stand -/
section
variable {β γ : Type}
def TupOf (R : Hp → Addr → β → Prop) (H : Hp) (t : Addr) (bs : List β) : Prop := ∃ as : List Addr, H t = some (.tup (as.map V.ref)) ∧ Paired (R H) as bs
def LstOf (R : Hp → Addr → β → Prop) (H : Hp) (t : Addr) (bs : List β) : Prop := ∃ as : List Addr, H t = some (.lst (as.map V.ref)) ∧ Paired (R H) as bs
def Mono (R : Hp → Addr → β → Prop) : Prop := ∀ H H' a b, Same H H' → R H a b → R H' a b
theorem Paired_mono {α β : Type} {R R' : α → β → Prop} (h : ∀ a b, R a b → R' a b) : ∀ {as : List α} {bs : List β}, Paired R as bs → Paired R' as bs
  | _, _, .nil => .nil
  | _, _, .cons r t => .cons (h _ _ r) (Paired_mono h t)
theorem TupOf.mono {R : Hp → Addr → β → Prop} (m : Mono R) {H H' : Hp} {t : Addr} {bs : List β} (s : Same H H') (h : TupOf R H t bs) : TupOf R H' t bs := by
  obtain ⟨as, h1, h2⟩ := h
  exact ⟨as, s _ _ h1, Paired_mono (fun a b r => m H H' a b s r) h2⟩
theorem LstOf.mono {R : Hp → Addr → β → Prop} (m : Mono R) {H H' : Hp} {t : Addr} {bs : List β} (s : Same H H') (h : LstOf R H t bs) : LstOf R H' t bs := by
  obtain ⟨as, h1, h2⟩ := h
  exact ⟨as, s _ _ h1, Paired_mono (fun a b r => m H H' a b s r) h2⟩
theorem pget {R : Addr → β → Prop} : ∀ {as : List Addr} {bs : List β} {i : Nat} {x : V}, Paired R as bs → (as.map V.ref)[i]? = some x → ∃ a b, as[i]? = some a ∧ bs[i]? = some b ∧ x = V.ref a ∧ R a b
  | _, _, _, _, .nil, h => by simp at h
  | _, _, 0, _, .cons r t, h => by
    have h := Option.some.inj h
    exact ⟨_, _, rfl, rfl, h.symm, r⟩
  | _, _, i + 1, _, .cons r t, h => by
    obtain ⟨a, b, h1, h2, h3⟩ := pget t (i := i) h
    exact ⟨a, b, h1, h2, h3⟩
theorem pgetB {R : Addr → β → Prop} : ∀ {as : List Addr} {bs : List β} {i : Nat} {b : β}, Paired R as bs → bs[i]? = some b → ∃ a, as[i]? = some a ∧ (as.map V.ref)[i]? = some (V.ref a) ∧ R a b
  | _, _, _, _, .nil, h => by simp at h
  | _, _, 0, _, .cons r t, h => by
    have h := Option.some.inj h
    subst h
    exact ⟨_, rfl, rfl, r⟩
  | _, _, i + 1, _, .cons r t, h => pgetB t (i := i) h
theorem Paired_snoc {α : Type} {R : α → β → Prop} : ∀ {as : List α} {bs : List β} {a : α} {b : β}, Paired R as bs → R a b → Paired R (as ++ [a]) (bs ++ [b])
  | _, _, _, _, .nil, r => .cons r .nil
  | _, _, _, _, .cons q t, r => .cons q (Paired_snoc t r)
theorem Paired_app {α : Type} {R : α → β → Prop} {cs : List α} {ds : List β} (h : Paired R cs ds) : ∀ {as : List α} {bs : List β}, Paired R as bs → Paired R (as ++ cs) (bs ++ ds)
  | _, _, .nil => h
  | _, _, .cons q t => .cons q (Paired_app h t)
theorem Paired_take {α : Type} {R : α → β → Prop} : ∀ (n : Nat) {as : List α} {bs : List β}, Paired R as bs → Paired R (as.take n) (bs.take n)
  | 0, _, _, _ => .nil
  | n + 1, _, _, .nil => .nil
  | n + 1, _, _, .cons q t => .cons q (Paired_take n t)
theorem Paired_drop {α : Type} {R : α → β → Prop} : ∀ (n : Nat) {as : List α} {bs : List β}, Paired R as bs → Paired R (as.drop n) (bs.drop n)
  | 0, _, _, h => h
  | n + 1, _, _, .nil => .nil
  | n + 1, _, _, .cons q t => Paired_drop n t
end
theorem take_snoc {α : Type} {l : List α} {i : Nat} {x : α} (h : l[i]? = some x) : l.take (i + 1) = l.take i ++ [x] := by
  rw [List.take_succ, h]
  rfl
theorem same_new {H : Hp} {D : Addr} {o : HO} (h : H D = none) : Same H (upd H D o) := fun b u e => by
  rw [upd_ne (ne_of_none e h)]
  exact e
theorem same_put {H0 H : Hp} {D : Addr} {o : HO} (s : Same H0 H) (h : H0 D = none) : Same H0 (upd H D o) := fun b u e => by
  rw [upd_ne (ne_of_none e h)]
  exact s _ _ e
/-- all but these stay -/
def Kept (ms : List Addr) (H H' : Hp) : Prop := ∀ b o, H b = some o → b ∉ ms → H' b = some o
theorem Kept.refl {ms : List Addr} {H : Hp} : Kept ms H H := fun _ _ h _ => h
theorem Kept.of {ms : List Addr} {H H' : Hp} (s : Same H H') : Kept ms H H' := fun b o h _ => s b o h
theorem Kept.trans {ms : List Addr} {H H1 H2 : Hp} (a : Kept ms H H1) (b : Kept ms H1 H2) : Kept ms H H2 := fun c o h n => b c o (a c o h n) n
theorem Kept.put {ms : List Addr} {H H1 : Hp} {D : Addr} {o : HO} (a : Kept ms H H1) (h : D ∈ ms ∨ H D = none) : Kept ms H (upd H1 D o) := fun c u hc n => by
  have : c ≠ D := by
    rcases h with h | h
    · exact fun z => n (by rw [z]; exact h)
    · exact ne_of_none hc h
  rw [upd_ne this]
  exact a c u hc n
theorem Kept.same {ms : List Addr} {H H' : Hp} (k : Kept ms H H') (h : ∀ m ∈ ms, H m = none) : Same H H' := fun b o e => k b o e fun z => by
  rw [h b z] at e
  cases e
/-- the mutable ones are new -/
theorem Kept.new {ms : List Addr} {H0 H H' : Hp} (s : Same H0 H) (k : Kept ms H H') (h : ∀ m ∈ ms, H0 m = none) : Same H0 H' := fun b o e => k b o (s b o e) fun z => by
  rw [h b z] at e
  cases e
def Quiet (R : Hp → Addr → β → Prop) : Prop := ∀ (ms : List Addr) H H' a b, Kept ms H H' → (∀ m ∈ ms, ∀ o, H m = some o → Mut (some o)) → R H a b → R H' a b

def RowAt (H : Hp) (a : Addr) (r : Row) : Prop := H a = some (.tup [.str r.1.1, .str r.1.2, .int r.2])
theorem RowAt.mono : Mono RowAt := fun H H' a b s h => s _ _ h
/-- words that may stand in data -/
def WOk (w : Want) : Prop := PyData.strOk w.1 = true ∧ ∀ s ∈ w.2.1, PyData.strOk s = true
def WantAt (H : Hp) (a : Addr) (w : Want) : Prop := ∃ t, H a = some (.tup [.str w.1, .ref t, .int w.2.2]) ∧ H t = some (.tup (w.2.1.map V.str)) ∧ WOk w
theorem WantAt.mono : Mono WantAt := fun H H' a b s ⟨t, h1, h2, h3⟩ => ⟨t, s _ _ h1, s _ _ h2, h3⟩
theorem canLay_strs : ∀ {ss : List Str}, (∀ s ∈ ss, PyData.strOk s = true) → PyData.canLayAll0 (ss.map PyData.str) = true
  | [], _ => rfl
  | s :: r, h => by
    show (PyData.canLay0 (.str s) && PyData.canLayAll0 (r.map PyData.str)) = true
    rw [canLay_strs fun x hx => h x (List.mem_cons_of_mem _ hx), Bool.and_true]
    exact h s List.mem_cons_self
theorem depth_strs : ∀ ss : List Str, PyData.depthAll (ss.map PyData.str) = 0
  | [] => by simp [PyData.depthAll]
  | s :: r => by
    simp [PyData.depthAll, depth_strs r, PyData.depth]
theorem shaped_strs {ss : List Str} (h : ∀ s ∈ ss, PyData.strOk s = true) : SeqAt.shaped (.tuple (ss.map PyData.str)) = true := by
  show (PyData.canLayAll0 (ss.map PyData.str) && decide ((PyData.tuple (ss.map PyData.str)).depth ≤ 64)) = true
  rw [canLay_strs h, PyData.depth, depth_strs]
  rfl
theorem shaped_strsL {ss : List Str} (h : ∀ s ∈ ss, PyData.strOk s = true) : SeqAt.shaped (.list (ss.map PyData.str)) = true := by
  show (PyData.canLayAll0 (ss.map PyData.str) && decide ((PyData.list (ss.map PyData.str)).depth ≤ 64)) = true
  rw [canLay_strs h, PyData.depth, depth_strs]
  rfl
theorem canLay_ints : ∀ ns : List Int, PyData.canLayAll0 (ns.map PyData.int) = true
  | [] => rfl
  | s :: r => by
    show (true && PyData.canLayAll0 (r.map PyData.int)) = true
    rw [canLay_ints r]
    rfl
theorem depth_ints : ∀ ns : List Int, PyData.depthAll (ns.map PyData.int) = 0
  | [] => by simp [PyData.depthAll]
  | s :: r => by
    simp [PyData.depthAll, depth_ints r, PyData.depth]
theorem shaped_ints (ns : List Int) : SeqAt.shaped (.list (ns.map PyData.int)) = true := by
  show (PyData.canLayAll0 (ns.map PyData.int) && decide ((PyData.list (ns.map PyData.int)).depth ≤ 64)) = true
  rw [canLay_ints, PyData.depth, depth_ints]
  rfl
theorem ints_dp {K : PySem.W.Frag} {H : Hp} : ∀ xs : List Int, DpAll K H (xs.map V.int) (xs.map PyData.int)
  | [] => .nil
  | x :: r => .cons (.int x) (ints_dp r)
theorem PartAt.mono : Mono PartAt := fun H H' a b s h => s _ _ h
abbrev RowsAt := TupOf RowAt
abbrev WantsAt := TupOf WantAt
theorem RowsAt.mono : Mono RowsAt := fun H H' a b s h => TupOf.mono RowAt.mono s h
theorem WantsAt.mono : Mono WantsAt := fun H H' a b s h => TupOf.mono WantAt.mono s h
structure HeapAt (C : Addr) (H : Hp) (p : Addr) (rows : List Row) : Prop where
  ob : ∃ dx t, H p = some (.ins C dx [("parts", .ref t)]) ∧ RowsAt H t rows
  nd : Nd rows
  nn : NN rows
theorem HeapAt.mono {C : Addr} : Mono (HeapAt C) := fun H H' a b s h => ⟨by
  obtain ⟨dx, t, h1, h2⟩ := h.ob
  exact ⟨dx, t, s _ _ h1, RowsAt.mono _ _ _ _ s h2⟩, h.nd, h.nn⟩
theorem vstr_inj : ∀ {ss ss' : List Str}, ss.map V.str = ss'.map V.str → ss = ss'
  | [], [], _ => rfl
  | a :: r, b :: r', h => by
    simp only [List.map_cons, List.cons.injEq, V.str.injEq] at h
    rw [h.1, vstr_inj h.2]
  | [], _ :: _, h => by simp at h
  | _ :: _, [], h => by simp at h
end K70

end
section
set_option maxRecDepth 100000
set_option maxHeartbeats 4000000
/-! counted, Heap's methods. -/
namespace K70
open PySem PySem.Spec PyProof.Rows L2 K70M
/-- rows are counted -/
def spCounted : Sp := fun vs H Q _ => ∃ (t : Addr) (rows : List Row), vs = [.ref t] ∧ RowsAt H t rows ∧ NN rows ∧ rows.length ≤ 1000 ∧
  ∀ (d : Addr) (c : List Row) (H' : Hp), H d = none → Same H H' → H' d = some (.dT (encI c)) → Nd c → (∀ p, cnt c p = cnt rows p) → NN c → c.length ≤ rows.length → Q (.ref d) H'
section
variable {P : Program} {w : World} {K : PySem.W.Frag} {mg : Str → Option Value} {base : Heap}
theorem ok_counted {f : Addr} {fd : FuncData} (F : Fun K "counted" "counted" s_counted f fd) : FnOk P w K mg base CX0 1 f fd ["rows"] spCounted := by
  refine F.ok sc_counted (fun vs H Q E h => ?_) (fun cdv A outer s H vs Q E hr h => ?_)
  · obtain ⟨t, rows, rfl, _⟩ := h
    rfl
  · obtain ⟨t, rows, rfl, hR, hnn, hlen, k⟩ := h
    have hu := hu_of hr
    have nd := sc_counted.nd
    refine ⟨_, pss_cons (ps_set (i := 1) nd rfl (Or.inl rfl) pe_dnewT)
      (pss_cons (ps_for PassesOwn.never rfl (pi_tup (pv 0)) (pg_tup rfl (pgs_cons (pg_name (i := 2) nd rfl (Or.inl rfl)) (pgs_cons (pg_name (i := 3) nd rfl (Or.inl rfl)) (pgs_cons (pg_name (i := 4) nd rfl (Or.inl rfl)) pgs_nil))))
        (pss_one (ps_dput hu (pv 1) (pe_tup (pa_cons (pv 2) (pa_cons (pv 3) pa_nil))) (pe_op op_add (pe_dsetdT hu (pv 1) (pe_tup (pa_cons (pv 2) (pa_cons (pv 3) pa_nil))) pe_int ⟨rfl, rfl, rfl, rfl⟩) (pv 4)) rfl)))
      (pss_one (ps_ret (pv 1)))), ?_⟩
    intro d hd
    obtain ⟨as, hT, hP⟩ := hR
    refine ⟨_, rfl, t, rfl, ⟨_, SqT.of ((same_new hd) _ _ hT)⟩, for_tup (K := K) (a := t) (xs := as.map V.ref) (fun i σ H2 => ∃ (c : List Row) (a b e : Option V), σ = [some (.ref t), some (.ref d), a, b, e] ∧ Same H H2 ∧ H2 d = some (.dT (encI c)) ∧ Nd c ∧ (∀ p, cnt c p = cnt (rows.take i) p) ∧ NN c ∧ c.length ≤ i)
      ⟨[], none, none, none, rfl, same_new hd, upd_same, List.nodup_nil, fun p => rfl, (fun e he => by cases he), Nat.le_refl _⟩ (fun i σ H2 _ ⟨_, _, _, _, _, s2, _⟩ => SqT.of (s2 _ _ hT)) ?_ ?_⟩
    · rintro i y σ H2 hi ⟨c, a, b, e, rfl, s2, hD, nc, hc, cn, hl⟩
      obtain ⟨ra, row, h1, h2, rfl, h3⟩ := pget hP hi
      have hil : i < rows.length := (List.getElem?_eq_some_iff.mp h2).1
      have hrow : H2 ra = some (.tup [.str row.1.1, .str row.1.2, .int row.2]) := s2 _ _ h3
      have h0 : 0 ≤ row.2 := hnn row (List.mem_of_getElem? h2)
      have tk := take_snoc h2
      have fin : ∀ (c' : List Row), Nd c' → (∀ p, cnt c' p = cnt c p + cnt [row] p) → ∀ p, cnt c' p = cnt (rows.take (i + 1)) p := fun c' _ z p => by
        rw [tk, cnt_app, z, hc]
      refine ⟨ra, _, rfl, SqT.of hrow, rfl, _, _, rfl, _, _, rfl, _, _, rfl, rfl, ?_⟩
      refine ⟨_, rfl, d, rfl, .inr ⟨_, .inl hD⟩, _, rfl, _, rfl, by show 2 ≤ sizeLine; decide, fun p1 hp1 => ?_⟩
      have g1 : (upd H2 p1 (.tup [.str row.1.1, .str row.1.2])) d = some (.dT (encI c)) := by rw [upd_ne (ne_of_none hD hp1)]; exact hD
      have cr : ∀ p, cnt [row] p = if p = row.1 then row.2 else 0 := fun p => by
        show (if row.1 = p then row.2 else 0) + 0 = _
        by_cases h : p = row.1
        · rw [if_pos h, if_pos h.symm]; omega
        · rw [if_neg h, if_neg fun z => h z.symm]; rfl
      refine ⟨encI c, pk row.1, p1, g1, rfl, upd_same, by rw [enc_len, sizeLine_eq]; omega, fun v hv => ?_, fun hv => ?_⟩
      · rw [enc_val] at hv
        obtain ⟨x, hx, rfl⟩ : ∃ x, gvo c row.1 = some x ∧ v = V.int x := by
          cases q : gvo c row.1 with
          | none => rw [q] at hv; cases hv
          | some x => rw [q] at hv; exact ⟨x, rfl, (Option.some.inj hv).symm⟩
        have cx : cnt c row.1 = x := by rw [cnt_get nc, hx]; rfl
        refine ⟨_, rfl, _, _, rfl, rfl, ?_⟩
        refine ⟨_, rfl, _, rfl, _, rfl, by show 2 ≤ sizeLine; decide, fun p2 hp2 => ?_⟩
        have g2 : (upd (upd H2 p1 (.tup [.str row.1.1, .str row.1.2])) p2 (.tup [.str row.1.1, .str row.1.2])) d = some (.dT (encI c)) := by rw [upd_ne (ne_of_none g1 hp2)]; exact g1
        refine ⟨d, _, rfl, DPut.t (b := p2) (k := pk row.1) g2 upd_same (by rw [enc_len, sizeLine_eq]; omega), ?_⟩
        have hp1' : H p1 = none := s2.free hp1
        have hp2' : H p2 = none := by
          have := s2.free (H' := H2) (l := p2) (by
            by_cases q : p2 = p1
            · rw [q]; exact hp1
            · rw [upd_ne q] at hp2; exact hp2)
          exact this
        refine ⟨pin c row.1 (x + row.2), _, _, _, rfl, same_put (same_put (same_put s2 hp1') hp2') hd, by rw [upd_same, enc_put], pin_nd nc, fin _ (pin_nd nc) fun p => ?_, pin_nn cn (by have := cnt_nonneg cn row.1; omega), by have := pin_len (c := c) (p := row.1) (x := x + row.2); omega⟩
        rw [cnt_pin nc, cr]
        by_cases h : p = row.1
        · rw [if_pos h, if_pos h, h, cx]
        · rw [if_neg h, if_neg h]; omega
      · rw [enc_val] at hv
        have hx : gvo c row.1 = none := by
          cases q : gvo c row.1 with
          | none => rfl
          | some x => rw [q] at hv; cases hv
        have cx : cnt c row.1 = 0 := by rw [cnt_get nc, hx]; rfl
        refine ⟨_, rfl, _, _, rfl, rfl, ?_⟩
        have nd0 : d ≠ p1 := ne_of_none hD hp1
        refine ⟨_, rfl, _, rfl, _, rfl, by show 2 ≤ sizeLine; decide, fun p2 hp2 => ?_⟩
        rw [enc_put] at hp2 ⊢
        have g2 : (upd (upd (upd H2 p1 (.tup [.str row.1.1, .str row.1.2])) d (.dT (encI (pin c row.1 0)))) p2 (.tup [.str row.1.1, .str row.1.2])) d = some (.dT (encI (pin c row.1 0))) := by
          rw [upd_ne (ne_of_none upd_same hp2), upd_same]
        have pl0 := pin_len (c := c) (p := row.1) (x := 0)
        have pl1 : (pin c row.1 0).length ≤ i + 1 := by omega
        refine ⟨d, _, rfl, DPut.t (b := p2) (k := pk row.1) g2 upd_same (by rw [enc_len, sizeLine_eq]; omega), ?_⟩
        have hp1' : H p1 = none := s2.free hp1
        have hp2' : H p2 = none := (same_put (same_put s2 hp1') hd).free hp2
        have kin : row.1 ∈ (pin c row.1 0).map (·.1) := pin_mem_key.mpr (.inl rfl)
        have plen : (pin (pin c row.1 0) row.1 (0 + row.2)).length = (pin c row.1 0).length := by
          have e1 : (pin (pin c row.1 0) row.1 (0 + row.2)).map (·.1) = (pin c row.1 0).map (·.1) := by rw [pin_keys, if_pos kin]
          have := congrArg List.length e1
          simpa using this
        refine ⟨pin (pin c row.1 0) row.1 (0 + row.2), _, _, _, rfl, same_put (same_put (same_put (same_put s2 hp1') hd) hp2') hd, by rw [upd_same, enc_put], pin_nd (pin_nd nc), fin _ (pin_nd (pin_nd nc)) fun p => ?_, pin_nn (pin_nn cn (Int.le_refl _)) (by omega), by omega⟩
        rw [cnt_pin (pin_nd nc), cnt_pin nc, cr]
        by_cases h : p = row.1
        · rw [if_pos h, if_pos h, h, cx]
        · rw [if_neg h, if_neg h, if_neg h]; omega
    · rintro σ H2 ⟨c, a, b, e, rfl, s2, hD, nc, hc, cn, hl⟩
      have el : (as.map V.ref).length = rows.length := by rw [List.length_map]; exact hP.length
      rw [el, List.take_length] at hc
      refine ⟨_, rfl, k d c H2 hd s2 hD nc hc cn (by omega)⟩
end
end K70

end
section
set_option maxRecDepth 100000
set_option maxHeartbeats 4000000
/-! Heap's methods; the rule of a call by its name. -/
namespace K70
open PySem PySem.Spec PyProof.Rows L2 K70M
/-- the built-ins' names are free -/
structure BT (mg : Str → Option Value) : Prop where
  sorted : mg "sorted" = none
  tuple : mg "tuple" = none
  len : mg "len" = none
  sum : mg "sum" = none
  range : mg "range" = none
  min : mg "min" = none
  enumerate : mg "enumerate" = none
  zip : mg "zip" = none
  set : mg "set" = none
  list : mg "list" = none
  dict : mg "dict" = none
  all : mg "all" = none
/-- a def by its name, ready to be called -/
structure Cl (P : Program) (w : World) (K : PySem.W.Frag) (mg : Str → Option Value) (base : Heap) (CX : CXT) (k : Nat) (x : Str) (ps : List Str) (dvs : List V) (sp : Sp) : Prop where
  ex : ∃ f fd ds, mg x = some (.ref f) ∧ PySem.W.keepIn K (.ref f) = true ∧ Binds K fd ps ds ∧ Vals dvs ds ∧ FnOk P w K mg base CX k f fd ps sp
section
variable {X : Cx} {CX : CXT} {k : Nat} {x : Str} {ps : List Str} {dvs : List V} {sp : Sp} {E : XK} {e : Expr} {es : List Expr} {t : TA} {p pos : Pos}
theorem pe_k (c : Cl X.prog X.w X.K X.mg X.base CX k x ps dvs sp) (hr : Room k X.A) (hg : Gl X x) (hx : Passes CX X E) (ha : PA X (e :: es) t) (hdb : (x == ("__debug__" : Str)) = false := by decide) (he : starEach (e :: es) X.env = (false, eval e X.env) :: starEach es X.env := by rfl) (hpl : (backTo pos (starEach es X.env)).any (·.1) = false := by rfl) :
    PE X (.Call (.Name x p) (e :: es) [] pos) (tCall sp dvs E t) := by
  obtain ⟨f, fd, ds, h1, h2, h3, h4, h5⟩ := c.ex
  exact pe_call h5 hr hg h1 h2 h3 h4 hx ha hdb he hpl
end
/-- a class's method, ready to be called -/
structure Ml (P : Program) (w : World) (K : PySem.W.Frag) (mg : Str → Option Value) (base : Heap) (k : Nat) (C : Addr) (m : Str) (ps : List Str) (dvs : List V) (sp : Sp) : Prop where
  ex : ∃ f fd ds, Meth K C m f ∧ Binds K fd ps ds ∧ Vals dvs ds ∧ FnOk P w K mg base CX0 k f fd ps sp
section
variable {X : Cx} {k : Nat} {C : Addr} {m : Str} {ps : List Str} {dvs : List V} {sp : Sp} {E : XK} {o e : Expr} {es : List Expr} {ta : TE} {t : TA} {pos apos : Pos}
theorem pe_mk {pl : Sem Bool} (he : PE X o ta) (c : Cls X.K C) (M : Ml X.prog X.w X.K X.mg X.base k C m ps dvs sp) (hr : Room k X.A) (hx : Passes CX0 X E) (ha : PA X (e :: es) t)
    (hst : starEach (e :: es) X.env = (false, eval e X.env) :: starEach es X.env := by rfl) (hpl : (backTo pos (starEach es X.env)).any (·.1) = false := by rfl)
    (ht : eval (.Call (.Attribute o m apos) (e :: es) [] pos) X.env = (do
      let ov ← eval o X.env
      standAt apos.atName
      let (f, first) ← holding [ov] (getMethod ov m pl)
      callWith pos f first (backTo pos (starEach (e :: es) X.env)) (backToKw pos (keywordEach [] X.env))) := by rfl) :
    PE X (.Call (.Attribute o m apos) (e :: es) [] pos) (tMeth C m sp dvs E ta t) := by
  obtain ⟨f, fd, ds, h1, h3, h4, h5⟩ := M.ex
  exact pe_meth he c h1 h5 hr h3 h4 hx ha hst hpl ht
theorem pe_mk0 {pl : Sem Bool} (he : PE X o ta) (c : Cls X.K C) (M : Ml X.prog X.w X.K X.mg X.base k C m ps dvs sp) (hr : Room k X.A) (hx : Passes CX0 X E)
    (ht : eval (.Call (.Attribute o m apos) [] [] pos) X.env = (do
      let ov ← eval o X.env
      standAt apos.atName
      let (f, first) ← holding [ov] (getMethod ov m pl)
      callWith pos f first (backTo pos (starEach [] X.env)) (backToKw pos (keywordEach [] X.env))) := by rfl) :
    PE X (.Call (.Attribute o m apos) [] [] pos) (tMeth C m sp dvs E ta tNil) := by
  obtain ⟨f, fd, ds, h1, h3, h4, h5⟩ := M.ex
  exact pe_meth0 he c h1 h5 hr h3 h4 hx ht
end
structure HT0 (K : PySem.W.Frag) (mg : Str → Option Value) (C : Addr) : Prop where
  cl : Cls K C
  nP : NoAttr K C "parts"
  mgC : mg "Heap" = some (.ref C)
  b : BT mg
def spHInit (C : Addr) : Sp := fun vs H Q _ => ∃ (p dx t : Addr) (rows : List Row), vs = [.ref p, .ref t] ∧ H p = some (.ins C dx []) ∧ RowsAt H t rows ∧ NN rows ∧ rows.length ≤ 1000 ∧
  ∀ (rows' : List Row) (H' : Hp), HeapAt C H' p rows' → (∀ q, cnt rows' q = cnt rows q) → rows'.length ≤ rows.length → (∀ b o, H b = some o → b ≠ p → H' b = some o) → Q .non H'
section
variable {P : Program} {w : World} {K : PySem.W.Frag} {mg : Str → Option Value} {base : Heap}
theorem ok_Hinit {f C : Addr} {fd : FuncData} {dvs : List V} (F : FunD K "__init__" "Heap.__init__" (defArgs s_Heap_init) (defBody s_Heap_init) (defScope s_Heap_init) dvs [] f fd) (T : HT0 K mg C) (cc : Cl P w K mg base CX0 1 "counted" ["rows"] [] spCounted) :
    FnOk P w K mg base CX0 2 f fd ["self", "rows"] (spHInit C) := by
  refine F.ok sc_Heap_init (fun vs H Q E h => ?_) (fun cdv A outer s H vs Q E hr h => ?_)
  · obtain ⟨p, dx, t, rows, rfl, _⟩ := h
    rfl
  · obtain ⟨p, dx, t, rows, rfl, hp, hR, hnn, hlen, k⟩ := h
    have hu := hu_of hr
    have nd := sc_Heap_init.nd
    refine ⟨_, pss_cons (ps_set (i := 2) nd rfl (Or.inr rfl) (pe_k cc hr rfl pass0 (pa_cons (pe_ifExp (pt_cmpR op_isN (pv 1) pe_non (nomark _)) (pe_tup pa_nil) (pv 1)) pa_nil)))
      (pss_one (ps_fld (pv 0) (pe_callTy call_tuple_of (by rfl) T.b.tuple (by decide +kernel) (pa_cons
        (pe_lc (own := [("form", 3), ("shade", 4)]) (g := gTup K 2 (gCons (gName 3) (gCons (gName 4) gNil))) (tt := tYes) rfl nd (pi_list (pe_callB (cr_sortDT rfl hr.units) (by rfl) T.b.sorted (by decide +kernel) (pa_cons (pv 2) pa_nil)))
          (blkOk_by (N := ["self", "rows", "counts", "form", "shade"]) (sc := defScope s_Heap_init) (by decide +kernel))
          (fun _ _ _ _ _ => pg_tup rfl (pgs_cons (pg_name (i := 3) nd rfl (Or.inl rfl)) (pgs_cons (pg_name (i := 4) nd rfl (Or.inl rfl)) pgs_nil)))
          (fun _ _ _ _ _ => pts_nil)
          (fun _ _ _ _ _ => pe_tup (pa_cons (pv 3) (pa_cons (pv 4) (pa_cons (pe_dget hu (pv 2) (pe_tup (pa_cons (pv 3) (pa_cons (pv 4) pa_nil))) (fun _ _ => rfl)) pa_nil)))))
        pa_nil)) rfl)), ?_⟩
    refine ⟨_, rfl, rfl, _, rfl, ?_⟩
    refine iteF ?_
    refine ⟨_, rfl, t, rows, rfl, hR, hnn, hlen, fun d c H1 hd s1 hD nc hc cn hl => ?_⟩
    refine ⟨_, rfl, d, c.map fun e => (e.1, V.int e.2), rfl, .inl (by rw [hD]; unfold encI; rw [List.map_map]; rfl), fun ks ps l hperm hks hl0 => ?_⟩
    have hperm : ps.Perm (c.map (·.1)) := by rw [List.map_map] at hperm; exact hperm
    have s1l := same_new (o := .lst (ks.map V.ref)) hl0
    have lenk : ps.length = c.length := by rw [hperm.length_eq, List.length_map]
    refine ⟨l, rfl, ⟨_, SqL.of upd_same⟩, fun D hD0 => ?_⟩
    have nDl : l ≠ D := ne_of_none upd_same hD0
    have s2 : Same H1 (upd (upd H1 l (.lst (ks.map V.ref))) D (.lst [])) := same_put s1l (by
      have : H1 D = none := s1l.free hD0
      exact this)
    refine lc_list (K := K) (a := l) (xs := ks.map V.ref) (fun i H2 => Same (upd H1 l (.lst (ks.map V.ref))) H2 ∧ ∃ bs : List Addr, H2 D = some (.lst (bs.map V.ref)) ∧ Paired (RowAt H2) bs ((ps.take i).map fun q => (q, cnt c q)))
      ⟨same_new hD0, [], upd_same, .nil⟩ (fun i H2 _ ⟨z, _⟩ => SqL.of (z _ _ upd_same)) ?_ ?_
    · rintro i x H2 hi ⟨s3, bs, hbD, hbs⟩
      obtain ⟨ka, kq, h1, h2, rfl, h3⟩ := pget hks hi
      have hka : H2 ka = some (.tup [.str kq.1, .str kq.2]) := s3 _ _ (s1l _ _ h3)
      have hil : i < ps.length := (List.getElem?_eq_some_iff.mp h2).1
      refine ⟨ka, _, rfl, SqT.of hka, rfl, _, _, rfl, _, _, rfl, rfl, rfl, ?_⟩
      have hdD : H2 d = some (.dT (encI c)) := s3 _ _ (s1l _ _ hD)
      refine ⟨_, rfl, _, rfl, _, rfl, _, rfl, _, rfl, (by show 2 ≤ sizeLine; decide), fun p1 hp1 => ?_⟩
      have hkin : kq ∈ c.map (·.1) := hperm.mem_iff.mp (List.mem_of_getElem? h2)
      have hg : valV (encI c) (pk kq) = some (.int (cnt c kq)) := by
        rw [enc_val, cnt_get nc]
        cases q : gvo c kq with
        | none => exact absurd hkin (K70M.get_none q)
        | some x => rfl
      have g1 := same_new (o := .tup [.str kq.1, .str kq.2]) hp1
      have dg := DGet.t (b := p1) (k := pk kq) (g1 _ _ hdD) upd_same
      rw [hg] at dg
      refine ⟨d, _, rfl, dg, by show 3 ≤ sizeLine; decide, fun p2 hp2 => ?_⟩
      have g2 := same_new (o := .tup [.str kq.1, .str kq.2, .int (cnt c kq)]) hp2
      have gg := g1.trans g2
      have hl1 : bs.length = i := by rw [hbs.length, List.length_map, List.length_take]; omega
      refine ⟨_, gg _ _ hbD, by rw [List.length_map, sizeLine_eq]; omega, ?_⟩
      have sD : ∀ b o, (upd (upd H2 p1 (.tup [.str kq.1, .str kq.2])) p2 (.tup [.str kq.1, .str kq.2, .int (cnt c kq)])) b = some o → b ≠ D → (upd (upd (upd H2 p1 (.tup [.str kq.1, .str kq.2])) p2 (.tup [.str kq.1, .str kq.2, .int (cnt c kq)])) D (.lst (bs.map V.ref ++ [.ref p2]))) b = some o := fun b o e n => by rw [upd_ne n]; exact e
      refine ⟨same_put (s3.trans gg) hD0, bs ++ [p2], by rw [upd_same, List.map_append]; rfl, ?_⟩
      rw [take_snoc h2, List.map_append]
      refine Paired_snoc (Paired_mono (fun a r hr => sD _ _ (gg _ _ hr) (fun z => ?_)) hbs) ?_
      · rw [z] at hr
        exact nomatch hbD.symm.trans hr
      · refine sD _ _ upd_same fun z => ?_
        rw [z] at hp2
        rw [g1 _ _ hbD] at hp2
        cases hp2
    · rintro H2 ⟨s3, bs, hbD, hbs⟩
      have el : (ks.map V.ref).length = ps.length := by rw [List.length_map]; exact hks.length
      rw [el, List.take_length] at hbs
      refine ⟨D, _, rfl, .inl ⟨SqL.of hbD, fun t2 ht2 => ?_⟩⟩
      have st := same_new (o := .tup (bs.map V.ref)) ht2
      have hpH : (upd H2 t2 (.tup (bs.map V.ref))) p = some (.ins C dx []) := st _ _ (s3 _ _ (s1l _ _ (s1 _ _ hp)))
      refine ⟨_, rfl, p, C, dx, [], rfl, hpH, T.cl, T.nP, (by show 0 < 1000; decide), ?_⟩
      have np : ∀ b o, (upd H2 t2 (.tup (bs.map V.ref))) b = some o → b ≠ p → (upd (upd H2 t2 (.tup (bs.map V.ref))) p (.ins C dx (putF "parts" (.ref t2) []))) b = some o := fun b o e n => by rw [upd_ne n]; exact e
      have npt : t2 ≠ p := fun z => by rw [z, s3 _ _ (s1l _ _ (s1 _ _ hp))] at ht2; cases ht2
      refine k (ps.map fun q => (q, cnt c q)) _ ⟨⟨dx, t2, upd_same, bs, np _ _ upd_same npt, Paired_mono (fun a r hr => np _ _ (st _ _ hr) fun z => ?_) hbs⟩, ?_, fun e he => ?_⟩ (fun q => (cnt_keys nc hperm q).trans (hc q)) (by rw [List.length_map]; omega) fun b o e n => np _ _ (st _ _ (s3 _ _ (s1l _ _ (s1 _ _ e)))) n
      · have hr' : H2 a = some _ := hr
        rw [z, s3 _ _ (s1l _ _ (s1 _ _ hp))] at hr'
        cases hr'
      · unfold Nd
        rw [List.map_map, show ((fun x : Row => x.1) ∘ fun q => (q, cnt c q)) = id from rfl, List.map_id]
        exact hperm.nodup_iff.mpr nc
      · obtain ⟨q, _, rfl⟩ := List.mem_map.mp he
        exact cnt_nonneg cn q
end
end K70

end
section
set_option maxRecDepth 100000
set_option maxHeartbeats 4000000
/-! Rules with K told; Heap.rows, many, plus; lets; times; parts_left. -/
namespace K70
open PySem PySem.Spec PyProof.Rows L2 K70M
section
variable {X : Cx}
theorem ix_tupK (K : PySem.W.Frag) (h : X.K = K := by rfl) : IxR X (rIxT K) := h ▸ ix_tup
theorem ix_listK (K : PySem.W.Frag) (h : X.K = K := by rfl) : IxR X (rIxL K) := h ▸ ix_list
theorem op_inK (K : PySem.W.Frag) (h : X.K = K := by rfl) : OpR X (compareOp .In) (rIn K false) := h ▸ op_in_seq
theorem op_notInK (K : PySem.W.Frag) (h : X.K = K := by rfl) : OpR X (compareOp .NotIn) (rIn K true) := h ▸ op_notIn_seq
theorem op_eqK (K : PySem.W.Frag) (hu : X.A.units + 64 < cLine) (h : X.K = K := by rfl) : OpR X (compareOp .Eq) (rEqD K) := h ▸ op_eqD hu
theorem op_neK (K : PySem.W.Frag) (hu : X.A.units + 64 < cLine) (h : X.K = K := by rfl) : OpR X (compareOp .NotEq) (rNeD K) := h ▸ op_neD hu
theorem op_catK (K : PySem.W.Frag) (h : X.K = K := by rfl) : OpR X (binaryOp .Add) (rCatA K) := h ▸ op_catA
theorem pe_fldK (K : PySem.W.Frag) {e : Expr} {f : Str} {pos : Pos} {ta : TE} (he : PE X e ta) (hb : attributeBase e f X.env (eval e X.env) = eval e X.env) (h : X.K = K := by rfl) : PE X (.Attribute e f pos) (tFld K ta f) := h ▸ pe_fld he hb
end
/-- what many tells: the form, the shade if one is asked -/
def manyT (f : Str) (sh : Option Str) (p : Part) : Bool := decide (p.1 = f) && (match sh with | none => true | some s => decide (p.2 = s))
def shV : Option Str → V
  | none => .non
  | some s => .str s
def spHRows (C : Addr) : Sp := fun vs H Q _ => ∃ (p dx t : Addr), vs = [.ref p] ∧ H p = some (.ins C dx [("parts", .ref t)]) ∧ Q (.ref t) H
def spHMany (C : Addr) : Sp := fun vs H Q _ => ∃ (p : Addr) (rows : List Row) (f : Str) (sh : Option Str), vs = [.ref p, .str f, shV sh] ∧ HeapAt C H p rows ∧ rows.length ≤ 1000 ∧ ∀ H', Same H H' → Q (.int (tsum (manyT f sh) rows)) H'
def spHPlus (C : Addr) : Sp := fun vs H Q _ => ∃ (p q : Addr) (rows more : List Row), vs = [.ref p, .ref q] ∧ HeapAt C H p rows ∧ HeapAt C H q more ∧ rows.length + more.length ≤ 1000 ∧
  ∀ (r : Addr) (rows' : List Row) (H' : Hp), Same H H' → HeapAt C H' r rows' → (∀ x, cnt rows' x = cnt rows x + cnt more x) → rows'.length ≤ rows.length + more.length → Q (.ref r) H'
theorem tsum_snoc {T : Part → Bool} {l : List Row} {r : Row} : tsum T (l ++ [r]) = tsum T l + if T r.1 = true then r.2 else 0 := by
  rw [tsum_app]
  show _ + ((if T r.1 = true then r.2 else 0) + 0) = _
  omega
theorem sum_snoc {l : List Int} {x : Int} : (l ++ [x]).sum = l.sum + x := by
  rw [List.sum_append, List.sum_cons, List.sum_nil]
  omega
section
variable {P : Program} {w : World} {K : PySem.W.Frag} {mg : Str → Option Value} {base : Heap}
theorem ok_Hrows {f C : Addr} {fd : FuncData} (F : Fun K "rows" "Heap.rows" s_Heap_rows f fd) (T : HT0 K mg C) : FnOk P w K mg base CX0 1 f fd ["self"] (spHRows C) := by
  refine F.ok sc_Heap_rows (fun vs H Q E h => ?_) (fun cdv A outer s H vs Q E hr h => ?_)
  · obtain ⟨p, dx, t, rfl, _⟩ := h
    rfl
  · obtain ⟨p, dx, t, rfl, hp, k⟩ := h
    exact ⟨_, pss_one (ps_ret (pe_fld (pv 0) rfl)), _, rfl, p, C, dx, _, _, rfl, hp, T.cl, T.nP, rfl, k⟩
theorem in_none {s : Str} : inV .non [.non, .str s] = true := rfl
theorem in_some {x s : Str} : inV (.str x) [.non, .str s] = decide (s = x) := by
  show (false || ((s == x) || false)) = _
  rw [Bool.false_or, Bool.or_false, Bool.beq_eq_decide_eq]
theorem shV_flat (sh : Option Str) : flatV (shV sh) = true := by cases sh <;> rfl
theorem ok_Hmany {f C : Addr} {fd : FuncData} {dvs : List V} (F : FunD K "many" "Heap.many" (defArgs s_Heap_many) (defBody s_Heap_many) (defScope s_Heap_many) dvs [] f fd) (T : HT0 K mg C) : FnOk P w K mg base CX0 1 f fd ["self", "form", "shade"] (spHMany C) := by
  refine F.ok sc_Heap_many (fun vs H Q E h => ?_) (fun cdv A outer s H vs Q E hr h => ?_)
  · obtain ⟨p, rows, fm, sh, rfl, _⟩ := h
    rfl
  · obtain ⟨p, rows, fm, sh, rfl, hp, hlen, k⟩ := h
    have hu := hu_of hr
    have nd := sc_Heap_many.nd
    refine ⟨_, pss_one (ps_ret (pe_callB (cr_sum rfl) (by rfl) T.b.sum (by decide +kernel) (pa_cons
      (pe_lc (own := [("row", 3)]) (g := gName 3) rfl nd (pi_tup (pe_fld (pv 0) rfl))
        (blkOk_by (N := ["self", "form", "shade", "row"]) (sc := defScope s_Heap_many) (by decide +kernel))
        (fun _ _ _ _ _ => pg_name (i := 3) nd rfl (Or.inl rfl))
        (fun _ _ _ _ _ => pts_one (PW.pt (pw_and (pt_cmpR op_eq (pe_ix (ix_tupK K) (pv 3) pe_int (fun _ _ => rfl)) (pv 1) (nomark _)) (pw_and1 (pt_cmpR (op_inK K) (pv 2) (pe_tup (pa_cons pe_non (pa_cons (pe_ix (ix_tupK K) (pv 3) pe_int (fun _ _ => rfl)) pa_nil))) rfl)))))
        (fun _ _ _ _ _ => pe_ix (ix_tupK K) (pv 3) pe_int (fun _ _ => rfl)))
      pa_nil))), ?_⟩
    obtain ⟨⟨dx, t, ho, as, hT, hP⟩, _, _⟩ := id hp
    refine ⟨_, rfl, p, C, dx, _, _, rfl, ho, T.cl, T.nP, rfl, t, rfl, ⟨_, SqT.of hT⟩, fun D hD => ?_⟩
    refine lc_tup (K := K) (a := t) (xs := as.map V.ref) (fun i H2 => Same H H2 ∧ ∃ ns : List Int, H2 D = some (.lst (ns.map V.int)) ∧ ns.length ≤ i ∧ ns.sum = tsum (manyT fm sh) (rows.take i))
      ⟨same_new hD, [], upd_same, Nat.le_refl _, rfl⟩ (fun i H2 _ ⟨z, _⟩ => SqT.of (z _ _ hT)) ?_ ?_
    · rintro i x H2 hi ⟨s2, ns, hns, hl, hsum⟩
      obtain ⟨ra, row, h1, h2, rfl, h3⟩ := pget hP hi
      have hrow : H2 ra = some (.tup [.str row.1.1, .str row.1.2, .int row.2]) := s2 _ _ h3
      have hil : i < rows.length := (List.getElem?_eq_some_iff.mp h2).1
      refine ⟨rfl, _, rfl, ra, _, 0, _, rfl, rfl, SqT.of hrow, rfl, _, rfl, rfl, _, rfl, ?_⟩
      have skip : manyT fm sh row.1 = false → ns.sum = tsum (manyT fm sh) (rows.take (i + 1)) := fun z => by
        rw [take_snoc h2, tsum_snoc, z, hsum]
        simp
      refine ite2 (fun c1 => ?_) (fun c1 => ?_)
      · have c1 : row.1.1 = fm := by simpa using c1
        refine ⟨_, rfl, _, rfl, ra, _, 1, _, rfl, rfl, SqT.of hrow, rfl, (by show 2 ≤ sizeLine; decide), fun p1 hp1 => ?_⟩
        have g1 := same_new (o := .tup [.non, .str row.1.2]) hp1
        refine ⟨p1, _, rfl, .inr (SqT.of upd_same), shV_flat sh, rfl, _, rfl, ?_⟩
        have hin : inV (shV sh) [.non, .str row.1.2] = manyT fm sh row.1 := by
          cases sh with
          | none => simp [shV, in_none, manyT, c1]
          | some s0 => simp [shV, in_some, manyT, c1]
        show if inV (shV sh) [.non, .str row.1.2] = true then _ else _
        rw [hin]
        cases hm : manyT fm sh row.1 with
        | true =>
          refine ⟨_, rfl, ra, _, 2, _, rfl, rfl, SqT.of (g1 _ _ hrow), rfl, ns.map V.int, g1 _ _ hns, by rw [List.length_map, sizeLine_eq]; omega, same_put (s2.trans g1) hD, ns ++ [row.2], by rw [upd_same, List.map_append]; rfl, by rw [List.length_append]; show ns.length + 1 ≤ i + 1; omega, ?_⟩
          rw [take_snoc h2, tsum_snoc, hm, sum_snoc, hsum]
          simp
        | false =>
          exact ⟨s2.trans g1, ns, g1 _ _ hns, by omega, skip hm⟩
      · have c1 : ¬ row.1.1 = fm := by simpa using c1
        exact ⟨s2, ns, hns, by omega, skip (by simp [manyT, c1])⟩
    · rintro H2 ⟨s2, ns, hns, hl, hsum⟩
      have el : (as.map V.ref).length = rows.length := by rw [List.length_map]; exact hP.length
      rw [el, List.take_length] at hsum
      refine ⟨D, ns, rfl, SqL.of hns, ?_⟩
      rw [hsum]
      exact k H2 s2
end
end K70

end
section
set_option maxRecDepth 100000
set_option maxHeartbeats 4000000
/-! Heap.plus; lets; times; parts_left. -/
namespace K70
open PySem PySem.Spec PyProof.Rows L2 K70M
/-- Heap(..), ready to be made -/
structure Mkl (P : Program) (w : World) (K : PySem.W.Frag) (mg : Str → Option Value) (base : Heap) (C : Addr) : Prop where
  ex : ∃ f fd ds, Mk K C f ∧ Binds K fd ["self", "rows"] ds ∧ Vals [] ds ∧ FnOk P w K mg base CX0 2 f fd ["self", "rows"] (spHInit C)
section
variable {X : Cx} {C : Addr} {x : Str} {E : XK} {e : Expr} {es : List Expr} {t : TA} {p pos : Pos}
theorem pe_heap (M : Mkl X.prog X.w X.K X.mg X.base C) (hr : Room 3 X.A) (hg : Gl X x) (hm : X.mg x = some (.ref C)) (hx : Passes CX0 X E) (ha : PA X (e :: es) t) (hdb : (x == ("__debug__" : Str)) = false := by decide) (he : starEach (e :: es) X.env = (false, eval e X.env) :: starEach es X.env := by rfl) (hpl : (backTo pos (starEach es X.env)).any (·.1) = false := by rfl) :
    PE X (.Call (.Name x p) (e :: es) [] pos) (tMake C (spHInit C) [] E t) := by
  obtain ⟨f, fd, ds, h1, h2, h3, h4⟩ := M.ex
  exact pe_make h1 h4 hr hg hm h2 h3 hx ha hdb he hpl
end
theorem made_heap {C x dx t : Addr} {H1 : Hp} {rows : List Row} {Q : VK} {E : XK} (nx : H1 x = none) (ndx : H1 dx = none) (nex : dx ≠ x) (hR : RowsAt H1 t rows) (hn : NN rows) (hl : rows.length ≤ 1000)
    (k : ∀ (rows' : List Row) (H' : Hp), Same H1 H' → HeapAt C H' x rows' → (∀ q, cnt rows' q = cnt rows q) → rows'.length ≤ rows.length → Q (.ref x) H') :
    spHInit C (.ref x :: ([.ref t] ++ [])) (upd (upd H1 dx (.own x)) x (.ins C dx [])) (fun v H2 => v = .non ∧ Q (.ref x) H2) E := by
  have s0 : Same H1 (upd (upd H1 dx (.own x)) x (.ins C dx [])) := same_put (same_new ndx) nx
  refine ⟨x, dx, t, rows, rfl, upd_same, RowsAt.mono _ _ _ _ s0 hR, hn, hl, fun rows' H' hA hc hl' kp => ⟨rfl, k rows' H' (fun b o e => kp b o (s0 b o e) (ne_of_none e nx)) hA hc hl'⟩⟩
theorem cat_tups {β : Type} {R : Hp → Addr → β → Prop} (m : Mono R) {K : PySem.W.Frag} {H : Hp} {a b : Addr} {xs ys : List β} {Q : VK} (hA : TupOf R H a xs) (hB : TupOf R H b ys) (hl : xs.length + ys.length ≤ 1000000)
    (k : ∀ (r : Addr) (H' : Hp), Same H H' → TupOf R H' r (xs ++ ys) → Q (.ref r) H') : rCatA K (.ref a) (.ref b) H Q := by
  obtain ⟨as, h1, h2⟩ := id hA
  obtain ⟨bs, h3, h4⟩ := id hB
  have l1 := h2.length
  have l2 := h4.length
  refine ⟨a, b, as.map V.ref, bs.map V.ref, rfl, rfl, SqT.of h1, SqT.of h3, by rw [List.length_map, List.length_map, sizeLine_eq]; omega, fun e => ?_, fun _ e => ?_, fun _ _ p hp => ?_⟩
  · have : as = [] := List.map_eq_nil_iff.mp e
    subst this
    have : xs = [] := List.length_eq_zero_iff.mp (by rw [← l1]; rfl)
    subst this
    exact k b H (Same.refl _) hB
  · have : bs = [] := List.map_eq_nil_iff.mp e
    subst this
    have : ys = [] := List.length_eq_zero_iff.mp (by rw [← l2]; rfl)
    subst this
    rw [List.append_nil] at k
    exact k a H (Same.refl _) hA
  · have s := same_new (o := .tup (as.map V.ref ++ bs.map V.ref)) hp
    exact k p _ s ⟨as ++ bs, by rw [upd_same, List.map_append], Paired_mono (fun x y r => m _ _ _ _ s r) (Paired_app h4 h2)⟩
def wtP (w : Want) : Wt Part := (fun p => decide (p.1 = w.1) && (decide (w.2.1 = []) || decide (p.2 ∈ w.2.1)), w.2.2)
def spLets (C : Addr) : Sp := fun vs H Q _ => ∃ (h wa : Addr) (rows : List Row) (w : Want), vs = [.ref h, .ref wa] ∧ HeapAt C H h rows ∧ rows.length ≤ 1000 ∧ WantAt H wa w ∧ w.2.1.length ≤ 1000 ∧
  ∀ (l : Addr) (ps : List Part) (H' : Hp), H l = none → Same H H' → LstOf PartAt H' l ps → (∀ p ∈ ps, (wtP w).1 p = true) → (∀ p, (wtP w).1 p = true → p ∈ ps ∨ cnt rows p = 0) → ps.length ≤ 1000 → Q (.ref l) H'
theorem eqv_nil (ss : List Str) : PyData.eqv (.tuple (ss.map PyData.str)) (.tuple []) = decide (ss = []) := by
  cases ss with
  | nil => rfl
  | cons a r => rfl
section
variable {P : Program} {w : World} {K : PySem.W.Frag} {mg : Str → Option Value} {base : Heap}
theorem ok_Hplus {f C : Addr} {fd : FuncData} (F : Fun K "plus" "Heap.plus" s_Heap_plus f fd) (T : HT0 K mg C) (M : Mkl P w K mg base C) : FnOk P w K mg base CX0 4 f fd ["self", "other"] (spHPlus C) := by
  refine F.ok sc_Heap_plus (fun vs H Q E h => ?_) (fun cdv A outer s H vs Q E hr h => ?_)
  · obtain ⟨p, q, rows, more, rfl, _⟩ := h
    rfl
  · obtain ⟨p, q, rows, more, rfl, hp, hq, hl, k⟩ := h
    refine ⟨_, pss_one (ps_ret (pe_heap M hr (by rfl) T.mgC pass0 (pa_cons (pe_op op_catA (pe_fld (pv 0) rfl) (pe_fld (pv 1) rfl)) pa_nil))), ?_⟩
    obtain ⟨⟨dx, t, ho, hT⟩, _, n1⟩ := id hp
    obtain ⟨⟨dy, u, ho2, hT2⟩, _, n2⟩ := id hq
    refine ⟨_, rfl, p, C, dx, _, _, rfl, ho, T.cl, T.nP, rfl, _, rfl, q, C, dy, _, _, rfl, ho2, T.cl, T.nP, rfl, cat_tups RowAt.mono hT hT2 (by omega) fun r H1 s1 hR => ?_⟩
    intro x dz nx ndx nex
    refine made_heap nx ndx nex hR (fun e he => ?_) (by rw [List.length_append]; omega) fun rows' H' s2 hA hc hl' => ?_
    · rcases List.mem_append.mp he with z | z
      · exact n1 e z
      · exact n2 e z
    · exact k x rows' H' (s1.trans s2) hA (fun y => by rw [hc, cnt_app]) (by rw [List.length_append] at hl'; exact hl')
theorem ok_lets {f C : Addr} {fd : FuncData} (F : Fun K "lets" "lets" s_lets f fd) (T : HT0 K mg C) (R : Ml P w K mg base 1 C "rows" ["self"] [] (spHRows C)) : FnOk P w K mg base CX0 2 f fd ["heap", "want"] (spLets C) := by
  refine F.ok sc_lets (fun vs H Q E h => ?_) (fun cdv A outer s H vs Q E hr h => ?_)
  · obtain ⟨h, wa, rows, w, rfl, _⟩ := h
    rfl
  · obtain ⟨h, wa, rows, wt, rfl, hh, hlen, hw, hlw, k⟩ := h
    have hu := hu_of hr
    have nd := sc_lets.nd
    refine ⟨_, pss_cons (ps_if (pt_cmpR (op_neD hr.units) (pe_ix ix_tup (pv 1) pe_int (fun _ _ => rfl)) (pe_tup pa_nil) (nomark _))
        (pss_one (ps_ret (pe_lc (own := [("shade", 2)]) (g := gName 2) (tt := tYes) rfl nd (pi_tup (pe_ix ix_tup (pv 1) pe_int (fun _ _ => rfl)))
          (blkOk_by (N := ["heap", "want", "shade", "form", "many"]) (sc := defScope s_lets) (by decide +kernel))
          (fun _ _ _ _ _ => pg_name (i := 2) nd rfl (Or.inl rfl)) (fun _ _ _ _ _ => pts_nil)
          (fun _ _ _ _ _ => pe_tup (pa_cons (pe_ix (ix_tupK K) (pv 1) pe_int (fun _ _ => rfl)) (pa_cons (pv 2) pa_nil))))))
        pss_nil)
      (pss_one (ps_ret (pe_lc (own := [("form", 3), ("shade", 2), ("many", 4)]) (g := gTup K 3 (gCons (gName 3) (gCons (gName 2) (gCons (gName 4) gNil)))) rfl nd (pi_tup (pe_mk0 (pv 0) T.cl R (hr.mono (by decide)) pass0))
          (blkOk_by (N := ["heap", "want", "shade", "form", "many"]) (sc := defScope s_lets) (by decide +kernel))
          (fun _ _ _ _ _ => pg_tup rfl (pgs_cons (pg_name (i := 3) nd rfl (Or.inl rfl)) (pgs_cons (pg_name (i := 2) nd rfl (Or.inl rfl)) (pgs_cons (pg_name (i := 4) nd rfl (Or.inl rfl)) pgs_nil))))
          (fun _ _ _ _ _ => pts_one (pt_cmpR op_eq (pv 3) (pe_ix (ix_tupK K) (pv 1) pe_int (fun _ _ => rfl)) (nomark _)))
          (fun _ _ _ _ _ => pe_tup (pa_cons (pv 3) (pa_cons (pv 2) pa_nil)))))), ?_⟩
    obtain ⟨ta, hw1, hw2, hw3⟩ := hw
    refine ⟨_, rfl, wa, _, 1, _, rfl, rfl, SqT.of hw1, rfl, (by show 0 ≤ sizeLine; decide), fun z hz => ?_⟩
    have g0 := same_new (o := .tup []) hz
    refine ⟨_, _, .tup (SqT.of (g0 _ _ hw2)) (strs_dp wt.2.1), .tup (SqT.of upd_same) .nil, shaped_strs hw3.2, rfl, _, rfl, ?_⟩
    rw [eqv_nil]
    by_cases hs : wt.2.1 = []
    · rw [decide_eq_true hs]
      refine iteF ?_
      obtain ⟨⟨dx, t, ho, as, hT, hP⟩, _, _⟩ := hh.mono _ _ _ _ g0
      refine ⟨_, rfl, h, dx, _, rfl, ho, rfl, h, dx, t, rfl, ho, t, rfl, ⟨_, SqT.of hT⟩, fun D hD => ?_⟩
      refine lc_tup (K := K) (a := t) (xs := as.map V.ref) (fun i H2 => Same (upd H z (.tup [])) H2 ∧ ∃ bs : List Addr, ∃ ps : List Part, H2 D = some (.lst (bs.map V.ref)) ∧ Paired (PartAt H2) bs ps ∧ ps.length ≤ i ∧ (∀ p ∈ ps, p.1 = wt.1) ∧ (∀ r ∈ rows.take i, r.1.1 = wt.1 → r.1 ∈ ps))
        ⟨same_new hD, [], [], upd_same, .nil, Nat.le_refl _, (fun p hp => by cases hp), (fun r hr => by cases hr)⟩ (fun i H2 _ ⟨s2, _⟩ => SqT.of (s2 _ _ hT)) ?_ ?_
      · rintro i x H2 hi ⟨s2, bs, ps, hbD, hbs, hl, hp1, hp2⟩
        obtain ⟨ra, row, h1, h2, rfl, h3⟩ := pget hP hi
        have hrow : H2 ra = some (.tup [.str row.1.1, .str row.1.2, .int row.2]) := s2 _ _ h3
        have hil : i < rows.length := (List.getElem?_eq_some_iff.mp h2).1
        have tk : ∀ r ∈ rows.take (i + 1), r ∈ rows.take i ∨ r = row := fun r hr => by
          rw [take_snoc h2] at hr
          rcases List.mem_append.mp hr with z | z
          · exact .inl z
          · exact .inr (List.mem_singleton.mp z)
        refine ⟨ra, _, rfl, SqT.of hrow, rfl, _, _, rfl, _, _, rfl, _, _, rfl, rfl, rfl, ?_⟩
        refine ⟨_, rfl, _, rfl, wa, _, 0, _, rfl, rfl, SqT.of (s2 _ _ (g0 _ _ hw1)), rfl, rfl, _, rfl, ?_⟩
        refine ite2 (fun c1 => ?_) (fun c1 => ?_)
        · have c1 : row.1.1 = wt.1 := by simpa using c1
          refine ⟨_, rfl, _, rfl, (by show 2 ≤ sizeLine; decide), fun p1 hp1' => ?_⟩
          have g1 := same_new (o := .tup [.str row.1.1, .str row.1.2]) hp1'
          refine ⟨bs.map V.ref, g1 _ _ hbD, by rw [List.length_map, sizeLine_eq, hbs.length]; omega, same_put (s2.trans g1) hD, bs ++ [p1], ps ++ [row.1], by rw [upd_same, List.map_append]; rfl, ?_, by rw [List.length_append]; show ps.length + 1 ≤ i + 1; omega, fun p hp => ?_, fun r hr e => ?_⟩
          · have nD : p1 ≠ D := fun q => by rw [q, hbD] at hp1'; cases hp1'
            refine Paired_snoc (Paired_mono (fun a r hr => ?_) hbs) ?_
            · have hr : H2 a = some (.tup [.str r.1, .str r.2]) := hr
              show (upd (upd H2 p1 _) D _) a = _
              rw [upd_ne (fun q => by rw [q, hbD] at hr; cases hr)]
              exact g1 _ _ hr
            · show (upd (upd H2 p1 _) D _) p1 = _
              rw [upd_ne nD, upd_same]
          · rcases List.mem_append.mp hp with q | q
            · exact hp1 p q
            · rw [List.mem_singleton.mp q]; exact c1
          · rcases tk r hr with q | q
            · exact List.mem_append_left _ (hp2 r q e)
            · rw [q]; exact List.mem_append_right _ List.mem_cons_self
        · have c1 : ¬ row.1.1 = wt.1 := by simpa using c1
          refine ⟨s2, bs, ps, hbD, hbs, by omega, hp1, fun r hr e => ?_⟩
          rcases tk r hr with q | q
          · exact hp2 r q e
          · rw [q] at e; exact absurd e c1
      · rintro H2 ⟨s2, bs, ps, hbD, hbs, hl, hp1, hp2⟩
        have el : (as.map V.ref).length = rows.length := by rw [List.length_map]; exact hP.length
        rw [el] at hl hp2
        rw [List.take_length] at hp2
        refine k D ps H2 (g0.free hD) (g0.trans s2) ⟨bs, hbD, hbs⟩ (fun p hp => ?_) (fun p hp => ?_) (by omega)
        · show (decide (p.1 = wt.1) && (decide (wt.2.1 = []) || decide (p.2 ∈ wt.2.1))) = true
          simp [hp1 p hp, hs]
        · have hp : (decide (p.1 = wt.1) && (decide (wt.2.1 = []) || decide (p.2 ∈ wt.2.1))) = true := hp
          have hp' : p.1 = wt.1 := by
            rw [Bool.and_eq_true] at hp
            simpa using hp.1
          by_cases hin : p ∈ rows.map (·.1)
          · obtain ⟨r, hr, e⟩ := List.mem_map.mp hin
            exact .inl (by rw [← e]; exact hp2 r hr (by rw [e]; exact hp'))
          · exact .inr (cnt_notin hin)
    · rw [decide_eq_false hs]
      refine iteT ?_
      have hw1' := g0 _ _ hw1
      have hw2' := g0 _ _ hw2
      refine ⟨_, rfl, wa, _, 1, _, rfl, rfl, SqT.of hw1', rfl, ta, rfl, ⟨_, SqT.of hw2'⟩, fun D hD => ?_⟩
      refine lc_tup (K := K) (a := ta) (xs := wt.2.1.map V.str) (fun i H2 => Same (upd H z (.tup [])) H2 ∧ ∃ bs : List Addr, H2 D = some (.lst (bs.map V.ref)) ∧ Paired (PartAt H2) bs ((wt.2.1.take i).map fun s => (wt.1, s)))
        ⟨same_new hD, [], upd_same, .nil⟩ (fun i H2 _ ⟨s2, _⟩ => SqT.of (s2 _ _ hw2')) ?_ ?_
      · rintro i x H2 hi ⟨s2, bs, hbD, hbs⟩
        rw [List.getElem?_map, Option.map_eq_some_iff] at hi
        obtain ⟨sh, hsh, rfl⟩ := hi
        have hil : i < wt.2.1.length := (List.getElem?_eq_some_iff.mp hsh).1
        have hbl : bs.length = i := by rw [hbs.length, List.length_map, List.length_take]; omega
        refine ⟨rfl, _, rfl, wa, _, 0, _, rfl, rfl, SqT.of (s2 _ _ hw1'), rfl, _, rfl, (by show 2 ≤ sizeLine; decide), fun p1 hp1' => ?_⟩
        have g1 := same_new (o := .tup [.str wt.1, .str sh]) hp1'
        refine ⟨bs.map V.ref, g1 _ _ hbD, by rw [List.length_map, sizeLine_eq]; omega, same_put (s2.trans g1) hD, bs ++ [p1], by rw [upd_same, List.map_append]; rfl, ?_⟩
        rw [take_snoc hsh, List.map_append]
        have nD : p1 ≠ D := fun q => by rw [q, hbD] at hp1'; cases hp1'
        refine Paired_snoc (Paired_mono (fun a r hr => ?_) hbs) ?_
        · have hr : H2 a = some (.tup [.str r.1, .str r.2]) := hr
          show (upd (upd H2 p1 _) D _) a = _
          rw [upd_ne (fun q => by rw [q, hbD] at hr; cases hr)]
          exact g1 _ _ hr
        · show (upd (upd H2 p1 _) D _) p1 = _
          rw [upd_ne nD, upd_same]
      · rintro H2 ⟨s2, bs, hbD, hbs⟩
        rw [List.length_map, List.take_length] at hbs
        refine k D _ H2 (g0.free hD) (g0.trans s2) ⟨bs, hbD, hbs⟩ (fun p hp => ?_) (fun p hp => ?_) (by rw [List.length_map]; omega)
        · obtain ⟨s, hs', rfl⟩ := List.mem_map.mp hp
          show (decide (wt.1 = wt.1) && (decide (wt.2.1 = []) || decide (s ∈ wt.2.1))) = true
          simp [hs']
        · have hp : (decide (p.1 = wt.1) && (decide (wt.2.1 = []) || decide (p.2 ∈ wt.2.1))) = true := hp
          rw [Bool.and_eq_true, decide_eq_false hs, Bool.false_or] at hp
          exact .inl (List.mem_map.mpr ⟨p.2, by simpa using hp.2, Prod.ext (by have := of_decide_eq_true hp.1; exact this.symm) rfl⟩)
end
end K70

end
section
set_option maxRecDepth 100000
set_option maxHeartbeats 4000000
/-! times; parts_left; with_kits; wanted_at; has_at. -/
namespace K70
open PySem PySem.Spec PyProof.Rows L2 K70M
def scaleR (n : Int) (rows : List Row) : List Row := rows.map fun r => (r.1, n * r.2)
theorem cnt_scale (n : Int) (rows : List Row) (p : Part) : cnt (scaleR n rows) p = n * cnt rows p := by
  induction rows with
  | nil => exact (Int.mul_zero n).symm
  | cons r rs ih =>
    show (if r.1 = p then n * r.2 else 0) + cnt (scaleR n rs) p = n * ((if r.1 = p then r.2 else 0) + cnt rs p)
    rw [ih, Int.mul_add]
    split <;> simp
theorem tsum_scale (T : Part → Bool) (n : Int) (rows : List Row) : tsum T (scaleR n rows) = n * tsum T rows := by
  induction rows with
  | nil => exact (Int.mul_zero n).symm
  | cons r rs ih =>
    show (if T r.1 = true then n * r.2 else 0) + tsum T (scaleR n rs) = n * ((if T r.1 = true then r.2 else 0) + tsum T rs)
    rw [ih, Int.mul_add]
    split <;> simp
theorem nn_scale {n : Int} {rows : List Row} (hn : 0 ≤ n) (h : NN rows) : NN (scaleR n rows) := fun e he => by
  obtain ⟨r, hr, rfl⟩ := List.mem_map.mp he
  exact Int.mul_nonneg hn (h r hr)
/-- a heap with so many of each kit: as one list -/
def combL (h : List Row) : List (List Row) → List Int → List Row
  | k :: ks, n :: ns => scaleR n k ++ combL h ks ns
  | [], _ => h
  | _ :: _, [] => h
theorem cnt_combL (h : List Row) (p : Part) : ∀ (ks : List (List Row)) (n : List Int), cnt (combL h ks n) p = comb h ks n p
  | [], _ => rfl
  | _ :: _, [] => rfl
  | k :: ks, n :: ns => by
    show cnt (scaleR n k ++ combL h ks ns) p = n * cnt k p + comb h ks ns p
    rw [cnt_app, cnt_scale, cnt_combL h p ks ns]
def spTimes (C : Addr) : Sp := fun vs H Q _ => ∃ (h : Addr) (n : Int) (rows : List Row), vs = [.ref h, .int n] ∧ HeapAt C H h rows ∧ rows.length ≤ 1000 ∧ 0 ≤ n ∧ n < 1000000 ∧
  ∀ (r : Addr) (rows' : List Row) (H' : Hp), Same H H' → HeapAt C H' r rows' → (∀ x, cnt rows' x = n * cnt rows x) → rows'.length ≤ rows.length → Q (.ref r) H'
def spPartsLeft (C : Addr) : Sp := fun vs H Q _ => ∃ (h : Addr) (rows : List Row), vs = [.ref h] ∧ HeapAt C H h rows ∧ rows.length ≤ 1000 ∧
  ∀ (d : Addr) (L : List Row) (H' : Hp), H d = none → Same H H' → H' d = some (.dT (encI L)) → Nd L → NN L → (∀ p, cnt L p = cnt rows p) → L.length ≤ rows.length → Q (.ref d) H'
abbrev HeapsAt (C : Addr) := TupOf (HeapAt C)
abbrev KitsOk (ks : List (List Row)) : Prop := ks.length ≤ 4 ∧ ∀ k ∈ ks, k.length ≤ 100
theorem HeapsAt.mono {C : Addr} : Mono (HeapsAt C) := fun H H' a b s h => TupOf.mono HeapAt.mono s h
section
variable {P : Program} {w : World} {K : PySem.W.Frag} {mg : Str → Option Value} {base : Heap}
theorem ok_times {f C : Addr} {fd : FuncData} (F : Fun K "times" "times" s_times f fd) (T : HT0 K mg C) (M : Mkl P w K mg base C) (R : Ml P w K mg base 1 C "rows" ["self"] [] (spHRows C)) : FnOk P w K mg base CX0 4 f fd ["heap", "number"] (spTimes C) := by
  refine F.ok sc_times (fun vs H Q E h => ?_) (fun cdv A outer s H vs Q E hr h => ?_)
  · obtain ⟨h, n, rows, rfl, _⟩ := h
    rfl
  · obtain ⟨h, n, rows, rfl, hh, hlen, hn0, hn1, k⟩ := h
    have hu := hu_of hr
    have nd := sc_times.nd
    refine ⟨_, pss_one (ps_ret (pe_heap M hr (by rfl) T.mgC pass0 (pa_cons (pe_callTy call_tuple_of (by rfl) T.b.tuple (by decide +kernel) (pa_cons
      (pe_lc (own := [("form", 2), ("shade", 3), ("many", 4)]) (g := gTup K 3 (gCons (gName 2) (gCons (gName 3) (gCons (gName 4) gNil)))) (tt := tYes) rfl nd (pi_tup (pe_mk0 (pv 0) T.cl R (hr.mono (by decide)) pass0))
          (blkOk_by (N := ["heap", "number", "form", "shade", "many"]) (sc := defScope s_times) (by decide +kernel))
          (fun _ _ _ _ _ => pg_tup rfl (pgs_cons (pg_name (i := 2) nd rfl (Or.inl rfl)) (pgs_cons (pg_name (i := 3) nd rfl (Or.inl rfl)) (pgs_cons (pg_name (i := 4) nd rfl (Or.inl rfl)) pgs_nil))))
          (fun _ _ _ _ _ => pts_nil)
          (fun _ _ _ _ _ => pe_tup (pa_cons (pv 2) (pa_cons (pv 3) (pa_cons (pe_op op_mul (pv 1) (pv 4)) pa_nil)))))
      pa_nil)) pa_nil))), ?_⟩
    obtain ⟨⟨dx, t, ho, as, hT, hP⟩, hnd, hnn⟩ := id hh
    refine ⟨_, rfl, h, dx, _, rfl, ho, rfl, h, dx, t, rfl, ho, t, rfl, ⟨_, SqT.of hT⟩, fun D hD => ?_⟩
    refine lc_tup (K := K) (a := t) (xs := as.map V.ref) (fun i H2 => Same H H2 ∧ ∃ bs : List Addr, H2 D = some (.lst (bs.map V.ref)) ∧ Paired (RowAt H2) bs (scaleR n (rows.take i)))
      ⟨same_new hD, [], upd_same, .nil⟩ (fun i H2 _ ⟨z, _⟩ => SqT.of (z _ _ hT)) ?_ ?_
    · rintro i x H2 hi ⟨s2, bs, hbD, hbs⟩
      obtain ⟨ra, row, h1, h2, rfl, h3⟩ := pget hP hi
      have hrow : H2 ra = some (.tup [.str row.1.1, .str row.1.2, .int row.2]) := s2 _ _ h3
      have hil : i < rows.length := (List.getElem?_eq_some_iff.mp h2).1
      have hbl : bs.length = i := by rw [hbs.length, scaleR, List.length_map, List.length_take]; omega
      refine ⟨ra, _, rfl, SqT.of hrow, rfl, _, _, rfl, _, _, rfl, _, _, rfl, rfl, rfl, ?_⟩
      refine ⟨_, rfl, _, rfl, _, rfl, _, rfl, _, _, rfl, rfl, .inl ⟨by omega, by omega⟩, (by show 3 ≤ sizeLine; decide), fun p1 hp1 => ?_⟩
      have g1 := same_new (o := .tup [.str row.1.1, .str row.1.2, .int (n * row.2)]) hp1
      have nD : p1 ≠ D := fun q => by rw [q, hbD] at hp1; cases hp1
      refine ⟨bs.map V.ref, g1 _ _ hbD, by rw [List.length_map, sizeLine_eq]; omega, same_put (s2.trans g1) hD, bs ++ [p1], by rw [upd_same, List.map_append]; rfl, ?_⟩
      rw [take_snoc h2, scaleR, List.map_append]
      refine Paired_snoc (Paired_mono (fun a r hr => ?_) hbs) ?_
      · have hr : H2 a = some (.tup [.str r.1.1, .str r.1.2, .int r.2]) := hr
        show (upd (upd H2 p1 _) D _) a = _
        rw [upd_ne (fun q => by rw [q, hbD] at hr; cases hr)]
        exact g1 _ _ hr
      · show (upd (upd H2 p1 _) D _) p1 = _
        rw [upd_ne nD, upd_same]
    · rintro H2 ⟨s2, bs, hbD, hbs⟩
      have el : (as.map V.ref).length = rows.length := by rw [List.length_map]; exact hP.length
      rw [el, List.take_length] at hbs
      refine ⟨D, _, rfl, .inl ⟨SqL.of hbD, fun t2 ht2 => ?_⟩⟩
      have st := same_new (o := .tup (bs.map V.ref)) ht2
      intro x dz nx ndx nex
      refine made_heap (rows := scaleR n rows) nx ndx nex ⟨bs, upd_same, Paired_mono (fun a r hr => st _ _ hr) hbs⟩ (nn_scale hn0 hnn) (by rw [scaleR, List.length_map]; exact hlen) fun rows' H' s3 hA hc hl => ?_
      exact k x rows' H' ((s2.trans st).trans s3) hA (fun q => by rw [hc, cnt_scale]) (by rw [scaleR, List.length_map] at hl; exact hl)
theorem ok_parts_left {f C : Addr} {fd : FuncData} (F : Fun K "parts_left" "parts_left" s_parts_left f fd) (T : HT0 K mg C) (R : Ml P w K mg base 1 C "rows" ["self"] [] (spHRows C)) : FnOk P w K mg base CX0 2 f fd ["heap"] (spPartsLeft C) := by
  refine F.ok sc_parts_left (fun vs H Q E h => ?_) (fun cdv A outer s H vs Q E hr h => ?_)
  · obtain ⟨h, rows, rfl, _⟩ := h
    rfl
  · obtain ⟨h, rows, rfl, hh, hlen, k⟩ := h
    have hu := hu_of hr
    have nd := sc_parts_left.nd
    refine ⟨_, pss_cons (ps_set (i := 1) nd rfl (Or.inl rfl) pe_dnewT)
      (pss_cons (ps_for PassesOwn.never rfl (pi_tup (pe_mk0 (pv 0) T.cl R (hr.mono (by decide)) pass0)) (pg_tup rfl (pgs_cons (pg_name (i := 2) nd rfl (Or.inl rfl)) (pgs_cons (pg_name (i := 3) nd rfl (Or.inl rfl)) (pgs_cons (pg_name (i := 4) nd rfl (Or.inl rfl)) pgs_nil))))
        (pss_one (ps_dput hu (pv 1) (pe_tup (pa_cons (pv 2) (pa_cons (pv 3) pa_nil))) (pv 4) rfl)))
      (pss_one (ps_ret (pv 1)))), ?_⟩
    intro d hd
    have s0 := same_new (o := .dT []) hd
    obtain ⟨⟨dx, t, ho, as, hT, hP⟩, hnd, hnn⟩ := id hh
    refine ⟨_, rfl, h, dx, _, rfl, s0 _ _ ho, rfl, h, dx, t, rfl, s0 _ _ ho, t, rfl, ⟨_, SqT.of (s0 _ _ hT)⟩, for_tup (K := K) (a := t) (xs := as.map V.ref) (fun i σ H2 => ∃ (c : List Row) (a b e : Option V), σ = [some (.ref h), some (.ref d), a, b, e] ∧ Same H H2 ∧ H2 d = some (.dT (encI c)) ∧ Nd c ∧ NN c ∧ c.length ≤ i ∧ (∀ p, cnt c p = cnt (rows.take i) p))
      ⟨[], none, none, none, rfl, s0, upd_same, List.nodup_nil, (fun e he => by cases he), Nat.le_refl _, fun p => rfl⟩ (fun i σ H2 _ ⟨_, _, _, _, _, s2, _⟩ => SqT.of (s2 _ _ hT)) ?_ ?_⟩
    · rintro i y σ H2 hi ⟨c, a, b, e, rfl, s2, hD, nc, cn, hl, hc⟩
      obtain ⟨ra, row, h1, h2, rfl, h3⟩ := pget hP hi
      have hil : i < rows.length := (List.getElem?_eq_some_iff.mp h2).1
      have hrow : H2 ra = some (.tup [.str row.1.1, .str row.1.2, .int row.2]) := s2 _ _ h3
      have h0 : 0 ≤ row.2 := hnn row (List.mem_of_getElem? h2)
      have tk := take_snoc h2
      refine ⟨ra, _, rfl, SqT.of hrow, rfl, _, _, rfl, _, _, rfl, _, _, rfl, rfl, ?_⟩
      refine ⟨_, rfl, _, rfl, _, rfl, _, rfl, (by show 2 ≤ sizeLine; decide), fun p1 hp1 => ?_⟩
      have g1 := same_new (o := .tup [.str row.1.1, .str row.1.2]) hp1
      refine ⟨d, _, rfl, DPut.t (b := p1) (k := pk row.1) (g1 _ _ hD) upd_same (by rw [enc_len, sizeLine_eq]; omega), ?_⟩
      have hnin : row.1 ∉ (rows.take i).map (·.1) := fun hm => by
        have : Nd (rows.take (i + 1)) := by
          have h5 : Nd rows := hnd
          unfold Nd at h5 ⊢
          rw [List.map_take]
          exact (List.take_sublist _ _).nodup h5
        unfold Nd at this
        rw [tk, List.map_append, List.nodup_append] at this
        exact this.2.2 _ hm _ List.mem_cons_self rfl
      refine ⟨pin c row.1 row.2, _, _, _, rfl, same_put (s2.trans g1) hd, by rw [upd_same, enc_put], pin_nd nc, pin_nn cn h0, by have := pin_len (c := c) (p := row.1) (x := row.2); omega, fun p => ?_⟩
      rw [cnt_pin nc, tk, cnt_app, hc]
      show _ = _ + ((if row.1 = p then row.2 else 0) + 0)
      by_cases q : p = row.1
      · rw [if_pos q, if_pos q.symm, q, cnt_notin hnin]; omega
      · rw [if_neg q, if_neg fun z => q z.symm]; omega
    · rintro σ H2 ⟨c, a, b, e, rfl, s2, hD, nc, cn, hl, hc⟩
      have el : (as.map V.ref).length = rows.length := by rw [List.length_map]; exact hP.length
      rw [el, List.take_length] at hc
      exact ⟨_, rfl, k d c H2 hd s2 hD nc cn hc (by omega)⟩
end
end K70

end
section
set_option maxRecDepth 100000
set_option maxHeartbeats 4000000
/-! with_kits; wanted_at; has_at. -/
namespace K70
open PySem PySem.Spec PyProof.Rows L2 K70M
theorem SqT_same {K : PySem.W.Frag} {H H' : Hp} {a : Addr} {xs : List V} (e : Same H H') (h : SqT K H a xs) : SqT K H' a xs := by
  rcases h with (h | ⟨o, h⟩) | h
  · exact .inl (.inl (e _ _ h))
  · exact .inl (.inr ⟨o, e _ _ h⟩)
  · exact .inr h
theorem SqG_same {K : PySem.W.Frag} {t : Bool} {H H' : Hp} {a : Addr} {xs : List V} (e : Same H H') (h : SqG K t H a xs) : SqG K t H' a xs := by
  cases t with
  | true => exact SqT_same e h
  | false => exact Same.seq e h
theorem comb_snoc {h : List Row} {k : List Row} {n : Int} {p : Part} : ∀ {ks : List (List Row)} {ns : List Int}, ks.length = ns.length → comb h (ks ++ [k]) (ns ++ [n]) p = comb h ks ns p + n * cnt k p
  | [], [], _ => by
    show n * cnt k p + cnt h p = cnt h p + n * cnt k p
    omega
  | [], _ :: _, e => by simp at e
  | _ :: _, [], e => by simp at e
  | j :: ks, m :: ns, e => by
    show m * cnt j p + comb h (ks ++ [k]) (ns ++ [n]) p = m * cnt j p + comb h ks ns p + n * cnt k p
    rw [comb_snoc (by simpa using e)]
    omega
def spWithKits (C : Addr) (K : PySem.W.Frag) : Sp := fun vs H Q _ => ∃ (h ks m : Addr) (t : Bool) (rows : List Row) (kits : List (List Row)) (ns : List Int), vs = [.ref h, .ref ks, .ref m] ∧ HeapAt C H h rows ∧ rows.length ≤ 100 ∧ HeapsAt C H ks kits ∧ KitsOk kits ∧
  SqG K t H m (ns.map V.int) ∧ ns.length = kits.length ∧ N0 ns ∧ (∀ n ∈ ns, n < 1000000) ∧
  ∀ (r : Addr) (rows' : List Row) (H' : Hp), Same H H' → HeapAt C H' r rows' → (∀ x, cnt rows' x = comb rows kits ns x) → rows'.length ≤ 1000 → Q (.ref r) H'
/-- shades, as a place has them -/
def PlV (H : Hp) (v : V) (o : Option (List Str)) : Prop := match o with
  | none => v = .non
  | some ss => ∃ t, v = .ref t ∧ H t = some (.tup (ss.map V.str))
theorem PlV.mono {H H' : Hp} {v : V} {o : Option (List Str)} (s : Same H H') (h : PlV H v o) : PlV H' v o := by
  cases o with
  | none => exact h
  | some ss =>
    obtain ⟨t, e, h⟩ := h
    exact ⟨t, e, s _ _ h⟩
def flagOf (f : Str) (o : Option (List Str)) (w : Want) : Bool := decide (w.1 = f) && (match o with | none => true | some ss => !decide (w.2.1 = []) && w.2.1.all fun s => decide (s ∈ ss))
def placeT (f : Str) (o : Option (List Str)) (p : Part) : Bool := decide (p.1 = f) && (match o with | none => true | some ss => decide (p.2 ∈ ss))
def wsumAt (f : Str) (o : Option (List Str)) : List Want → Int
  | [] => 0
  | w :: r => (if flagOf f o w = true then w.2.2 else 0) + wsumAt f o r
theorem wsumAt_snoc {f : Str} {o : Option (List Str)} {w : Want} : ∀ l : List Want, wsumAt f o (l ++ [w]) = wsumAt f o l + if flagOf f o w = true then w.2.2 else 0
  | [] => by
    show (if flagOf f o w = true then w.2.2 else 0) + 0 = 0 + _
    omega
  | x :: l => by
    show (if flagOf f o x = true then x.2.2 else 0) + wsumAt f o (l ++ [w]) = (if flagOf f o x = true then x.2.2 else 0) + wsumAt f o l + _
    rw [wsumAt_snoc l]
    omega
theorem wsumAt_fsum (f : Str) (o : Option (List Str)) : ∀ l : List Want, wsumAt f o l = fsum (l.map (flagOf f o)) (l.map wtP)
  | [] => rfl
  | x :: l => by
    show (if flagOf f o x = true then x.2.2 else 0) + wsumAt f o l = (if flagOf f o x = true then (wtP x).2 else 0) + fsum (l.map (flagOf f o)) (l.map wtP)
    rw [wsumAt_fsum f o l]
    rfl
theorem flagIn_place (f : Str) (o : Option (List Str)) (c : Part → Int) : ∀ l : List Want, FlagIn (placeT f o) c (l.map (flagOf f o)) (l.map wtP)
  | [] => trivial
  | x :: l => ⟨fun hb p hp => by
      left
      have hp : (decide (p.1 = x.1) && (decide (x.2.1 = []) || decide (p.2 ∈ x.2.1))) = true := hp
      unfold flagOf at hb
      unfold placeT
      rw [Bool.and_eq_true] at hb hp ⊢
      obtain ⟨h1, h2⟩ := hb
      obtain ⟨h3, h4⟩ := hp
      have h1 := of_decide_eq_true h1
      have h3 := of_decide_eq_true h3
      refine ⟨decide_eq_true (h3.trans h1), ?_⟩
      cases o with
      | none => rfl
      | some ss =>
        have h2 : (!decide (x.2.1 = []) && x.2.1.all fun s => decide (s ∈ ss)) = true := h2
        rw [Bool.and_eq_true] at h2
        obtain ⟨h5, h6⟩ := h2
        have h5 : ¬ x.2.1 = [] := by simpa using h5
        rw [decide_eq_false h5, Bool.false_or] at h4
        exact List.all_eq_true.mp h6 _ (of_decide_eq_true h4), flagIn_place f o c l⟩
/-- less there than is wanted at a place: no dealing -/
theorem place_hinders {rows : List Row} {wants : List Want} (f : Str) (o : Option (List Str)) (h : tsum (placeT f o) rows < wsumAt f o wants) : ¬ Deals (cnt rows) (wants.map wtP) := fun d => by
  have := hinder (placeT f o) _ (flagIn_place f o (cnt rows) wants) d
  rw [← wsumAt_fsum] at this
  omega
def spWantedAt : Sp := fun vs H Q _ => ∃ (wa : Addr) (wants : List Want) (f : Str) (v : V) (o : Option (List Str)), vs = [.ref wa, .str f, v] ∧ WantsAt H wa wants ∧ wants.length ≤ 1000 ∧ (∀ w ∈ wants, w.2.1.length ≤ 1000) ∧ PlV H v o ∧
  ∀ H', Same H H' → Q (.int (wsumAt f o wants)) H'
def spHasAt (C : Addr) : Sp := fun vs H Q _ => ∃ (h : Addr) (rows : List Row) (f : Str) (v : V) (o : Option (List Str)), vs = [.ref h, .str f, v] ∧ HeapAt C H h rows ∧ rows.length ≤ 1000 ∧ PlV H v o ∧ (∀ ss, o = some ss → ss.length ≤ 100000) ∧
  ∀ (x : Int) (H' : Hp), Same H H' → tsum (placeT f o) rows ≤ x → Q (.int x) H'
/-- two by place, one by name -/
def g3 {α : Type} : List α → List α → List α
  | [a, b], [c] => [a, b, c]
  | _, _ => []
/-- o.many(form, shade=..) ready to be called -/
structure Mlk (P : Program) (w : World) (K : PySem.W.Frag) (mg : Str → Option Value) (base : Heap) (C : Addr) : Prop where
  ex : ∃ f fd g, Meth K C "many" f ∧ KBinds K fd ["self", "form", "shade"] ["shade"] g g3 ∧ FnOk P w K mg base CX0 1 f fd ["self", "form", "shade"] (spHMany C)
theorem inV_strs {s : Str} : ∀ ss : List Str, inV (.str s) (ss.map V.str) = decide (s ∈ ss)
  | [] => by simp [inV]
  | x :: r => by
    show ((x == s) || inV (.str s) (r.map V.str)) = _
    rw [inV_strs r, Bool.beq_eq_decide_eq]
    by_cases h : x = s
    · simp [h]
    · have : ¬ s = x := fun z => h z.symm
      simp [h, this]
theorem strs_flat (ss : List Str) : (ss.map V.str).all flatV = true := by
  rw [List.all_map]
  exact List.all_eq_true.mpr fun x _ => rfl
section
variable {P : Program} {w : World} {K : PySem.W.Frag} {mg : Str → Option Value} {base : Heap}
theorem ok_with_kits {f C : Addr} {fd : FuncData} (F : Fun K "with_kits" "with_kits" s_with_kits f fd) (T : HT0 K mg C) (Pl : Ml P w K mg base 4 C "plus" ["self", "other"] [] (spHPlus C)) (ti : Cl P w K mg base CX0 4 "times" ["heap", "number"] [] (spTimes C)) :
    FnOk P w K mg base CX0 5 f fd ["heap", "kits", "many"] (spWithKits C K) := by
  refine F.ok sc_with_kits (fun vs H Q E h => ?_) (fun cdv A outer s H vs Q E hr h => ?_)
  · obtain ⟨h, ks, m, _, _, _, _, rfl, _⟩ := h
    rfl
  · obtain ⟨h, ks, m, tb, rows, kits, ns, rfl, hh, hlen, hk, ⟨hk1, hk2⟩, hm, hml, hn0, hn1, k⟩ := h
    have nd := sc_with_kits.nd
    refine ⟨_, pss_cons (ps_set (i := 3) nd rfl (Or.inl rfl) (pv 0))
      (pss_cons (ps_for PassesOwn.never rfl (pi_zipG (by rfl) T.b.zip (pa_cons (pv 1) (pa_cons (pv 2) pa_nil))) (pg_tup rfl (pgs_cons (pg_name (i := 4) nd rfl (Or.inl rfl)) (pgs_cons (pg_name (i := 5) nd rfl (Or.inl rfl)) pgs_nil)))
        (pss_one (ps_if (pt_cmpR op_gt (pv 5) pe_int (nomark _))
          (pss_one (ps_set (i := 3) nd rfl (Or.inl rfl) (pe_mk (pv 3) T.cl Pl hr pass0 (pa_cons (pe_k ti hr rfl pass0 (pa_cons (pv 4) (pa_cons (pv 5) pa_nil))) pa_nil))))
          pss_nil)))
      (pss_one (ps_ret (pv 3)))), ?_⟩
    obtain ⟨as, hT, hP⟩ := id hk
    have lks : as.length = kits.length := hP.length
    refine ⟨_, rfl, _, rfl, _, rfl, ks, m, true, tb, as.map V.ref, ns.map V.int, rfl, SqT.of hT, hm, ?_⟩
    refine for_zipG (K := K) (t1 := true) (t2 := tb) (xs := as.map V.ref) (ys := ns.map V.int) (by rw [List.length_map, List.length_map]; omega) (fun i σ H2 => ∃ (r : Addr) (ra : List Row) (a b : Option V), σ = [some (.ref h), some (.ref ks), some (.ref m), some (.ref r), a, b] ∧ Same H H2 ∧ HeapAt C H2 r ra ∧ (∀ x, cnt ra x = comb rows (kits.take i) (ns.take i) x) ∧ ra.length ≤ 100 + 100 * i)
      ⟨h, rows, none, none, rfl, Same.refl _, hh, (fun x => rfl), hlen⟩ (fun i σ H2 ⟨_, _, _, _, _, s2, _⟩ => ⟨SqT.of (s2 _ _ hT), SqG_same s2 hm⟩) ?_ ?_
    · rintro i x y T1 σ H2 hi hj ⟨r, ra, a, b, rfl, s2, hA, hc, hl⟩ hT1
      obtain ⟨ka, kit, h1, h2, rfl, h3⟩ := pget hP hi
      rw [List.getElem?_map, Option.map_eq_some_iff] at hj
      obtain ⟨n, hn, rfl⟩ := hj
      have hil : i < kits.length := (List.getElem?_eq_some_iff.mp h2).1
      have n0 := hn0 n (List.mem_of_getElem? hn)
      have n1 := hn1 n (List.mem_of_getElem? hn)
      have g1 := same_new (o := .tup [.ref ka, .int n]) hT1
      have hkA := h3.mono _ _ _ _ (s2.trans g1)
      have hA' := hA.mono _ _ _ _ g1
      have lk := hk2 kit (List.mem_of_getElem? h2)
      have cs : ∀ x, comb rows (kits.take (i + 1)) (ns.take (i + 1)) x = comb rows (kits.take i) (ns.take i) x + n * cnt kit x := fun x => by
        rw [take_snoc h2, take_snoc hn]
        exact comb_snoc (by rw [List.length_take, List.length_take]; omega)
      refine ⟨T1, _, rfl, SqT.of upd_same, rfl, _, _, rfl, _, _, rfl, rfl, ?_⟩
      refine ⟨_, rfl, _, _, rfl, rfl, _, rfl, ?_⟩
      refine ite2 (fun c => ?_) (fun c => ?_)
      · obtain ⟨⟨dx, t, ho, hR⟩, _, _⟩ := id hA'
        refine ⟨_, rfl, r, dx, _, rfl, ho, rfl, _, rfl, _, rfl, ka, n, kit, rfl, hkA, by omega, n0, n1, fun r2 rows2 H3 s3 hA2 hc2 hl2 => ?_⟩
        refine ⟨r, r2, ra, rows2, rfl, hA'.mono _ _ _ _ s3, hA2, by omega, fun r3 rows3 H4 s4 hA3 hc3 hl3 => ?_⟩
        exact ⟨r3, rows3, _, _, rfl, ((s2.trans g1).trans s3).trans s4, hA3, fun x => by rw [hc3, hc2, hc, cs], by omega⟩
      · have c : ¬ (0 < n) := by simpa using c
        have : n = 0 := by omega
        subst this
        exact ⟨r, ra, _, _, rfl, s2.trans g1, hA', fun x => by rw [hc, cs]; omega, by omega⟩
    · rintro σ H2 ⟨r, ra, a, b, rfl, s2, hA, hc, hl⟩
      rw [List.length_map, lks] at hc hl
      rw [List.take_length, List.take_of_length_le (by omega)] at hc
      exact ⟨_, rfl, k r ra H2 s2 hA hc (by omega)⟩
theorem ok_wanted_at {f : Addr} {fd : FuncData} (F : Fun K "wanted_at" "wanted_at" s_wanted_at f fd) (B : BT mg) : FnOk P w K mg base CX0 1 f fd ["wants", "form", "shades"] spWantedAt := by
  refine F.ok sc_wanted_at (fun vs H Q E h => ?_) (fun cdv A outer s H vs Q E hr h => ?_)
  · obtain ⟨wa, wants, f, v, o, rfl, _⟩ := h
    rfl
  · obtain ⟨wa, wants, fm, v, o, rfl, hw, hl, hs, ho, k⟩ := h
    have nd := sc_wanted_at.nd
    refine ⟨_, pss_cons (ps_set (i := 3) nd rfl (Or.inl rfl) pe_int)
      (pss_cons (ps_for PassesOwn.never rfl (pi_tup (pv 0)) (pg_tup rfl (pgs_cons (pg_name (i := 4) nd rfl (Or.inl rfl)) (pgs_cons (pg_name (i := 5) nd rfl (Or.inl rfl)) (pgs_cons (pg_name (i := 6) nd rfl (Or.inl rfl)) pgs_nil))))
        (pss_cons (ps_set (i := 7) nd rfl (Or.inl rfl) (pe_or (pe_cmpR op_isN (pv 2) pe_non (nomark _)) (pe_one (pe_and (pe_cmpR (op_neD hr.units) (pv 5) (pe_tup pa_nil) (nomark _)) (pe_one
            (pe_callB (cr_all rfl) (by rfl) B.all (by decide +kernel) (pa_cons
              (pe_lc (own := [("shade", 8)]) (g := gName 8) (tt := tYes) rfl nd (pi_tup (pv 5))
                (blkOk_by (N := ["wants", "form", "shades", "found", "own", "some", "many", "is_there", "shade"]) (sc := defScope s_wanted_at) (by decide +kernel))
                (fun _ _ _ _ _ => pg_name (i := 8) nd rfl (Or.inl rfl)) (fun _ _ _ _ _ => pts_nil)
                (fun _ _ _ _ _ => pe_cmpR (op_inK K) (pv 8) (pv 2) rfl))
              pa_nil)))))))
        (pss_one (ps_if (PW.pt (pw_and (pt_cmpR op_eq (pv 4) (pv 1) (nomark _)) (pw_and1 (pt_val (pv 7)))))
          (pss_one (ps_set (i := 3) nd rfl (Or.inl rfl) (pe_op op_add (pv 3) (pv 6)))) pss_nil))))
      (pss_one (ps_ret (pv 3)))), ?_⟩
    obtain ⟨as, hT, hP⟩ := id hw
    refine ⟨_, rfl, wa, rfl, ⟨_, SqT.of hT⟩, for_tup (K := K) (a := wa) (xs := as.map V.ref) (fun i σ H2 => ∃ (x : Int) (a b c d e : Option V), σ = [some (.ref wa), some (.str fm), some v, some (.int x), a, b, c, d, e] ∧ Same H H2 ∧ x = wsumAt fm o (wants.take i))
      ⟨0, none, none, none, none, none, rfl, Same.refl _, rfl⟩ (fun i σ H2 _ ⟨_, _, _, _, _, _, _, s2, _⟩ => SqT.of (s2 _ _ hT)) ?_ ?_⟩
    · rintro i y σ H2 hi ⟨x, a, b, c, d, e, rfl, s2, hx⟩
      obtain ⟨ra, wt, h1, h2, rfl, h3⟩ := pget hP hi
      have hil : i < wants.length := (List.getElem?_eq_some_iff.mp h2).1
      obtain ⟨ta, hw1, hw2, hw3⟩ := h3.mono _ _ _ _ s2
      have hsl := hs wt (List.mem_of_getElem? h2)
      have ho2 := ho.mono s2
      refine ⟨ra, _, rfl, SqT.of hw1, rfl, _, _, rfl, _, _, rfl, _, _, rfl, rfl, ?_⟩
      have stepv : wsumAt fm o (wants.take (i + 1)) = x + if flagOf fm o wt = true then wt.2.2 else 0 := by
        rw [take_snoc h2, wsumAt_snoc, hx]
      refine ⟨_, rfl, rfl, _, rfl, ?_⟩
      have tl : ∀ {H3 : Hp} {B : Bool} (s3 : Same H2 H3) (hb : (decide (wt.1 = fm) && B) = flagOf fm o wt), flagOf fm o wt = (decide (wt.1 = fm) && B) ∧ Same H H3 := fun s3 hb => ⟨hb.symm, s2.trans s3⟩
      cases o with
      | none =>
        obtain rfl : v = .non := ho
        refine iteT ?_
        obtain ⟨hb, s3⟩ := tl (B := true) (Same.refl _) rfl
        refine ⟨_, rfl, _, rfl, rfl, _, rfl, ?_⟩
        refine ite2 (fun c => ?_) (fun c => ?_)
        · have c : wt.1 = fm := by simpa using c
          refine ⟨_, rfl, _, rfl, ?_⟩
          refine iteT ?_
          refine ⟨_, rfl, _, rfl, _, _, rfl, rfl, _, _, _, _, _, _, rfl, s3, ?_⟩
          rw [stepv, hb]
          simp [c]
        · have c : ¬ wt.1 = fm := by simpa using c
          refine ⟨_, _, _, _, _, _, rfl, s3, ?_⟩
          rw [stepv, hb]
          simp [c]
      | some ss =>
        obtain ⟨st, rfl, hst⟩ := ho2
        refine iteF ?_
        refine ⟨_, rfl, (by show 0 ≤ sizeLine; decide), fun z hz => ?_⟩
        have g0 := same_new (o := .tup []) hz
        refine ⟨_, _, .tup (SqT.of (g0 _ _ hw2)) (strs_dp wt.2.1), .tup (SqT.of upd_same) .nil, shaped_strs hw3.2, rfl, _, rfl, ?_⟩
        rw [eqv_nil]
        by_cases he : wt.2.1 = []
        · rw [decide_eq_true he]
          refine iteF ?_
          obtain ⟨hb, s3⟩ := tl (B := false) g0 (by unfold flagOf; simp [he])
          refine ⟨_, rfl, _, rfl, rfl, _, rfl, ?_⟩
          refine ite2 (fun c => ?_) (fun c => ?_)
          · refine ⟨_, rfl, _, rfl, ?_⟩
            refine iteF ?_
            refine ⟨_, _, _, _, _, _, rfl, s3, ?_⟩
            rw [stepv, hb]
            simp
          · refine ⟨_, _, _, _, _, _, rfl, s3, ?_⟩
            rw [stepv, hb]
            simp
        · rw [decide_eq_false he]
          refine iteT ?_
          refine ⟨_, rfl, ta, rfl, ⟨_, SqT.of (g0 _ _ hw2)⟩, fun D hD => ?_⟩
          refine lc_tup (K := K) (a := ta) (xs := wt.2.1.map V.str) (fun j H3 => Same (upd H2 z (.tup [])) H3 ∧ H3 D = some (.lst (((wt.2.1.take j).map fun s => decide (s ∈ ss)).map V.bl)))
            ⟨same_new hD, upd_same⟩ (fun j H3 _ ⟨s3, _⟩ => SqT.of (s3 _ _ (g0 _ _ hw2))) ?_ ?_
          · rintro j y H3 hj ⟨s3, hbD⟩
            rw [List.getElem?_map, Option.map_eq_some_iff] at hj
            obtain ⟨sh, hsh, rfl⟩ := hj
            have hjl : j < wt.2.1.length := (List.getElem?_eq_some_iff.mp hsh).1
            refine ⟨rfl, _, rfl, _, rfl, st, _, rfl, .inr (SqT.of (s3 _ _ (g0 _ _ hst))), rfl, strs_flat ss, _, hbD, by rw [List.length_map, List.length_map, List.length_take, sizeLine_eq]; omega, same_put s3 hD, ?_⟩
            rw [upd_same, take_snoc hsh, List.map_append, List.map_append]
            show some (HO.lst (_ ++ [V.bl (inV (.str sh) (ss.map V.str))])) = _
            rw [inV_strs]
            rfl
          · rintro H3 ⟨s3, hbD⟩
            rw [List.length_map, List.take_length] at hbD
            refine ⟨D, _, rfl, SqL.of hbD, ?_⟩
            obtain ⟨hb, s4⟩ := tl (B := (wt.2.1.map fun s => decide (s ∈ ss)).all id) (g0.trans s3) (by
              unfold flagOf
              rw [List.all_map]
              simp [he])
            refine ⟨_, rfl, _, rfl, rfl, _, rfl, ?_⟩
            refine ite2 (fun c => ?_) (fun c => ?_)
            · have c : wt.1 = fm := by simpa using c
              refine ⟨_, rfl, _, rfl, ?_⟩
              refine ite2 (fun c2 => ?_) (fun c2 => ?_)
              · refine ⟨_, rfl, _, rfl, _, _, rfl, rfl, _, _, _, _, _, _, rfl, s4, ?_⟩
                rw [stepv, hb, c2]
                simp [c]
              · refine ⟨_, _, _, _, _, _, rfl, s4, ?_⟩
                rw [stepv, hb, Bool.eq_false_iff.mpr c2]
                simp
            · have c : ¬ wt.1 = fm := by simpa using c
              refine ⟨_, _, _, _, _, _, rfl, s4, ?_⟩
              rw [stepv, hb]
              simp [c]
    · rintro σ H2 ⟨x, a, b, c, d, e, rfl, s2, hx⟩
      have el : (as.map V.ref).length = wants.length := by rw [List.length_map]; exact hP.length
      rw [el, List.take_length] at hx
      refine ⟨_, rfl, ?_⟩
      rw [hx]
      exact k H2 s2
end
end K70

end
section
set_option maxRecDepth 100000
set_option maxHeartbeats 4000000
/-! has_at; fills. -/
namespace K70
open PySem PySem.Spec PyProof.Rows L2 K70M
theorem tsum_place_none (f : Str) (rows : List Row) : tsum (placeT f none) rows = tsum (manyT f none) rows := by
  have : placeT f none = manyT f none := by
    funext p
    rfl
  rw [this]
theorem tsum_le_of {T U : Part → Bool} {rows : List Row} (hn : NN rows) (h : ∀ p, T p = true → U p = true) : tsum T rows ≤ tsum U rows := by
  induction rows with
  | nil => exact Int.le_refl _
  | cons e r ih =>
    have h1 := hn e List.mem_cons_self
    have h2 := ih fun x hx => hn x (List.mem_cons_of_mem _ hx)
    show (if T e.1 = true then e.2 else 0) + tsum T r ≤ (if U e.1 = true then e.2 else 0) + tsum U r
    by_cases q : T e.1 = true
    · rw [if_pos q, if_pos (h _ q)]; omega
    · rw [if_neg q]
      split <;> omega
theorem tsum_or {T U V' : Part → Bool} {rows : List Row} (hn : NN rows) (h : ∀ p, T p = true → U p = true ∨ V' p = true) : tsum T rows ≤ tsum U rows + tsum V' rows := by
  induction rows with
  | nil => exact Int.le_refl _
  | cons e r ih =>
    have h1 := hn e List.mem_cons_self
    have h2 := ih fun x hx => hn x (List.mem_cons_of_mem _ hx)
    show (if T e.1 = true then e.2 else 0) + tsum T r ≤ (if U e.1 = true then e.2 else 0) + tsum U r + ((if V' e.1 = true then e.2 else 0) + tsum V' r)
    by_cases q : T e.1 = true
    · rcases h _ q with z | z
      · rw [if_pos q, if_pos z]
        split <;> omega
      · rw [if_pos q, if_pos z]
        split <;> omega
    · rw [if_neg q]
      split <;> split <;> omega
theorem tsum_false {rows : List Row} {T : Part → Bool} (h : ∀ p, T p = false) : tsum T rows = 0 := by
  induction rows with
  | nil => rfl
  | cons e r ih =>
    show (if T e.1 = true then e.2 else 0) + tsum T r = 0
    rw [h, ih]
    rfl
/-- shade by shade, all that is at the place -/
theorem place_sum {f : Str} {rows : List Row} (hn : NN rows) : ∀ ss : List Str, tsum (placeT f (some ss)) rows ≤ (ss.map fun s => tsum (manyT f (some s)) rows).sum
  | [] => by
    rw [tsum_false fun p => by simp [placeT]]
    exact Int.le_refl _
  | s :: ss => by
    rw [List.map_cons, List.sum_cons]
    have h1 := place_sum hn ss (f := f)
    have h2 := tsum_or (T := placeT f (some (s :: ss))) (U := manyT f (some s)) (V' := placeT f (some ss)) hn fun p hp => by
      have hp : (decide (p.1 = f) && decide (p.2 ∈ s :: ss)) = true := hp
      rw [Bool.and_eq_true] at hp
      rcases List.mem_cons.mp (of_decide_eq_true hp.2) with z | z
      · left
        show (decide (p.1 = f) && decide (p.2 = s)) = true
        rw [hp.1, decide_eq_true z]
        rfl
      · right
        show (decide (p.1 = f) && decide (p.2 ∈ ss)) = true
        rw [hp.1, decide_eq_true z]
        rfl
    omega
section
variable {P : Program} {w : World} {K : PySem.W.Frag} {mg : Str → Option Value} {base : Heap}
theorem ok_has_at {f C : Addr} {fd : FuncData} (F : Fun K "has_at" "has_at" s_has_at f fd) (T : HT0 K mg C) (M1 : Ml P w K mg base 1 C "many" ["self", "form", "shade"] [.non] (spHMany C)) (M2 : Mlk P w K mg base C) :
    FnOk P w K mg base CX0 2 f fd ["heap", "form", "shades"] (spHasAt C) := by
  obtain ⟨fm2, fd2, g2, hme, hkb, hfn⟩ := M2.ex
  refine F.ok sc_has_at (fun vs H Q E h => ?_) (fun cdv A outer s H vs Q E hr h => ?_)
  · obtain ⟨h, rows, f, v, o, rfl, _⟩ := h
    rfl
  · obtain ⟨h, rows, fm, v, o, rfl, hh, hl, ho, hol, k⟩ := h
    have nd := sc_has_at.nd
    refine ⟨_, pss_cons (ps_if (pt_cmpR op_isN (pv 2) pe_non (nomark _)) (pss_one (ps_ret (pe_mk (pv 0) T.cl M1 hr pass0 (pa_cons (pv 1) pa_nil)))) pss_nil)
      (pss_one (ps_ret (pe_callB (cr_sum rfl) (by rfl) T.b.sum (by decide +kernel) (pa_cons
        (pe_lc (own := [("shade", 3)]) (g := gName 3) (tt := tYes) rfl nd (pi_tup (pv 2))
          (blkOk_by (N := ["heap", "form", "shades", "shade"]) (sc := defScope s_has_at) (by decide +kernel))
          (fun _ _ _ _ _ => pg_name (i := 3) nd rfl (Or.inl rfl)) (fun _ _ _ _ _ => pts_nil)
          (fun _ _ _ _ _ => pe_methKw (pv 0) T.cl hme hfn hr hkb pass0 (pa_cons (pv 1) pa_nil) (pk_cons (pv 3) pk_nil)))
        pa_nil)))), ?_⟩
    obtain ⟨dx, t, hob, hR⟩ := hh.ob
    cases o with
    | none =>
      obtain rfl : v = .non := ho
      refine ⟨_, rfl, rfl, _, rfl, ?_⟩
      refine iteT ?_
      refine ⟨_, rfl, h, dx, _, rfl, hob, rfl, _, rfl, h, rows, fm, none, rfl, hh, hl, fun H' s' => ?_⟩
      exact k _ H' s' (by rw [tsum_place_none]; exact Int.le_refl _)
    | some ss =>
      obtain ⟨st, rfl, hst⟩ := ho
      refine ⟨_, rfl, rfl, _, rfl, ?_⟩
      refine iteF ?_
      refine ⟨_, rfl, st, rfl, ⟨_, SqT.of hst⟩, fun D hD => ?_⟩
      have lss := hol ss rfl
      refine lc_tup (K := K) (a := st) (xs := ss.map V.str) (fun i H2 => Same H H2 ∧ H2 D = some (.lst (((ss.take i).map fun s => tsum (manyT fm (some s)) rows).map V.int)))
        ⟨same_new hD, upd_same⟩ (fun i H2 _ ⟨s2, _⟩ => SqT.of (s2 _ _ hst)) ?_ ?_
      · rintro i y H2 hi ⟨s2, hbD⟩
        rw [List.getElem?_map, Option.map_eq_some_iff] at hi
        obtain ⟨sh, hsh, rfl⟩ := hi
        have hil : i < ss.length := (List.getElem?_eq_some_iff.mp hsh).1
        refine ⟨rfl, _, rfl, h, dx, _, rfl, s2 _ _ hob, rfl, _, rfl, _, rfl, h, rows, fm, some sh, rfl, hh.mono _ _ _ _ s2, hl, fun H' s' => ?_⟩
        refine ⟨_, s' _ _ hbD, by rw [List.length_map, List.length_map, List.length_take, sizeLine_eq]; omega, same_put (s2.trans s') hD, ?_⟩
        rw [upd_same, take_snoc hsh, List.map_append, List.map_append]
        rfl
      · rintro H2 ⟨s2, hbD⟩
        rw [List.length_map, List.take_length] at hbD
        exact ⟨D, _, rfl, SqL.of hbD, k _ H2 s2 (place_sum hh.nn ss)⟩
/-- places, as they are gathered -/
def PlacesAt (H : Hp) (l : Addr) (ps : List PlaceK) : Prop := LstOf PlaceAt H l ps
theorem PlaceAt.mono : Mono PlaceAt := fun H H' a k s h => by
  obtain ⟨f, o⟩ := k
  cases o with
  | none => exact s _ _ h
  | some ss =>
    obtain ⟨t, h1, h2⟩ : ∃ t, H a = some (.tup [.str f, .ref t]) ∧ H t = some (.tup (ss.map V.str)) := h
    exact ⟨t, s _ _ h1, s _ _ h2⟩
theorem PlaceAt.tup {H : Hp} {a : Addr} {k : PlaceK} (h : PlaceAt H a k) : ∃ v, H a = some (.tup [.str k.1, v]) ∧ PlV H v k.2 := by
  obtain ⟨f, o⟩ := k
  cases o with
  | none => exact ⟨.non, h, rfl⟩
  | some ss =>
    obtain ⟨t, h1, h2⟩ : ∃ t, H a = some (.tup [.str f, .ref t]) ∧ H t = some (.tup (ss.map V.str)) := h
    exact ⟨.ref t, h1, t, rfl, h2⟩
theorem combL_snoc {h : List Row} {k : List Row} {n : Int} {T : Part → Bool} : ∀ {ks : List (List Row)} {ns : List Int}, ks.length = ns.length → tsum T (combL h (ks ++ [k]) (ns ++ [n])) = tsum T (combL h ks ns) + n * tsum T k
  | [], [], _ => by
    show tsum T (scaleR n k ++ h) = tsum T h + n * tsum T k
    rw [tsum_app, tsum_scale]
    omega
  | [], _ :: _, e => by simp at e
  | _ :: _, [], e => by simp at e
  | j :: ks, m :: ns, e => by
    show tsum T (scaleR m j ++ combL h (ks ++ [k]) (ns ++ [n])) = tsum T (scaleR m j ++ combL h ks ns) + n * tsum T k
    rw [tsum_app, tsum_app, combL_snoc (by simpa using e)]
    omega
def spFills (C : Addr) (K : PySem.W.Frag) : Sp := fun vs H Q _ => ∃ (h ks wa pl m : Addr) (rows : List Row) (kits : List (List Row)) (wants : List Want) (places : List PlaceK) (ns : List Int), vs = [.ref h, .ref ks, .ref wa, .ref pl, .ref m] ∧ HeapAt C H h rows ∧ rows.length ≤ 100 ∧ HeapsAt C H ks kits ∧ KitsOk kits ∧
  WantsAt H wa wants ∧ wants.length ≤ 1000 ∧ (∀ w ∈ wants, w.2.1.length ≤ 1000) ∧ PlacesAt H pl places ∧ (∀ p ∈ places, ∀ ss, p.2 = some ss → ss.length ≤ 100000) ∧ H m = some (.tup (ns.map V.int)) ∧ ns.length = kits.length ∧ N0 ns ∧ (∀ n ∈ ns, n < 1000000) ∧
  ∀ (b : Bool) (H' : Hp), Same H H' → (b = false → ¬ Deals (comb rows kits ns) (wants.map wtP)) → Q (.bl b) H'
theorem ok_fills {f C : Addr} {fd : FuncData} (F : Fun K "fills" "fills" s_fills f fd) (T : HT0 K mg C) (ha : Cl P w K mg base CX0 2 "has_at" ["heap", "form", "shades"] [] (spHasAt C)) (wa : Cl P w K mg base CX0 1 "wanted_at" ["wants", "form", "shades"] [] spWantedAt) :
    FnOk P w K mg base CX0 3 f fd ["heap", "kits", "wants", "places", "many"] (spFills C K) := by
  refine F.ok sc_fills (fun vs H Q E h => ?_) (fun cdv A outer s H vs Q E hr h => ?_)
  · obtain ⟨_, _, _, _, _, _, _, _, _, _, rfl, _⟩ := h
    rfl
  · obtain ⟨h, ks, wad, pl, m, rows, kits, wants, places, ns, rfl, hh, hlen, hk, ⟨hk1, hk2⟩, hw, hwl, hws, hpl, hps, hm, hml, hn0, hn1, k⟩ := h
    have nd := sc_fills.nd
    refine ⟨_, pss_cons (ps_for PassesOwn.never rfl (pi_list (pv 3)) (pg_tup rfl (pgs_cons (pg_name (i := 5) nd rfl (Or.inl rfl)) (pgs_cons (pg_name (i := 6) nd rfl (Or.inl rfl)) pgs_nil)))
        (pss_cons (ps_set (i := 7) nd rfl (Or.inl rfl) (pe_k ha hr rfl pass0 (pa_cons (pv 0) (pa_cons (pv 5) (pa_cons (pv 6) pa_nil)))))
        (pss_cons (ps_for PassesOwn.never rfl (pi_zipG (by rfl) T.b.zip (pa_cons (pv 1) (pa_cons (pv 4) pa_nil))) (pg_tup rfl (pgs_cons (pg_name (i := 8) nd rfl (Or.inl rfl)) (pgs_cons (pg_name (i := 9) nd rfl (Or.inl rfl)) pgs_nil)))
          (pss_one (ps_set (i := 7) nd rfl (Or.inl rfl) (pe_op op_add (pv 7) (pe_op op_mul (pv 9) (pe_k ha hr rfl pass0 (pa_cons (pv 8) (pa_cons (pv 5) (pa_cons (pv 6) pa_nil)))))))))
        (pss_one (ps_if (pt_cmpR op_lt (pv 7) (pe_k wa (hr.mono (by decide)) rfl pass0 (pa_cons (pv 2) (pa_cons (pv 5) (pa_cons (pv 6) pa_nil)))) (nomark _)) (pss_one (ps_ret pe_bl)) pss_nil)))))
      (pss_one (ps_ret pe_bl)), ?_⟩
    obtain ⟨as, hT, hP⟩ := id hk
    have lks : as.length = kits.length := hP.length
    obtain ⟨bs, hL, hB⟩ := id hpl
    refine ⟨_, rfl, pl, rfl, ⟨_, SqL.of hL⟩, for_list (K := K) (a := pl) (xs := bs.map V.ref) (fun i σ H2 => ∃ (a b c d e : Option V), σ = [some (.ref h), some (.ref ks), some (.ref wad), some (.ref pl), some (.ref m), a, b, c, d, e] ∧ Same H H2)
      ⟨none, none, none, none, none, rfl, Same.refl _⟩ (fun i σ H2 _ ⟨_, _, _, _, _, _, s2⟩ => SqL.of (s2 _ _ hL)) ?_ ?_⟩
    · rintro i y σ H2 hi ⟨a, b, c, d, e, rfl, s2⟩
      obtain ⟨pa, place, h1, h2, rfl, h3⟩ := pget hB hi
      obtain ⟨v, hpa, hv⟩ := (h3.mono _ _ _ _ s2).tup
      have hpo := hps place (List.mem_of_getElem? h2)
      refine ⟨pa, _, rfl, SqT.of hpa, rfl, _, _, rfl, _, _, rfl, rfl, ?_⟩
      refine ⟨_, rfl, _, rfl, _, rfl, h, rows, place.1, v, place.2, rfl, hh.mono _ _ _ _ s2, by omega, hv, hpo, fun x H3 s3 hx => ?_⟩
      have s23 := s2.trans s3
      refine ⟨_, rfl, _, rfl, ks, m, true, true, as.map V.ref, ns.map V.int, rfl, SqT.of (s23 _ _ hT), SqT.of (s23 _ _ hm), ?_⟩
      refine for_zipG (K := K) (t1 := true) (t2 := true) (xs := as.map V.ref) (ys := ns.map V.int) (by rw [List.length_map, List.length_map]; omega) (fun j σ H4 => ∃ (x : Int) (d e : Option V), σ = [some (.ref h), some (.ref ks), some (.ref wad), some (.ref pl), some (.ref m), some (.str place.1), some v, some (.int x), d, e] ∧ Same H3 H4 ∧ tsum (placeT place.1 place.2) (combL rows (kits.take j) (ns.take j)) ≤ x)
        ⟨x, d, e, rfl, Same.refl _, hx⟩ (fun j σ H4 ⟨_, _, _, _, s4, _⟩ => ⟨SqT.of (s4 _ _ (s23 _ _ hT)), SqT.of (s4 _ _ (s23 _ _ hm))⟩) ?_ ?_
      · rintro j x' y' T1 σ H4 hj hj2 ⟨x, d, e, rfl, s4, hx⟩ hT1
        obtain ⟨ka, kit, g1, g2, rfl, g3⟩ := pget hP hj
        rw [List.getElem?_map, Option.map_eq_some_iff] at hj2
        obtain ⟨n, hn, rfl⟩ := hj2
        have hjl : j < kits.length := (List.getElem?_eq_some_iff.mp g2).1
        have n0 := hn0 n (List.mem_of_getElem? hn)
        have n1 := hn1 n (List.mem_of_getElem? hn)
        have lk := hk2 kit (List.mem_of_getElem? g2)
        have g := same_new (o := .tup [.ref ka, .int n]) hT1
        have s5 := (s23.trans s4).trans g
        refine ⟨T1, _, rfl, SqT.of upd_same, rfl, _, _, rfl, _, _, rfl, rfl, ?_⟩
        refine ⟨_, rfl, _, rfl, _, rfl, _, rfl, _, rfl, ka, kit, place.1, v, place.2, rfl, g3.mono _ _ _ _ s5, by omega, hv.mono ((s3.trans s4).trans g), hpo, fun y H5 s6 hy => ?_⟩
        refine ⟨_, _, rfl, rfl, .inl ⟨by omega, by omega⟩, _, _, rfl, rfl, _, _, _, rfl, (s4.trans g).trans s6, ?_⟩
        rw [take_snoc g2, take_snoc hn, combL_snoc (by rw [List.length_take, List.length_take]; omega)]
        have := Int.mul_le_mul_of_nonneg_left hy n0
        omega
      · rintro σ H4 ⟨x, d, e, rfl, s4, hx⟩
        rw [List.length_map, lks, List.take_length, List.take_of_length_le (by omega)] at hx
        refine ⟨_, rfl, _, rfl, _, rfl, _, rfl, wad, wants, place.1, v, place.2, rfl, WantsAt.mono _ _ _ _ (s23.trans s4) hw, hwl, hws, hv.mono (s3.trans s4), fun H5 s5 => ?_⟩
        refine ⟨_, _, rfl, rfl, _, rfl, ?_⟩
        refine ite2 (fun c => ?_) (fun c => ?_)
        · have c : x < wsumAt place.1 place.2 wants := by simpa using c
          refine k false H5 ((s23.trans s4).trans s5) fun _ => ?_
          have e1 : (comb rows kits ns) = cnt (combL rows kits ns) := by
            funext q
            exact (cnt_combL rows q kits ns).symm
          rw [e1]
          exact place_hinders place.1 place.2 (by omega)
        · exact ⟨_, _, _, _, _, rfl, (s23.trans s4).trans s5⟩
    · rintro σ H2 ⟨a, b, c, d, e, rfl, s2⟩
      exact k true H2 s2 fun z => by cases z
end
end K70

end
section
set_option maxRecDepth 100000
set_option maxHeartbeats 4000000
/-! The search's state, and what it says. -/
namespace K70
open PySem PySem.Spec PyProof.Rows L2 K70M
theorem gvo_pin {c : List Row} {p q : Part} {x : Int} : gvo (pin c p x) q = if q = p then some x else gvo c q := by
  have h := valV_put (encI c) (pk p) (pk q) (V.int x)
  rw [enc_put, enc_val, enc_val] at h
  by_cases e : q = p
  · rw [if_pos e]
    rw [if_pos (pk_inj.mpr e)] at h
    cases g : gvo (pin c p x) q with
    | none => rw [g] at h; cases h
    | some y =>
      rw [g] at h
      have h : V.int y = V.int x := Option.some.inj h
      cases h
      rfl
  · rw [if_neg e]
    rw [if_neg fun z => e (pk_inj.mp z)] at h
    cases g : gvo (pin c p x) q with
    | none =>
      rw [g] at h
      cases g2 : gvo c q with
      | none => rfl
      | some y => rw [g2] at h; cases h
    | some y =>
      rw [g] at h
      cases g2 : gvo c q with
      | none => rw [g2] at h; cases h
      | some z =>
        rw [g2] at h
        have h : V.int y = V.int z := Option.some.inj h
        cases h
        rfl
theorem gvo_in {c : List Row} {p : Part} (h : p ∈ c.map (·.1)) : ∃ x, gvo c p = some x := by
  cases q : gvo c p with
  | none => exact absurd h (K70M.get_none q)
  | some x => exact ⟨x, rfl⟩
abbrev Hs := List (Nat × Option (Addr × Part))
def refO : Option (Addr × Part) → V
  | none => .non
  | some x => .ref x.1
def encH (hs : Hs) : List (Key × V) := hs.map fun e => (Sum.inl (e.1 : Int), refO e.2)
theorem encH_len (hs : Hs) : (encH hs).length = hs.length := List.length_map _
theorem encH_val {hs : Hs} {j : Nat} (h : j ∉ hs.map (·.1)) : valV (encH hs) (Sum.inl (j : Int)) = none := by
  induction hs with
  | nil => rfl
  | cons e r ih =>
    simp only [List.map_cons, List.mem_cons, not_or] at h
    rw [show encH (e :: r) = (Sum.inl (e.1 : Int), refO e.2) :: encH r from rfl, valV_neg (fun z => h.1 (by have : (e.1 : Int) = (j : Int) := Sum.inl.inj z; omega)), ih h.2]
theorem encH_at : ∀ {hs : Hs} {m j : Nat} {o : Option (Addr × Part)}, (hs.map (·.1)).Nodup → hs[m]? = some (j, o) → valV (encH hs) (Sum.inl (j : Int)) = some (refO o)
  | [], _, _, _, _, h => by simp at h
  | e :: r, 0, j, o, hn, h => by
    have h : e = (j, o) := by simpa using h
    subst h
    rw [show encH ((j, o) :: r) = (Sum.inl (j : Int), refO o) :: encH r from rfl, valV_pos rfl]
  | e :: r, m + 1, j, o, hn, h => by
    have hn' : e.1 ∉ r.map (·.1) ∧ (r.map (·.1)).Nodup := List.nodup_cons.mp hn
    have h : r[m]? = some (j, o) := by simpa using h
    have hne : e.1 ≠ j := fun z => hn'.1 (by rw [z]; exact List.mem_map.mpr ⟨_, List.mem_of_getElem? h, rfl⟩)
    rw [show encH (e :: r) = (Sum.inl (e.1 : Int), refO e.2) :: encH r from rfl, valV_neg (fun z => hne (by have : (e.1 : Int) = (j : Int) := Sum.inl.inj z; omega)), encH_at hn'.2 h]
theorem encH_put {hs : Hs} {j : Nat} {a : Addr} {p : Part} (h : j ∉ hs.map (·.1)) : putK (encH hs) (Sum.inl (j : Int)) (.ref a) = encH (hs ++ [(j, some (a, p))]) := by
  rw [putK_new _ (encH_val h)]
  unfold encH
  rw [List.map_append]
  rfl
theorem nd_at {hs : Hs} (hn : (hs.map (·.1)).Nodup) {m m' i : Nat} {o o' : Option (Addr × Part)} (h : hs[m]? = some (i, o)) (h' : hs[m']? = some (i, o')) : m = m' := by
  have e1 : (hs.map (·.1))[m]? = some i := by rw [List.getElem?_map, h]; rfl
  have e2 : (hs.map (·.1))[m']? = some i := by rw [List.getElem?_map, h']; rfl
  have l1 : m < (hs.map (·.1)).length := (List.getElem?_eq_some_iff.mp e1).1
  exact (List.getElem?_inj l1 hn).mp (e1.trans e2.symm)
theorem nodup_lt : ∀ (n : Nat) (l : List Nat), l.Nodup → (∀ x ∈ l, x < n) → l.length ≤ n
  | 0, l, _, h => by
    cases l with
    | nil => exact Nat.le_refl _
    | cons x r => exact absurd (h x List.mem_cons_self) (Nat.not_lt_zero _)
  | n + 1, l, hn, h => by
    by_cases hm : n ∈ l
    · have h1 := nodup_lt n (l.erase n) (hn.erase n) fun x hx => by
        have h2 := (hn.mem_erase_iff).mp hx
        have := h x h2.2
        omega
      rw [List.length_erase_of_mem hm] at h1
      omega
    · have h1 := nodup_lt n l hn fun x hx => by
        have := h x hx
        have : x ≠ n := fun z => hm (by rw [← z]; exact hx)
        omega
      omega
theorem len_le {hs : Hs} {n : Nat} (hn : (hs.map (·.1)).Nodup) (hb : ∀ e ∈ hs, e.1 < n) : hs.length ≤ n := by
  have h1 := nodup_lt n (hs.map (·.1)) hn fun x hx => by
    obtain ⟨e, he, rfl⟩ := List.mem_map.mp hx
    exact hb e he
  rw [List.length_map] at h1
  exact h1
structure SpI (rows : List Row) (wants : List Want) (G : List (List Row)) (k at_ : Nat) (Pn : List Row) (hs : Hs) : Prop where
  h0 : hs[0]? = some (k, none)
  hn : (hs.map (·.1)).Nodup
  hb : ∀ e ∈ hs, e.1 < wants.length
  pn : Nd Pn
  p2 : ∀ p x, gvo Pn p = some x → ∃ (m i : Nat) (o : Option (Addr × Part)) (wt : Want), m ≤ at_ ∧ hs[m]? = some (i, o) ∧ x = (i : Int) ∧ wants[i]? = some wt ∧ (wtP wt).1 p = true
  h3 : ∀ (m j : Nat) (o : Option (Addr × Part)), hs[m + 1]? = some (j, o) → ∃ (a : Addr) (p : Part) (m' i : Nat) (o' : Option (Addr × Part)), o = some (a, p) ∧ m' ≤ m ∧ hs[m']? = some (i, o') ∧ gvo Pn p = some (i : Int) ∧ ∃ g, G[j]? = some g ∧ 0 < cnt g p
  c1 : ∀ (m i : Nat) (o : Option (Addr × Part)) (wt : Want), m < at_ → hs[m]? = some (i, o) → wants[i]? = some wt → ∀ p, (wtP wt).1 p = true → p ∈ Pn.map (·.1) ∨ cnt rows p = 0
def Done (G : List (List Row)) (L : List Row) (hs : Hs) (p : Part) : Prop := cnt L p ≤ 0 ∧ ∀ (j : Nat) (g : List Row), G[j]? = some g → j ∉ hs.map (·.1) → cnt g p ≤ 0
theorem Done.grow {G : List (List Row)} {L : List Row} {hs : Hs} {e : Nat × Option (Addr × Part)} {p : Part} (h : Done G L hs p) : Done G L (hs ++ [e]) p :=
  ⟨h.1, fun j g hg hj => h.2 j g hg fun z => hj (by rw [List.map_append]; exact List.mem_append_left _ z)⟩
theorem SpI.begin {rows : List Row} {wants : List Want} {G : List (List Row)} {k : Nat} (hk : k < wants.length) : SpI rows wants G k 0 [] [(k, none)] :=
  ⟨rfl, by simp, (fun e he => by rw [List.mem_singleton.mp he]; exact hk), List.nodup_nil, (fun p x h => by cases h), (fun m j o h => by simp at h), (fun m i o wt h => by omega)⟩
/-- a part more, reached from the place at_ -/
theorem SpI.part {rows : List Row} {wants : List Want} {G : List (List Row)} {k at_ : Nat} {Pn : List Row} {hs : Hs} (S : SpI rows wants G k at_ Pn hs) {i : Nat} {o : Option (Addr × Part)} {wt : Want} {p : Part} (h1 : hs[at_]? = some (i, o)) (h2 : wants[i]? = some wt) (h3 : (wtP wt).1 p = true)
    (hnew : p ∈ Pn.map (·.1) → gvo Pn p = some (i : Int)) : SpI rows wants G k at_ (pin Pn p (i : Int)) hs := by
  refine ⟨S.h0, S.hn, S.hb, pin_nd S.pn, fun q x hx => ?_, fun m j o' hj => ?_, fun m i' o' wt' hm a b q hq => ?_⟩
  · rw [gvo_pin] at hx
    by_cases e : q = p
    · rw [if_pos e] at hx
      rw [e]
      exact ⟨at_, i, o, wt, Nat.le_refl _, h1, (Option.some.inj hx).symm, h2, h3⟩
    · rw [if_neg e] at hx
      exact S.p2 q x hx
  · obtain ⟨a, q, m', i', o'', e1, e2, e3, e4, e5⟩ := S.h3 m j o' hj
    refine ⟨a, q, m', i', o'', e1, e2, e3, ?_, e5⟩
    rw [gvo_pin]
    by_cases e : q = p
    · rw [if_pos e]
      have := hnew (by rw [← e]; exact get_key e4)
      rw [e] at e4
      rw [this] at e4
      exact e4
    · rw [if_neg e]; exact e4
  · rcases S.c1 m i' o' wt' hm a b q hq with z | z
    · exact .inl (pin_mem_key.mpr (.inr z))
    · exact .inr z
/-- a holder more -/
theorem SpI.holder {rows : List Row} {wants : List Want} {G : List (List Row)} {k at_ : Nat} {Pn : List Row} {hs : Hs} (S : SpI rows wants G k at_ Pn hs) (hat : at_ < hs.length) {i j : Nat} {o : Option (Addr × Part)} {a : Addr} {p : Part} {g : List Row} (h1 : hs[at_]? = some (i, o)) (h2 : gvo Pn p = some (i : Int)) (hj : j ∉ hs.map (·.1))
    (hjl : j < wants.length) (hg : G[j]? = some g) (hc : 0 < cnt g p) : SpI rows wants G k at_ Pn (hs ++ [(j, some (a, p))]) := by
  have old : ∀ {m : Nat}, m < hs.length → (hs ++ [(j, some (a, p))])[m]? = hs[m]? := fun h => by rw [List.getElem?_append_left h]
  have lt : ∀ {m : Nat} {e : Nat × Option (Addr × Part)}, hs[m]? = some e → m < hs.length := fun h => (List.getElem?_eq_some_iff.mp h).1
  refine ⟨by rw [old (by omega)]; exact S.h0, ?_, fun e he => ?_, S.pn, fun q x hx => ?_, fun m j' o' hm => ?_, fun m i' o' wt' hm hi' hw' q hq => ?_⟩
  · rw [List.map_append, List.nodup_append]
    exact ⟨S.hn, by simp, fun x hx y hy e => hj (by
      have hy' : y = j := by simpa using hy
      rw [← hy', ← e]
      exact hx)⟩
  · rcases List.mem_append.mp he with z | z
    · exact S.hb e z
    · rw [List.mem_singleton.mp z]; exact hjl
  · obtain ⟨m, i', o', wt, e1, e2, e3⟩ := S.p2 q x hx
    exact ⟨m, i', o', wt, e1, by rw [old (lt e2)]; exact e2, e3⟩
  · by_cases hlt : m + 1 < hs.length
    · rw [old hlt] at hm
      obtain ⟨a', q, m', i', o'', e1, e2, e3, e4⟩ := S.h3 m j' o' hm
      exact ⟨a', q, m', i', o'', e1, e2, by rw [old (lt e3)]; exact e3, e4⟩
    · have hm1 : m + 1 = hs.length := by
        have := (List.getElem?_eq_some_iff.mp hm).1
        rw [List.length_append] at this
        have : m + 1 < hs.length + 1 := this
        omega
      rw [hm1, List.getElem?_append_right (Nat.le_refl _), Nat.sub_self] at hm
      have hm : (j, some (a, p)) = (j', o') := by simpa using hm
      cases hm
      exact ⟨a, p, at_, i, o, rfl, by omega, by rw [old hat]; exact h1, h2, g, hg, hc⟩
  · rw [old (by omega)] at hi'
    exact S.c1 m i' o' wt' hm hi' hw' q hq
/-- behind a place -/
theorem SpI.next {rows : List Row} {wants : List Want} {G : List (List Row)} {k at_ : Nat} {Pn : List Row} {hs : Hs} (S : SpI rows wants G k at_ Pn hs) (hc : ∀ (i : Nat) (o : Option (Addr × Part)) (wt : Want), hs[at_]? = some (i, o) → wants[i]? = some wt → ∀ p, (wtP wt).1 p = true → p ∈ Pn.map (·.1) ∨ cnt rows p = 0) : SpI rows wants G k (at_ + 1) Pn hs :=
  ⟨S.h0, S.hn, S.hb, S.pn, fun p x h => by
    obtain ⟨m, i, o, wt, e1, e2⟩ := S.p2 p x h
    exact ⟨m, i, o, wt, by omega, e2⟩, S.h3, fun m i o wt hm a b => by
    by_cases e : m = at_
    · subst e
      exact hc i o wt a b
    · exact S.c1 m i o wt (by omega) a b⟩
/-- what the search brings -/
def SpEnd (rows : List Row) (wants : List Want) (G : List (List Row)) (L : List Row) (k : Nat) (Pn : List Row) (hs : Hs) (o : Option Part) : Prop :=
  ∃ at_, SpI rows wants G k at_ Pn hs ∧ match o with
    | none => hs.length ≤ at_ ∧ ∀ p ∈ Pn.map (·.1), Done G L hs p
    | some p => p ∈ Pn.map (·.1) ∧ 0 < cnt L p
theorem SpEnd.stuck {rows : List Row} {wants : List Want} {G : List (List Row)} {L : List Row} {k : Nat} {Pn : List Row} {hs : Hs} (h : SpEnd rows wants G L k Pn hs none) {lk : List Int} (F : Flow (cnt rows) (wants.map wtP) G L lk) {x : Int} (hk : lk[k]? = some x) (hx : 0 < x) : ¬ Deals (cnt rows) (wants.map wtP) := by
  obtain ⟨at_, S, hl, hd⟩ := h
  refine F.stuck (fun j => decide (j ∈ hs.map (·.1))) (fun p => decide (p ∈ Pn.map (·.1))) hk hx ?_ ?_ ?_ ?_
  · exact decide_eq_true (List.mem_map.mpr ⟨_, List.mem_of_getElem? S.h0, rfl⟩)
  · intro j w hj hR p hp
    obtain ⟨e, he, rfl⟩ := List.mem_map.mp (of_decide_eq_true hR)
    obtain ⟨m, hm, hme⟩ := List.getElem_of_mem he
    rw [List.getElem?_map, Option.map_eq_some_iff] at hj
    obtain ⟨wt, hwt, rfl⟩ := hj
    rcases S.c1 m e.1 e.2 wt (by omega) (by rw [List.getElem?_eq_getElem hm, hme]) hwt p hp with z | z
    · exact .inl (decide_eq_true z)
    · exact .inr (by omega)
  · intro p hp
    exact (hd p (of_decide_eq_true hp)).1
  · intro j g hg hR p hp
    exact (hd p (of_decide_eq_true hp)).2 j g hg (of_decide_eq_false hR)
end K70

end
section
set_option maxRecDepth 100000
set_option maxHeartbeats 4000000
/-! spread. -/
namespace K70
open PySem PySem.Spec PyProof.Rows L2 K70M
def DAt (H : Hp) (a : Addr) (g : List Row) : Prop := H a = some (.dT (encI g))
theorem DAt.mono : Mono DAt := fun H H' a b s h => s _ _ h
theorem DGet.tg {H : Hp} {a b : Addr} {c : List Row} {p : Part} (e : H a = some (.dT (encI c))) (eb : PartAt H b p) : DGet H a (.ref b) ((gvo c p).map V.int) := by
  have := DGet.t (k := pk p) e (show H b = some (.tup ((pk p).map kV)) from eb)
  rw [enc_val] at this
  exact this
theorem getD_cnt {c : List Row} (hn : Nd c) (p : Part) : ((gvo c p).map V.int).getD (.int 0) = .int (cnt c p) := by
  rw [cnt_get hn]
  cases gvo c p <;> rfl
def partV (H : Hp) (v : V) : Option Part → Prop
  | none => v = .non
  | some p => ∃ a, v = .ref a ∧ PartAt H a p
def HsAt (H : Hp) (hs : Hs) : Prop := ∀ e ∈ hs, ∀ x, e.2 = some x → PartAt H x.1 x.2
theorem HsAt.mono {H H' : Hp} {hs : Hs} (s : Same H H') (h : HsAt H hs) : HsAt H' hs := fun e he x hx => s _ _ (h e he x hx)
def spSpread (C : Addr) : Sp := fun vs H Q _ => ∃ (h wa ga l : Addr) (k : Nat) (rows : List Row) (wants : List Want) (gas : List Addr) (G : List (List Row)) (L : List Row), vs = [.ref h, .ref wa, .ref ga, .ref l, .int (k : Int)] ∧
  HeapAt C H h rows ∧ rows.length ≤ 1000 ∧ WantsAt H wa wants ∧ wants.length ≤ 60 ∧ (∀ w ∈ wants, w.2.1.length ≤ 1000) ∧ H ga = some (.lst (gas.map V.ref)) ∧ Paired (DAt H) gas G ∧ G.length = wants.length ∧ H l = some (.dT (encI L)) ∧ Nd L ∧ (∀ g ∈ G, Nd g) ∧ k < wants.length ∧
  ∀ (r pd hd : Addr) (Pn : List Row) (hs : Hs) (o : Option Part) (v : V) (H' : Hp), Same H H' → H' r = some (.tup [.ref pd, .ref hd, v]) → H pd = none → H hd = none → H' pd = some (.dT (encI Pn)) → H' hd = some (.dK (encH hs)) → HsAt H' hs → SpEnd rows wants G L k Pn hs o → partV H' v o → Q (.ref r) H'
/-- the search's things as they stand -/
structure SpH (H0 H : Hp) (pd hd fr : Addr) (Pn : List Row) (hs : Hs) : Prop where
  s : Same H0 H
  p : H pd = some (.dT (encI Pn))
  h : H hd = some (.dK (encH hs))
  f : H fr = some (.lst (hs.map fun e => V.int (e.1 : Int)))
  ps : HsAt H hs
theorem SpH.up {H0 H H' : Hp} {pd hd fr : Addr} {Pn : List Row} {hs : Hs} (S : SpH H0 H pd hd fr Pn hs) (s : Same H H') : SpH H0 H' pd hd fr Pn hs := ⟨S.s.trans s, s _ _ S.p, s _ _ S.h, s _ _ S.f, S.ps.mono s⟩
theorem SpH.part {H0 H : Hp} {pd hd fr : Addr} {Pn Pn' : List Row} {hs : Hs} (S : SpH H0 H pd hd fr Pn hs) (n : H0 pd = none) : SpH H0 (upd H pd (.dT (encI Pn'))) pd hd fr Pn' hs :=
  ⟨same_put S.s n, upd_same, by rw [upd_ne (ne_of S.h S.p (by intro z; cases z))]; exact S.h, by rw [upd_ne (ne_of S.f S.p (by intro z; cases z))]; exact S.f, fun e he x hx => by
    have q := S.ps e he x hx
    show upd H pd _ x.1 = _
    rw [upd_ne (ne_of q S.p (by intro z; cases z))]
    exact q⟩
theorem SpH.holder {H0 H : Hp} {pd hd fr : Addr} {Pn : List Row} {hs : Hs} (S : SpH H0 H pd hd fr Pn hs) (n1 : H0 hd = none) (n2 : H0 fr = none) {j : Nat} {a : Addr} {p : Part} (hp : PartAt H a p) :
    SpH H0 (upd (upd H hd (.dK (encH (hs ++ [(j, some (a, p))])))) fr (.lst ((hs ++ [(j, some (a, p))]).map fun e => V.int (e.1 : Int)))) pd hd fr Pn (hs ++ [(j, some (a, p))]) := by
  have n3 : hd ≠ fr := ne_of S.h S.f (by intro z; cases z)
  refine ⟨same_put (same_put S.s n1) n2, ?_, ?_, upd_same, fun e he x hx => ?_⟩
  · rw [upd_ne (ne_of S.p S.f (by intro z; cases z)), upd_ne (ne_of S.p S.h (by intro z; cases z))]
    exact S.p
  · rw [upd_ne n3, upd_same]
  · have q : PartAt H x.1 x.2 := by
      rcases List.mem_append.mp he with z | z
      · exact S.ps e z x hx
      · rw [List.mem_singleton.mp z] at hx
        rw [← Option.some.inj hx]
        exact hp
    show upd (upd H hd _) fr _ x.1 = _
    rw [upd_ne (ne_of q S.f (by intro z; cases z)), upd_ne (ne_of q S.h (by intro z; cases z))]
    exact q
section
variable {P : Program} {w : World} {K : PySem.W.Frag} {mg : Str → Option Value} {base : Heap}
theorem ok_spread {f C : Addr} {fd : FuncData} (F : Fun K "spread" "spread" s_spread f fd) (B : BT mg) (le : Cl P w K mg base CX0 2 "lets" ["heap", "want"] [] (spLets C)) :
    FnOk P w K mg base CX0 3 f fd ["heap", "wants", "gifts", "left", "k"] (spSpread C) := by
  refine F.ok sc_spread (fun vs H Q E h => ?_) (fun cdv A outer s H vs Q E hr h => ?_)
  · obtain ⟨_, _, _, _, _, _, _, _, _, _, rfl, _⟩ := h
    rfl
  · obtain ⟨h, wa, ga, l, k, rows, wants, gas, G, L, rfl, hh, hlen, hw, hwl, hws, hga, hG, hGl, hl, hLn, hGn, hk, kk⟩ := h
    have hu := hu_of hr
    have nd := sc_spread.nd
    refine ⟨_, pss_cons (ps_set (i := 5) nd rfl (Or.inr rfl) pe_dnewT)
      (pss_cons (ps_set (i := 6) nd rfl (Or.inl rfl) (pe_disp (pps_cons (pv 4) pe_non pps_nil) (by rfl) (by rfl) (fun z => by cases z) (by decide)))
      (pss_cons (ps_set (i := 7) nd rfl (Or.inl rfl) (pe_lst (pa_cons (pv 4) pa_nil)))
      (pss_cons (ps_set (i := 8) nd rfl (Or.inl rfl) pe_int)
      (pss_cons (ps_while PassesOwn.never (pt_cmpR op_lt (pv 8) (pe_callB call_len_seq (by rfl) B.len PySem.boot_len (pa_cons (pv 7) pa_nil)) (nomark _))
        (pss_cons (ps_for PassesOwn.never rfl (pi_list
            (pe_lc (own := [("part", 9)]) (g := gName 9) rfl nd (pi_list (pe_k le hr rfl pass0 (pa_cons (pv 0) (pa_cons (pe_ix ix_tup (pv 1) (pe_ix ix_list (pv 7) (pv 8) (fun _ _ => rfl)) (fun _ _ => rfl)) pa_nil))))
              (blkOk_by (N := ["heap", "wants", "gifts", "left", "k", "parts", "holders", "front", "at", "part", "other"]) (sc := defScope s_spread) (by decide +kernel))
              (fun _ _ _ _ _ => pg_name (i := 9) nd rfl (Or.inl rfl)) (fun _ _ _ _ _ => pts_one (pt_cmp (pc_dnotin hu (pv 9) (pv 5)))) (fun _ _ _ _ _ => pv 9)))
            (pg_name (i := 9) nd rfl (Or.inl rfl))
          (pss_cons (ps_dput hu (pv 5) (pv 9) (pe_ix ix_list (pv 7) (pv 8) (fun _ _ => rfl)) rfl)
          (pss_cons (ps_if (pt_cmpR op_gt (pe_dget2 hu (pv 3) (pv 9) pe_int ⟨rfl, rfl, rfl, rfl⟩) pe_int (nomark _)) (pss_one (ps_ret (pe_tup (pa_cons (pv 5) (pa_cons (pv 6) (pa_cons (pv 9) pa_nil)))))) pss_nil)
          (pss_one (ps_for PassesOwn.never rfl (pi_range1 rfl B.range (pa_cons (pe_callB call_len_seq (by rfl) B.len PySem.boot_len (pa_cons (pv 1) pa_nil)) pa_nil)) (pg_name (i := 10) nd rfl (Or.inl rfl))
            (pss_one (ps_if (PW.pt (pw_and (pt_cmp (pc_dnotin hu (pv 10) (pv 6))) (pw_and1 (pt_cmpR op_gt (pe_dget2 hu (pe_ix ix_list (pv 2) (pv 10) (fun _ _ => rfl)) (pv 9) pe_int ⟨rfl, rfl, rfl, rfl⟩) pe_int (nomark _)))))
              (pss_cons (ps_dput hu (pv 6) (pv 10) (pv 9) rfl)
              (pss_one (ps_expr (pe_bm PySem.F.plainAttrs_list PySem.F.slot_list_append PySem.F.type_list_append mt_append (pv 7) (pa_cons (pv 10) pa_nil)))))
              pss_nil)))))))
        (pss_one (ps_set (i := 8) nd rfl (Or.inl rfl) (pe_op op_add (pv 8) pe_int)))))
      (pss_one (ps_ret (pe_tup (pa_cons (pv 5) (pa_cons (pv 6) (pa_cons pe_non pa_nil)))))))))), ?_⟩
    intro pd hpd
    have s1 := same_new (o := .dT []) hpd
    intro hd hhd
    have nph : pd ≠ hd := ne_of_none upd_same hhd
    refine ⟨_, rfl, upd_same, [(Sum.inl (k : Int), V.non)], rfl, (by show 1 ≤ 15; decide), ?_⟩
    refine ⟨_, rfl, (by show 1 ≤ sizeLine; decide), fun fr hfr => ?_⟩
    have hhd0 : H hd = none := s1.free hhd
    have nhf : hd ≠ fr := ne_of_none upd_same hfr
    have npf : pd ≠ fr := by
      refine ne_of_none (?_ : _ = some (.dT [])) hfr
      rw [upd_ne nph, upd_ne nph, upd_same]
    have hfr0 : H fr = none := by
      rw [upd_ne nhf.symm, upd_ne nhf.symm, upd_ne npf.symm] at hfr
      exact hfr
    have S0 : SpH H (upd (upd (upd (upd H pd (.dT [])) hd (.dK [])) hd (.dK (mergeK [] [(Sum.inl (k : Int), V.non)]))) fr (.lst [.int (k : Int)])) pd hd fr [] [(k, none)] := by
      refine ⟨same_put (same_put (same_put s1 hhd0) hhd0) hfr0, by rw [upd_ne npf, upd_ne nph, upd_ne nph, upd_same]; rfl, by rw [upd_ne nhf, upd_same]; rfl, by rw [upd_same]; rfl, fun e he x hx => ?_⟩
      rw [List.mem_singleton.mp he] at hx
      cases hx
    obtain ⟨was, hW, hWP⟩ := id hw
    have lw : (was.map V.ref).length = wants.length := by rw [List.length_map]; exact hWP.length
    have lg : gas.length = G.length := hG.length
    refine ⟨fun m σ H2 => ∃ (at_ : Nat) (Pn : List Row) (hs : Hs) (a b : Option V), σ = [some (.ref h), some (.ref wa), some (.ref ga), some (.ref l), some (.int (k : Int)), some (.ref pd), some (.ref hd), some (.ref fr), some (.int (at_ : Int)), a, b] ∧ SpH H H2 pd hd fr Pn hs ∧ SpI rows wants G k at_ Pn hs ∧
        (∀ p ∈ Pn.map (·.1), Done G L hs p) ∧ at_ ≤ hs.length ∧ Pn.length ≤ 1000 * at_ ∧ m = 100 - at_, ⟨100, 0, [], [(k, none)], none, none, rfl, S0, SpI.begin hk, (fun p hp => by cases hp), Nat.zero_le _, Nat.le_refl _, rfl⟩, ?_⟩
    rintro m σ H2 ⟨at_, Pn, hs, a, b, rfl, S, I, hD, hat, hPl, hm⟩
    have lhs : hs.length ≤ 60 := Nat.le_trans (len_le I.hn I.hb) hwl
    refine ⟨_, rfl, _, rfl, fr, _, rfl, .inl (SqL.of S.f), _, _, rfl, rfl, _, rfl, ?_⟩
    rw [List.length_map]
    by_cases hlt : at_ < hs.length
    · rw [decide_eq_true (show (at_ : Int) < (hs.length : Int) by omega)]
      refine iteT ?_
      have hse : hs[at_]? = some hs[at_] := List.getElem?_eq_getElem hlt
      obtain ⟨i0, o0, hse⟩ : ∃ i0 o0, hs[at_]? = some (i0, o0) := ⟨_, _, hse⟩
      have hi0 : i0 < wants.length := I.hb _ (List.mem_of_getElem? hse)
      obtain ⟨wt, hwt⟩ : ∃ wt, wants[i0]? = some wt := ⟨_, List.getElem?_eq_getElem hi0⟩
      have hfr : (hs.map fun e => V.int (e.1 : Int))[at_]? = some (.int (i0 : Int)) := by rw [List.getElem?_map, hse]; rfl
      obtain ⟨wad, _, hwad, hwA⟩ := pgetB hWP hwt
      have hwsl := hws wt (List.mem_of_getElem? hwt)
      refine ⟨_, fun _ _ z => z, ?_⟩
      refine ⟨_, rfl, _, rfl, _, rfl, _, rfl, fr, _, (at_ : Int), _, rfl, rfl, SqL.of S.f, atI_nat hfr, wa, _, (i0 : Int), _, rfl, rfl, SqT.of (S.s _ _ hW), atI_nat hwad, ?_⟩
      refine ⟨h, wad, rows, wt, rfl, hh.mono _ _ _ _ S.s, hlen, hwA.mono _ _ _ _ S.s, hwsl, fun l0 ps0 H3 hl0 s3 hLst hp1 hp2 hp3 => ?_⟩
      obtain ⟨cas, hcas, hcP⟩ := hLst
      have lc0 : cas.length = ps0.length := hcP.length
      refine ⟨l0, rfl, ⟨_, SqL.of hcas⟩, fun D hDn => ?_⟩
      have S3 := S.up s3
      refine lc_list (K := K) (a := l0) (xs := cas.map V.ref) (fun i H4 => Same H3 H4 ∧ ∃ (bs : List Addr) (ps : List Part), H4 D = some (.lst (bs.map V.ref)) ∧ Paired (PartAt H4) bs ps ∧ ps.length ≤ i ∧ (∀ p ∈ ps, p ∉ Pn.map (·.1) ∧ p ∈ ps0) ∧ ∀ p ∈ ps0.take i, p ∈ ps ∨ p ∈ Pn.map (·.1))
        ⟨same_new hDn, [], [], upd_same, .nil, Nat.le_refl _, (fun p hp => by cases hp), (fun p hp => by cases hp)⟩ (fun i H4 _ ⟨z, _⟩ => SqL.of (z _ _ hcas)) ?_ ?_
      · rintro i x H4 hi ⟨s4, bs, ps, hb, hbP, hpl, hps1, hps2⟩
        obtain ⟨pa, p, g1, g2, rfl, g3⟩ := pget hcP hi
        have hil : i < ps0.length := (List.getElem?_eq_some_iff.mp g2).1
        have S4 := S3.up s4
        have hpa := PartAt.mono _ _ _ _ s4 g3
        have tk : ∀ q ∈ ps0.take (i + 1), q ∈ ps0.take i ∨ q = p := fun q hq => by
          rw [take_snoc g2] at hq
          rcases List.mem_append.mp hq with z | z
          · exact .inl z
          · exact .inr (List.mem_singleton.mp z)
        refine ⟨rfl, _, rfl, _, rfl, pd, _, rfl, DGet.tg S4.p hpa, _, rfl, ?_⟩
        cases hq : gvo Pn p with
        | some x0 =>
          refine ⟨s4, bs, ps, hb, hbP, by omega, hps1, fun q hq' => ?_⟩
          rcases tk q hq' with z | z
          · exact hps2 q z
          · rw [z]; exact .inr (get_key hq)
        | none =>
          refine ⟨_, rfl, bs.map V.ref, hb, by rw [List.length_map, hbP.length, sizeLine_eq]; omega, same_put s4 hDn, bs ++ [pa], ps ++ [p], by rw [upd_same, List.map_append]; rfl, ?_, by rw [List.length_append]; show ps.length + 1 ≤ i + 1; omega, fun q hq' => ?_, fun q hq' => ?_⟩
          · have up : ∀ a r, PartAt H4 a r → PartAt (upd H4 D (.lst (bs.map V.ref ++ [.ref pa]))) a r := fun a r hr => by
              show upd H4 D _ a = _
              rw [upd_ne (ne_of hr hb (by intro z; cases z))]
              exact hr
            exact Paired_snoc (Paired_mono up hbP) (up _ _ hpa)
          · rcases List.mem_append.mp hq' with z | z
            · exact hps1 q z
            · rw [List.mem_singleton.mp z]; exact ⟨K70M.get_none hq, List.mem_of_getElem? g2⟩
          · rcases tk q hq' with z | z
            · rcases hps2 q z with y | y
              · exact .inl (List.mem_append_left _ y)
              · exact .inr y
            · rw [z]; exact .inl (List.mem_append_right _ List.mem_cons_self)
      · rintro H4 ⟨s4, bs, ps, hb, hbP, hpl, hps1, hps2⟩
        rw [List.length_map, lc0] at hpl hps2
        rw [List.take_length] at hps2
        have S4 := S3.up s4
        have lbp : (bs.map V.ref).length = ps.length := by rw [List.length_map]; exact hbP.length
        refine ⟨D, rfl, ⟨_, SqL.of hb⟩, ?_⟩
        -- the walk over the new parts
        refine for_list (K := K) (a := D) (xs := bs.map V.ref) (fun i σ H5 => ∃ (Pn' : List Row) (hs' : Hs) (a b : Option V), σ = [some (.ref h), some (.ref wa), some (.ref ga), some (.ref l), some (.int (k : Int)), some (.ref pd), some (.ref hd), some (.ref fr), some (.int (at_ : Int)), a, b] ∧ SpH H H5 pd hd fr Pn' hs' ∧ SpI rows wants G k at_ Pn' hs' ∧
            (∀ p ∈ Pn'.map (·.1), Done G L hs' p) ∧ at_ < hs'.length ∧ hs'[at_]? = some (i0, o0) ∧ Pn'.length ≤ Pn.length + i ∧ H5 D = some (.lst (bs.map V.ref)) ∧ Paired (PartAt H5) bs ps ∧ (∀ p ∈ Pn.map (·.1), p ∈ Pn'.map (·.1)) ∧ (∀ p ∈ Pn'.map (·.1), p ∈ Pn.map (·.1) ∨ (p ∈ ps ∧ gvo Pn' p = some (i0 : Int))) ∧ ∀ p ∈ ps.take i, p ∈ Pn'.map (·.1))
          ⟨Pn, hs, _, _, rfl, S4, I, hD, hlt, hse, Nat.le_refl _, hb, hbP, (fun p hp => hp), (fun p hp => .inl hp), (fun p hp => by cases hp)⟩ (fun i σ H5 _ ⟨_, _, _, _, _, _, _, _, _, _, _, z, _⟩ => SqL.of z) ?_ ?_
        · rintro i x σ H5 hi ⟨Pn', hs', a, b, rfl, S5, I5, hD5, hat5, hse5, hPl5, hb5, hbP5, hin1, hin2, hin3⟩
          obtain ⟨pa, p, g1, g2, rfl, hpa⟩ := pget hbP5 hi
          have hil : i < ps.length := (List.getElem?_eq_some_iff.mp g2).1
          have hpps := List.mem_of_getElem? g2
          have hp0 := hps1 p hpps
          have hlet := hp1 p hp0.2
          have hfr5 : (hs'.map fun e => V.int (e.1 : Int))[at_]? = some (.int (i0 : Int)) := by rw [List.getElem?_map, hse5]; rfl
          have lhs5 : hs'.length ≤ 60 := Nat.le_trans (len_le I5.hn I5.hb) hwl
          -- parts[part] = front[at]
          refine ⟨_, rfl, _, rfl, fr, _, (at_ : Int), _, rfl, rfl, SqL.of S5.f, atI_nat hfr5, _, rfl, _, rfl, pd, _, rfl, DPut.t (b := pa) (k := pk p) S5.p hpa (by rw [enc_len, sizeLine_eq]; omega), ?_⟩
          rw [enc_put]
          have S6 : SpH H (upd H5 pd (.dT (encI (pin Pn' p (i0 : Int))))) pd hd fr (pin Pn' p (i0 : Int)) hs' := S5.part hpd
          have hnew : p ∈ Pn'.map (·.1) → gvo Pn' p = some (i0 : Int) := fun hm => by
            rcases hin2 p hm with z | z
            · exact absurd z hp0.1
            · exact z.2
          have I6 : SpI rows wants G k at_ (pin Pn' p (i0 : Int)) hs' := I5.part hse5 hwt hlet hnew
          have npD : D ≠ pd := ne_of hb5 S5.p (by intro z; cases z)
          have tupk : ∀ a r, PartAt H5 a r → PartAt (upd H5 pd (.dT (encI (pin Pn' p (i0 : Int))))) a r := fun a r hr => by
            show upd H5 pd _ a = _
            rw [upd_ne (ne_of hr S5.p (by intro z; cases z))]
            exact hr
          have hpa6 := tupk _ _ hpa
          have hb6 : (upd H5 pd (.dT (encI (pin Pn' p (i0 : Int))))) D = some (.lst (bs.map V.ref)) := by rw [upd_ne npD]; exact hb5
          have hbP6 := Paired_mono tupk hbP5
          have gp : gvo (pin Pn' p (i0 : Int)) p = some (i0 : Int) := by rw [gvo_pin, if_pos rfl]
          have pl6 : (pin Pn' p (i0 : Int)).length ≤ Pn.length + (i + 1) := by have := pin_len (c := Pn') (p := p) (x := (i0 : Int)); omega
          -- left.get(part, 0) > 0
          refine ⟨_, rfl, l, rfl, .inr ⟨_, .inl (S6.s _ _ hl)⟩, _, rfl, _, DGet.tg (S6.s _ _ hl) hpa6, ?_⟩
          rw [getD_cnt hLn]
          refine ⟨_, _, rfl, rfl, _, rfl, ?_⟩
          refine ite2 (fun c => ?_) (fun c => ?_)
          · have c : 0 < cnt L p := by simpa using c
            refine ⟨_, rfl, _, rfl, _, rfl, (by show 3 ≤ sizeLine; decide), fun r hr' => ?_⟩
            have s7 := same_new (o := .tup [.ref pd, .ref hd, .ref pa]) hr'
            have S7 := S6.up s7
            exact kk r pd hd _ hs' (some p) (.ref pa) _ S7.s upd_same hpd hhd0 S7.p S7.h S7.ps ⟨at_, I6, pin_mem_key.mpr (.inl rfl), c⟩ ⟨pa, rfl, s7 _ _ hpa6⟩
          · have c : cnt L p ≤ 0 := by
              have : ¬ 0 < cnt L p := by simpa using c
              omega
            refine ⟨_, rfl, wa, _, rfl, .inr (SqT.of (S6.s _ _ hW)), _, rfl, by omega, by rw [lw]; omega, ?_⟩
            -- for other in range(len(wants))
            refine for_range (lo := 0) (n := (was.map V.ref).length) (fun j σ H7 => ∃ (hs7 : Hs) (b : Option V), σ = [some (.ref h), some (.ref wa), some (.ref ga), some (.ref l), some (.int (k : Int)), some (.ref pd), some (.ref hd), some (.ref fr), some (.int (at_ : Int)), some (.ref pa), b] ∧ SpH H H7 pd hd fr (pin Pn' p (i0 : Int)) hs7 ∧ SpI rows wants G k at_ (pin Pn' p (i0 : Int)) hs7 ∧
                (∀ q ∈ Pn'.map (·.1), Done G L hs7 q) ∧ at_ < hs7.length ∧ hs7[at_]? = some (i0, o0) ∧ H7 D = some (.lst (bs.map V.ref)) ∧ Paired (PartAt H7) bs ps ∧ ∀ (j' : Nat) (g : List Row), j' < j → G[j']? = some g → j' ∉ hs7.map (·.1) → cnt g p ≤ 0)
              ⟨hs', _, rfl, S6, I6, hD5, hat5, hse5, hb6, hbP6, (fun j' g h1 => by omega)⟩ ?_ ?_
            · rintro j σ H7 hj ⟨hs7, b7, rfl, S7, I7, hD7, hat7, hse7, hb7, hbP7, hdone7⟩
              rw [lw] at hj
              have ej : (0 : Int) + (j : Int) = (j : Int) := by omega
              rw [ej]
              have hpa7 : PartAt H7 pa p := by
                obtain ⟨pa', q1, q2, q3⟩ := pgetB hbP7 g2
                rw [g1] at q1
                cases q1
                exact q3
              have lhs7 : hs7.length ≤ 60 := Nat.le_trans (len_le I7.hn I7.hb) hwl
              obtain ⟨g, hg⟩ : ∃ g, G[j]? = some g := ⟨_, List.getElem?_eq_getElem (by omega)⟩
              obtain ⟨gad, _, hgad, hgA⟩ := pgetB hG hg
              have ng := hGn g (List.mem_of_getElem? hg)
              by_cases hjm : j ∈ hs7.map (·.1)
              · obtain ⟨⟨j1, o1⟩, he, hej⟩ := List.mem_map.mp hjm
                have hej : j1 = j := hej
                subst hej
                obtain ⟨mm, hmm, hme⟩ := List.getElem_of_mem he
                have hv := encH_at I7.hn (show hs7[mm]? = some (j1, o1) by rw [List.getElem?_eq_getElem hmm, hme])
                have dg := DGet.k (k := (Sum.inl (j1 : Int) : Key)) S7.h
                rw [hv] at dg
                refine ⟨_, rfl, _, rfl, hd, _, rfl, dg, _, rfl, ?_⟩
                refine iteF ?_
                refine iteF ?_
                refine ⟨hs7, _, rfl, S7, I7, hD7, hat7, hse7, hb7, hbP7, fun j' g' h1 h2 h3 => ?_⟩
                by_cases e : j' = j1
                · rw [e] at h3; exact absurd hjm h3
                · exact hdone7 j' g' (by omega) h2 h3
              · have dg := DGet.k (k := (Sum.inl (j : Int) : Key)) S7.h
                rw [encH_val hjm] at dg
                refine ⟨_, rfl, _, rfl, hd, _, rfl, dg, _, rfl, ?_⟩
                refine iteT ?_
                refine ⟨_, rfl, _, rfl, ga, _, (j : Int), _, rfl, rfl, SqL.of (S7.s _ _ hga), atI_nat hgad, gad, rfl, .inr ⟨_, .inl (S7.s _ _ hgA)⟩, _, rfl, _, DGet.tg (S7.s _ _ hgA) hpa7, ?_⟩
                rw [getD_cnt ng]
                refine ⟨_, _, rfl, rfl, _, rfl, ?_⟩
                refine ite2 (fun c2 => ?_) (fun c2 => ?_)
                · have c2 : 0 < cnt g p := by simpa using c2
                  refine ⟨_, rfl, _, rfl, _, rfl, hd, _, rfl, DPut.k (k := (Sum.inl (j : Int) : Key)) S7.h (by rw [encH_len, sizeLine_eq]; omega), ?_⟩
                  rw [encH_put (p := p) hjm]
                  have f1 : (upd H7 hd (.dK (encH (hs7 ++ [(j, some (pa, p))])))) fr = some (.lst (hs7.map fun e => V.int (e.1 : Int))) := by rw [upd_ne (ne_of S7.f S7.h (by intro z; cases z))]; exact S7.f
                  refine ⟨_, rfl, .inl ⟨rfl, _, SqL.of f1⟩, _, rfl, fr, _, _, rfl, rfl, f1, by rw [List.length_map, sizeLine_eq]; omega, ?_⟩
                  have S8 := S7.holder (j := j) hhd0 hfr0 hpa7
                  have em : (hs7.map fun e => V.int (e.1 : Int)) ++ [V.int (j : Int)] = (hs7 ++ [(j, some (pa, p))]).map fun e => V.int (e.1 : Int) := by rw [List.map_append]; rfl
                  rw [em]
                  have tupk8 : ∀ a r, PartAt H7 a r → PartAt (upd (upd H7 hd (.dK (encH (hs7 ++ [(j, some (pa, p))])))) fr (.lst ((hs7 ++ [(j, some (pa, p))]).map fun e => V.int (e.1 : Int)))) a r := fun a r hr => by
                    show upd (upd H7 hd _) fr _ a = _
                    rw [upd_ne (ne_of hr S7.f (by intro z; cases z)), upd_ne (ne_of hr S7.h (by intro z; cases z))]
                    exact hr
                  refine ⟨hs7 ++ [(j, some (pa, p))], _, rfl, S8, I7.holder hat7 hse7 gp hjm hj hg c2, (fun q hq => (hD7 q hq).grow), by rw [List.length_append]; omega, by rw [List.getElem?_append_left hat7]; exact hse7, ?_, Paired_mono tupk8 hbP7, fun j' g' h1 h2 h3 => ?_⟩
                  · rw [upd_ne (ne_of_none S3.f hDn).symm, upd_ne (ne_of hb7 S7.h (by intro z; cases z))]
                    exact hb7
                  · by_cases e : j' = j
                    · exfalso
                      apply h3
                      rw [e, List.map_append]
                      exact List.mem_append_right _ List.mem_cons_self
                    · exact hdone7 j' g' (by omega) h2 fun z => h3 (by rw [List.map_append]; exact List.mem_append_left _ z)
                · have c2 : cnt g p ≤ 0 := by
                    have : ¬ 0 < cnt g p := by simpa using c2
                    omega
                  refine ⟨hs7, _, rfl, S7, I7, hD7, hat7, hse7, hb7, hbP7, fun j' g' h1 h2 h3 => ?_⟩
                  by_cases e : j' = j
                  · rw [e, hg] at h2
                    cases h2
                    exact c2
                  · exact hdone7 j' g' (by omega) h2 h3
            · rintro σ H7 ⟨hs7, b7, rfl, S7, I7, hD7, hat7, hse7, hb7, hbP7, hdone7⟩
              rw [lw] at hdone7
              refine ⟨_, hs7, _, _, rfl, S7, I7, fun q hq => ?_, hat7, hse7, pl6, hb7, hbP7, fun q hq => pin_mem_key.mpr (.inr (hin1 q hq)), fun q hq => ?_, fun q hq => ?_⟩
              · by_cases e : q = p
                · rw [e]
                  exact ⟨c, fun j' g' h2 h3 => hdone7 j' g' (by have := (List.getElem?_eq_some_iff.mp h2).1; omega) h2 h3⟩
                · rcases pin_mem_key.mp hq with z | z
                  · exact absurd z e
                  · exact hD7 q z
              · rw [gvo_pin]
                by_cases e : q = p
                · rw [if_pos e, e]; exact .inr ⟨hpps, rfl⟩
                · rw [if_neg e]
                  rcases pin_mem_key.mp hq with z | z
                  · exact absurd z e
                  · exact hin2 q z
              · rw [take_snoc g2] at hq
                rcases List.mem_append.mp hq with z | z
                · exact pin_mem_key.mpr (.inr (hin3 q z))
                · exact pin_mem_key.mpr (.inl (List.mem_singleton.mp z))
        · rintro σ H5 ⟨Pn', hs', a, b, rfl, S5, I5, hD5, hat5, hse5, hPl5, hb5, hbP5, hin1, hin2, hin3⟩
          rw [lbp] at hPl5 hin3
          rw [List.take_length] at hin3
          refine ⟨_, rfl, _, _, rfl, rfl, ?_⟩
          refine ⟨100 - (at_ + 1), by omega, at_ + 1, Pn', hs', _, _, by rfl, S5, I5.next (fun i o wt' h1 h2 p hp => ?_), hD5, hat5, by omega, rfl⟩
          rw [hse5] at h1
          cases h1
          rw [hwt] at h2
          cases h2
          rcases hp2 p hp with z | z
          · rcases hps2 p z with y | y
            · exact .inl (hin3 p y)
            · exact .inl (hin1 p y)
          · exact .inr z
    · rw [decide_eq_false (show ¬ (at_ : Int) < (hs.length : Int) by omega)]
      refine iteF ?_
      refine ⟨_, rfl, _, rfl, (by show 3 ≤ sizeLine; decide), fun r hr' => ?_⟩
      have s7 := same_new (o := .tup [.ref pd, .ref hd, .non]) hr'
      have S7 := S.up s7
      exact kk r pd hd Pn hs none .non _ S7.s upd_same hpd hhd0 S7.p S7.h S7.ps ⟨at_, I, by omega, hD⟩ rfl
end
end K70

end
section
set_option maxRecDepth 100000
set_option maxHeartbeats 4000000
/-! way_of. -/
namespace K70
open PySem PySem.Spec PyProof.Rows L2 K70M
abbrev WayE := Nat × Part × Option Part
def WayAt (H : Hp) (a : Addr) (e : WayE) : Prop := ∃ (pa : Addr) (v : V), H a = some (.tup [.int (e.1 : Int), .ref pa, v]) ∧ PartAt H pa e.2.1 ∧ partV H v e.2.2
theorem partV.mono {H H' : Hp} {v : V} {o : Option Part} (s : Same H H') (h : partV H v o) : partV H' v o := by
  cases o with
  | none => exact h
  | some p =>
    obtain ⟨a, e, h⟩ := h
    exact ⟨a, e, s _ _ h⟩
theorem WayAt.mono : Mono WayAt := fun H H' a e s ⟨pa, v, h1, h2, h3⟩ => ⟨pa, v, s _ _ h1, s _ _ h2, partV.mono s h3⟩
def EntOk (wants : List Want) (G : List (List Row)) (e : WayE) : Prop := ∃ g wt, G[e.1]? = some g ∧ wants[e.1]? = some wt ∧ (wtP wt).1 e.2.1 = true ∧ ∀ q, e.2.2 = some q → 0 < cnt g q
def spWay : Sp := fun vs H Q _ => ∃ (pd hd : Addr) (v : V) (rows : List Row) (wants : List Want) (G : List (List Row)) (L : List Row) (k : Nat) (Pn : List Row) (hs : Hs) (p : Part), vs = [.ref pd, .ref hd, v] ∧ H pd = some (.dT (encI Pn)) ∧ H hd = some (.dK (encH hs)) ∧ HsAt H hs ∧
  SpEnd rows wants G L k Pn hs (some p) ∧ partV H v (some p) ∧ wants.length ≤ 60 ∧ G.length = wants.length ∧
  ∀ (l : Addr) (way : List WayE) (H' : Hp), H l = none → Same H H' → LstOf WayAt H' l way → Chain k (some p) way → (way.map (·.1)).Nodup → (∀ e ∈ way, EntOk wants G e) → way.length ≤ 60 → Q (.ref l) H'
section
variable {P : Program} {w : World} {K : PySem.W.Frag} {mg : Str → Option Value} {base : Heap}
theorem ok_way {f : Addr} {fd : FuncData} (F : Fun K "way_of" "way_of" s_way_of f fd) : FnOk P w K mg base CX0 1 f fd ["parts", "holders", "part"] spWay := by
  refine F.ok sc_way_of (fun vs H Q E h => ?_) (fun cdv A outer s H vs Q E hr h => ?_)
  · obtain ⟨_, _, _, _, _, _, _, _, _, _, _, rfl, _⟩ := h
    rfl
  · obtain ⟨pd, hd, v, rows, wants, G, L, k, Pn, hs, p, rfl, hpd, hhd, hHs, ⟨at_, S, hp, hL⟩, hv, hwl, hGl, kk⟩ := h
    have hu := hu_of hr
    have nd := sc_way_of.nd
    refine ⟨_, pss_cons (ps_set (i := 3) nd rfl (Or.inl rfl) (pe_lst pa_nil))
      (pss_cons (ps_while PassesOwn.never (pt_cmpR op_notN (pv 2) pe_non (nomark _))
        (pss_cons (ps_set (i := 4) nd rfl (Or.inl rfl) (pe_dget hu (pv 0) (pv 2) (fun _ _ => rfl)))
        (pss_cons (ps_expr (pe_bm PySem.F.plainAttrs_list PySem.F.slot_list_append PySem.F.type_list_append mt_append (pv 3) (pa_cons (pe_tup (pa_cons (pv 4) (pa_cons (pv 2) (pa_cons (pe_dget hu (pv 1) (pv 4) (fun _ _ => rfl)) pa_nil)))) pa_nil)))
        (pss_one (ps_set (i := 2) nd rfl (Or.inl rfl) (pe_dget hu (pv 1) (pv 4) (fun _ _ => rfl)))))))
      (pss_one (ps_ret (pv 3)))), ?_⟩
    have lhs : hs.length ≤ 60 := Nat.le_trans (len_le S.hn S.hb) hwl
    refine ⟨(by show 0 ≤ sizeLine; decide), fun l hl => ?_⟩
    have s1 := same_new (o := .lst []) hl
    have start : ∃ m, m < hs.length ∧ ∃ (i : Nat) (o : Option (Addr × Part)), gvo Pn p = some (i : Int) ∧ hs[m]? = some (i, o) := by
      obtain ⟨x, hx⟩ := gvo_in hp
      obtain ⟨m, i, o, wt, _, e2, e3, _⟩ := S.p2 p x hx
      exact ⟨m, (List.getElem?_eq_some_iff.mp e2).1, i, o, by rw [hx, e3], e2⟩
    refine ⟨fun M σ H2 => ∃ (v : V) (b : Option V) (way : List WayE) (o : Option Part), σ = [some (.ref pd), some (.ref hd), some v, some (.ref l), b] ∧ Same H H2 ∧ LstOf WayAt H2 l way ∧ partV H2 v o ∧ (∀ rest, Chain k o rest → Chain k (some p) (way ++ rest)) ∧ (way.map (·.1)).Nodup ∧ (∀ e ∈ way, EntOk wants G e) ∧ way.length + M ≤ hs.length ∧
        (∀ e ∈ way, ∃ m o', M ≤ m ∧ hs[m]? = some (e.1, o')) ∧ ∀ q, o = some q → ∃ m, m < M ∧ ∃ (i : Nat) (o' : Option (Addr × Part)), gvo Pn q = some (i : Int) ∧ hs[m]? = some (i, o'),
      ⟨hs.length, v, none, [], some p, rfl, s1, ⟨[], upd_same, .nil⟩, hv.mono s1, (fun r z => z), List.nodup_nil, (fun e he => by cases he), by simp, (fun e he => by cases he), fun q hq => by cases hq; exact start⟩, ?_⟩
    rintro M σ H2 ⟨v, b, way, o, rfl, s2, hway, hv2, hch, hnd, hent, hlenM, hpos, hcur⟩
    refine ⟨_, rfl, rfl, _, rfl, ?_⟩
    cases o with
    | none =>
      obtain rfl : v = .non := hv2
      refine iteF ?_
      refine ⟨_, rfl, ?_⟩
      have := hch [] trivial
      rw [List.append_nil] at this
      exact kk l way H2 hl s2 hway this hnd hent (by omega)
    | some q =>
      obtain ⟨qa, rfl, hqa⟩ := hv2
      refine iteT ?_
      obtain ⟨m, hmM, i, o', hgi, hmi⟩ := hcur q rfl
      obtain ⟨m2, i2, o2, wt, _, e2, e3, hwt, hlet⟩ := S.p2 q _ hgi
      have e3 : i = i2 := by omega
      subst e3
      have em := nd_at S.hn hmi e2
      subst em
      rw [hmi] at e2
      cases e2
      obtain ⟨was, hwas, hwP⟩ := hway
      have hH2 := s2 _ _ hhd
      have hg := DGet.k (k := (Sum.inl (i : Int) : Key)) hH2
      rw [encH_at S.hn hmi] at hg
      have hP := DGet.tg (s2 _ _ hpd) hqa
      rw [hgi] at hP
      refine ⟨_, fun _ _ z => z, ?_⟩
      refine ⟨_, rfl, _, rfl, pd, _, rfl, hP, ?_⟩
      have lw := hwP.length
      refine ⟨_, rfl, .inl ⟨rfl, _, SqL.of hwas⟩, _, rfl, _, rfl, _, rfl, _, rfl, hd, _, rfl, hg, (by show 3 ≤ sizeLine; decide), fun t ht => ?_⟩
      have s3 := same_new (o := .tup [.int (i : Int), .ref qa, refO o']) ht
      refine ⟨l, _, _, rfl, rfl, s3 _ _ hwas, by rw [List.length_map, sizeLine_eq]; omega, ?_⟩
      have s4 := same_put (o := .lst (was.map V.ref ++ [.ref t])) (s2.trans s3) hl
      have hg4 := DGet.k (k := (Sum.inl (i : Int) : Key)) (s4 _ _ hhd)
      rw [encH_at S.hn hmi] at hg4
      refine ⟨_, rfl, _, rfl, hd, _, rfl, hg4, ?_⟩
      -- what comes next
      have nlt : t ≠ l := fun z => by rw [z, hwas] at ht; cases ht
      have upW : ∀ a u, (upd H2 t (.tup [.int (i : Int), .ref qa, refO o'])) a = some (.tup u) → (upd (upd H2 t (.tup [.int (i : Int), .ref qa, refO o'])) l (.lst (was.map V.ref ++ [.ref t]))) a = some (.tup u) := fun a u e => by
        rw [upd_ne (ne_of e (s3 _ _ hwas) (by intro z; cases z))]
        exact e
      have hent2 : ∀ qo : Option Part, (∀ q', qo = some q' → ∃ g, G[i]? = some g ∧ 0 < cnt g q') → EntOk wants G (i, q, qo) := fun qo hq => by
        obtain ⟨g, hg'⟩ : ∃ g, G[i]? = some g := ⟨_, List.getElem?_eq_getElem (by have := (List.getElem?_eq_some_iff.mp hwt).1; omega)⟩
        refine ⟨g, wt, hg', hwt, hlet, fun q' hq' => ?_⟩
        obtain ⟨g2, h1, h2⟩ := hq q' hq'
        have h1 : G[i]? = some g2 := h1
        rw [hg'] at h1
        cases h1
        exact h2
      have upE : ∀ (a : Addr) (e : WayE), WayAt H2 a e → WayAt (upd (upd H2 t (.tup [.int (i : Int), .ref qa, refO o'])) l (.lst (was.map V.ref ++ [.ref t]))) a e := fun a e ⟨pa, v', w1, w2, w3⟩ => by
        refine ⟨pa, v', upW _ _ (s3 _ _ w1), upW _ _ (s3 _ _ w2), ?_⟩
        cases h : e.2.2 with
        | none =>
          rw [h] at w3
          exact w3
        | some q' =>
          rw [h] at w3
          obtain ⟨a', r1, r2⟩ := w3
          exact ⟨a', r1, upW _ _ (s3 _ _ r2)⟩
      have hnotin : i ∉ way.map (·.1) := fun hm => by
        obtain ⟨e, he, hei⟩ := List.mem_map.mp hm
        obtain ⟨m', o'', h1, h2⟩ := hpos e he
        rw [hei] at h2
        have := nd_at S.hn hmi h2
        omega
      have fin : ∀ (qo : Option Part), partV (upd (upd H2 t (.tup [.int (i : Int), .ref qa, refO o'])) l (.lst (was.map V.ref ++ [.ref t]))) (refO o') qo → (qo = none → i = k) → (∀ q', qo = some q' → ∃ g, G[i]? = some g ∧ 0 < cnt g q') → (∀ q', qo = some q' → ∃ m', m' < m ∧ ∃ (i' : Nat) (o'' : Option (Addr × Part)), gvo Pn q' = some (i' : Int) ∧ hs[m']? = some (i', o'')) →
          ∃ m', m' < M ∧ ∃ (v : V) (b : Option V) (way : List WayE) (o : Option Part), [some (V.ref pd), some (V.ref hd), some (refO o'), some (V.ref l), some (V.int (i : Int))] = [some (.ref pd), some (.ref hd), some v, some (.ref l), b] ∧ Same H (upd (upd H2 t (.tup [.int (i : Int), .ref qa, refO o'])) l (.lst (was.map V.ref ++ [.ref t]))) ∧ LstOf WayAt (upd (upd H2 t (.tup [.int (i : Int), .ref qa, refO o'])) l (.lst (was.map V.ref ++ [.ref t]))) l way ∧ partV (upd (upd H2 t (.tup [.int (i : Int), .ref qa, refO o'])) l (.lst (was.map V.ref ++ [.ref t]))) v o ∧ (∀ rest, Chain k o rest → Chain k (some p) (way ++ rest)) ∧ (way.map (·.1)).Nodup ∧ (∀ e ∈ way, EntOk wants G e) ∧ way.length + m' ≤ hs.length ∧
            (∀ e ∈ way, ∃ m o', m' ≤ m ∧ hs[m]? = some (e.1, o')) ∧ ∀ q, o = some q → ∃ m, m < m' ∧ ∃ (i : Nat) (o' : Option (Addr × Part)), gvo Pn q = some (i : Int) ∧ hs[m]? = some (i, o') := fun qo h1 h2 h3 h4 => by
        refine ⟨m, hmM, refO o', _, way ++ [(i, q, qo)], qo, rfl, s4, ⟨was ++ [t], by rw [upd_same, List.map_append]; rfl, Paired_snoc (Paired_mono upE hwP) ⟨qa, refO o', upW _ _ upd_same, upW _ _ (s3 _ _ hqa), h1⟩⟩, h1, fun rest hrest => ?_, ?_, fun e he => ?_, by rw [List.length_append]; show way.length + 1 + m ≤ _; omega, fun e he => ?_, h4⟩
        · rw [List.append_assoc]
          exact hch _ ⟨rfl, h2, hrest⟩
        · rw [List.map_append, List.nodup_append]
          refine ⟨hnd, by simp, fun x hx y hy e => hnotin ?_⟩
          have hy' : y = i := by simpa using hy
          rw [← hy', ← e]
          exact hx
        · rcases List.mem_append.mp he with z | z
          · exact hent e z
          · rw [List.mem_singleton.mp z]; exact hent2 qo h3
        · rcases List.mem_append.mp he with z | z
          · obtain ⟨m', o'', r1, r2⟩ := hpos e z
            exact ⟨m', o'', by omega, r2⟩
          · rw [List.mem_singleton.mp z]; exact ⟨m, o', Nat.le_refl _, hmi⟩
      cases m with
      | zero =>
        have h0 := S.h0
        rw [hmi] at h0
        have h0 : (i, o') = (k, none) := Option.some.inj h0
        cases h0
        exact fin none rfl (fun _ => rfl) (fun q' z => by cases z) (fun q' z => by cases z)
      | succ m =>
        obtain ⟨a, q', m', i', o'', e1, e2, e3, e4, e5⟩ := S.h3 m i o' hmi
        subst e1
        have hqa' : PartAt H a q' := hHs (i, some (a, q')) (List.mem_of_getElem? hmi) (a, q') rfl
        refine fin (some q') ⟨a, rfl, s4 _ _ hqa'⟩ (fun z => by cases z) (fun q'' z => ?_) (fun q'' z => ?_)
        · cases z; exact e5
        · cases z; exact ⟨m', by omega, i', o'', e4, e3⟩
end
end K70

end
section
set_option maxRecDepth 100000
set_option maxHeartbeats 4000000
/-! lead. -/
namespace K70
open PySem PySem.Spec PyProof.Rows L2 K70M
theorem stepW_ne {m : Int} {G : List (List Row)} {e : WayE} {j : Nat} (h : e.1 ≠ j) : (stepW m G e)[j]? = G[j]? := by
  unfold stepW
  cases G[e.1]? with
  | none => rfl
  | some g =>
    show (G.set e.1 _)[j]? = _
    rw [List.getElem?_set, if_neg h]
theorem fold_ne {m : Int} {j : Nat} : ∀ {way : List WayE} {G : List (List Row)}, j ∉ way.map (·.1) → (way.foldl (stepW m) G)[j]? = G[j]?
  | [], _, _ => rfl
  | e :: r, G, h => by
    simp only [List.map_cons, List.mem_cons, not_or] at h
    rw [List.foldl_cons, fold_ne h.2, stepW_ne fun z => h.1 z.symm]
theorem up1_len {m : Int} {got : Part} {q : Option Part} {g : List Row} : (up1 m got q g).length ≤ g.length + 2 := by
  unfold K70M.up1
  cases q with
  | none =>
    have := pin_len (c := g) (p := got) (x := cnt g got + m)
    show (pin g got (cnt g got + m)).length ≤ _
    omega
  | some r =>
    have h1 := pin_len (c := g) (p := got) (x := cnt g got + m)
    have h2 := pin_len (c := pin g got (cnt g got + m)) (p := r) (x := cnt (pin g got (cnt g got + m)) r - m)
    show (pin (pin g got (cnt g got + m)) r (cnt (pin g got (cnt g got + m)) r - m)).length ≤ _
    omega
theorem fold_len {m : Int} {j : Nat} {g' : List Row} : ∀ {way : List WayE} {G : List (List Row)}, (way.map (·.1)).Nodup → (way.foldl (stepW m) G)[j]? = some g' → ∃ g, G[j]? = some g ∧ g'.length ≤ g.length + 2
  | [], G, _, h => ⟨g', h, by omega⟩
  | e :: r, G, hn, h => by
    have hn' : e.1 ∉ r.map (·.1) ∧ (r.map (·.1)).Nodup := List.nodup_cons.mp hn
    rw [List.foldl_cons] at h
    by_cases hj : e.1 = j
    · rw [fold_ne (by rw [← hj]; exact hn'.1)] at h
      unfold stepW at h
      cases hg : G[e.1]? with
      | none =>
        rw [hg] at h
        exact ⟨g', h, by omega⟩
      | some g =>
        rw [hg] at h
        have h : (G.set e.1 (up1 m e.2.1 e.2.2 g))[j]? = some g' := h
        rw [hj] at h hg
        rw [List.getElem?_set, if_pos rfl, if_pos (List.getElem?_eq_some_iff.mp hg).1] at h
        cases h
        exact ⟨g, hg, up1_len⟩
    · obtain ⟨g, h1, h2⟩ := fold_len hn'.2 h
      rw [stepW_ne hj] at h1
      exact ⟨g, h1, h2⟩
theorem Paired_set {H : Hp} {g' : List Row} : ∀ {gas : List Addr} {G : List (List Row)} {i : Nat} {a : Addr}, gas.Nodup → gas[i]? = some a → Paired (DAt H) gas G → Paired (DAt (upd H a (.dT (encI g')))) gas (G.set i g')
  | [], _, _, _, _, h, _ => by simp at h
  | b :: gas, _, i, a, hn, h, .cons r t => by
    have hn' : b ∉ gas ∧ gas.Nodup := List.nodup_cons.mp hn
    cases i with
    | zero =>
      have h : b = a := by simpa using h
      subst h
      refine .cons upd_same ?_
      clear r
      induction t with
      | nil => exact .nil
      | @cons c _ _ _ r t ih =>
        have hc : b ≠ c := fun z => hn'.1 (by rw [z]; exact List.mem_cons_self)
        refine .cons ?_ (ih ?_ ?_ ?_)
        · show upd H b _ c = _
          rw [upd_ne hc.symm]
          exact r
        all_goals first
          | exact List.nodup_cons.mpr ⟨fun z => hn'.1 (List.mem_cons_of_mem _ z), (List.nodup_cons.mp hn'.2).2⟩
          | exact rfl
          | exact ⟨fun z => hn'.1 (List.mem_cons_of_mem _ z), (List.nodup_cons.mp hn'.2).2⟩
    | succ i =>
      have h : gas[i]? = some a := by simpa using h
      have hb : b ≠ a := fun z => hn'.1 (by rw [z]; exact List.mem_of_getElem? h)
      refine .cons ?_ (Paired_set hn'.2 h t)
      show upd H a _ b = _
      rw [upd_ne hb]
      exact r
theorem Paired_upd {H : Hp} {l : Addr} {o : HO} : ∀ {gas : List Addr} {G : List (List Row)}, Paired (DAt H) gas G → (∀ a ∈ gas, a ≠ l) → Paired (DAt (upd H l o)) gas G
  | _, _, .nil, _ => .nil
  | _, _, .cons r t, q => .cons (by
      show upd _ l _ _ = _
      rw [upd_ne (q _ List.mem_cons_self)]
      exact r) (Paired_upd t fun a ha => q a (List.mem_cons_of_mem _ ha))
/-- what no dict is stays -/
theorem Kept.at {ms : List Addr} {H H' : Hp} (k : Kept ms H H') (hm : ∀ m ∈ ms, ∃ c, H m = some (.dT c)) {a : Addr} {o : HO} (h : H a = some o) (ho : ∀ c, o ≠ .dT c) : H' a = some o := k a o h fun z => by
  obtain ⟨c, hc⟩ := hm a z
  rw [h] at hc
  exact ho c (Option.some.inj hc)
theorem Kept.way {ms : List Addr} {H H' : Hp} (k : Kept ms H H') (hm : ∀ m ∈ ms, ∃ c, H m = some (.dT c)) {a : Addr} {e : WayE} (h : WayAt H a e) : WayAt H' a e := by
  obtain ⟨pa, v, w1, w2, w3⟩ := h
  refine ⟨pa, v, k.at hm w1 (fun c z => by cases z), k.at hm w2 (fun c z => by cases z), ?_⟩
  cases h : e.2.2 with
  | none => rw [h] at w3; exact w3
  | some q =>
    rw [h] at w3
    obtain ⟨a', r1, r2⟩ := w3
    exact ⟨a', r1, k.at hm r2 (fun c z => by cases z)⟩
theorem sum_set : ∀ {lk : List Int} {k : Nat} {x y : Int}, lk[k]? = some x → (lk.set k y).sum = lk.sum - x + y
  | [], _, _, _, h => by simp at h
  | a :: r, 0, x, y, h => by
    have h : a = x := by simpa using h
    rw [List.set_cons_zero, List.sum_cons, List.sum_cons]
    omega
  | a :: r, k + 1, x, y, h => by
    rw [List.set_cons_succ, List.sum_cons, List.sum_cons, sum_set (by simpa using h)]
    omega
theorem sum_nonneg : ∀ {lk : List Int}, (∀ x ∈ lk, 0 ≤ x) → 0 ≤ lk.sum
  | [], _ => by simp
  | a :: r, h => by
    rw [List.sum_cons]
    have h1 := h a List.mem_cons_self
    have h2 := sum_nonneg fun x hx => h x (List.mem_cons_of_mem _ hx)
    omega
theorem set_self : ∀ {lk : List Int} {k : Nat} {x : Int}, lk[k]? = some x → lk.set k x = lk
  | [], _, _, h => by simp at h
  | a :: r, 0, x, h => by
    have h : a = x := by simpa using h
    rw [List.set_cons_zero, h]
  | a :: r, k + 1, x, h => by
    rw [List.set_cons_succ, set_self (by simpa using h)]
theorem Flow.lk_nonneg {c : Part → Int} {ws : List (Wt Part)} {G : List (List Row)} {L : List Row} {lk : List Int} (F : Flow c ws G L lk) : ∀ x ∈ lk, 0 ≤ x := fun x hx => by
  obtain ⟨i, hi, e⟩ := List.getElem_of_mem hx
  have h1 := F.f.ll
  have h2 := F.f.lG
  exact (F.f.tt i _ _ x (List.getElem?_eq_getElem (by omega)) (List.getElem?_eq_getElem (by omega)) (by rw [List.getElem?_eq_getElem hi, e])).2
def LenB (G : List (List Row)) (lk : List Int) : Prop := ∀ g ∈ G, (g.length : Int) + 2 * lk.sum ≤ 1000000
def spLead (C : Addr) : Sp := fun vs H Q _ => ∃ (h wa ga l : Addr) (k : Nat) (rows : List Row) (wants : List Want) (gas : List Addr) (G : List (List Row)) (L : List Row) (lk : List Int) (x : Int), vs = [.ref h, .ref wa, .ref ga, .ref l, .int (k : Int), .int x] ∧
  HeapAt C H h rows ∧ rows.length ≤ 1000 ∧ WantsAt H wa wants ∧ wants.length ≤ 60 ∧ (∀ w ∈ wants, w.2.1.length ≤ 1000) ∧ H ga = some (.lst (gas.map V.ref)) ∧ Paired (DAt H) gas G ∧ H l = some (.dT (encI L)) ∧ (l :: gas).Nodup ∧ L.length ≤ 1000 ∧
  Flow (cnt rows) (wants.map wtP) G L lk ∧ lk[k]? = some x ∧ 0 < x ∧ LenB G lk ∧
  ∀ (r hd : Addr) (m : Int) (G' : List (List Row)) (L' : List Row) (H' : Hp), H' r = some (.tup [.int m, .ref hd]) → Kept (l :: gas) H H' → H' l = some (.dT (encI L')) → Paired (DAt H') gas G' → L'.length ≤ 1000 → Flow (cnt rows) (wants.map wtP) G' L' (lk.set k (x - m)) → LenB G' (lk.set k (x - m)) → 0 ≤ m → m ≤ x → (m = 0 → ¬ Deals (cnt rows) (wants.map wtP)) → Q (.ref r) H'
section
variable {P : Program} {w : World} {K : PySem.W.Frag} {mg : Str → Option Value} {base : Heap}
theorem ok_lead {f C : Addr} {fd : FuncData} (F : Fun K "lead" "lead" s_lead f fd) (B : BT mg) (sp : Cl P w K mg base CX0 3 "spread" ["heap", "wants", "gifts", "left", "k"] [] (spSpread C)) (wy : Cl P w K mg base CX0 1 "way_of" ["parts", "holders", "part"] [] spWay) :
    FnOk P w K mg base CX0 4 f fd ["heap", "wants", "gifts", "left", "k", "most"] (spLead C) := by
  refine F.ok sc_lead (fun vs H Q E h => ?_) (fun cdv A outer s H vs Q E hr h => ?_)
  · obtain ⟨_, _, _, _, _, _, _, _, _, _, _, _, rfl, _⟩ := h
    rfl
  · obtain ⟨h, wa, ga, l, k, rows, wants, gas, G, L, lk, x, rfl, hh, hlen, hw, hwl, hws, hga, hG, hl, hndl, hLl, hF, hlk, hx, hLB, kk⟩ := h
    have hu := hu_of hr
    have nd := sc_lead.nd
    refine ⟨_, pss_cons (ps_asg (pe_k sp hr rfl pass0 (pa_cons (pv 0) (pa_cons (pv 1) (pa_cons (pv 2) (pa_cons (pv 3) (pa_cons (pv 4) pa_nil)))))) (pg_tup rfl (pgs_cons (pg_name (i := 6) nd rfl (Or.inl rfl)) (pgs_cons (pg_name (i := 7) nd rfl (Or.inl rfl)) (pgs_cons (pg_name (i := 8) nd rfl (Or.inl rfl)) pgs_nil)))))
      (pss_cons (ps_if (pt_cmpR op_isN (pv 8) pe_non (nomark _)) (pss_one (ps_ret (pe_tup (pa_cons pe_int (pa_cons (pv 7) pa_nil))))) pss_nil)
      (pss_cons (ps_set (i := 9) nd rfl (Or.inl rfl) (pe_k wy (hr.mono (by decide)) rfl pass0 (pa_cons (pv 6) (pa_cons (pv 7) (pa_cons (pv 8) pa_nil)))))
      (pss_cons (ps_set (i := 13) nd rfl (Or.inl rfl) (pe_callB (cr_min rfl) (by rfl) B.min (by decide +kernel) (pa_cons (pe_op op_cat (pe_lst (pa_cons (pv 5) (pa_cons (pe_dget hu (pv 3) (pv 8) (fun _ _ => rfl)) pa_nil)))
          (pe_lc (own := [("one", 10), ("got", 11), ("given_up", 12)]) (g := gTup K 3 (gCons (gName 10) (gCons (gName 11) (gCons (gName 12) gNil)))) rfl nd (pi_list (pv 9))
            (blkOk_by (N := ["heap", "wants", "gifts", "left", "k", "most", "parts", "holders", "part", "way", "one", "got", "given_up", "many"]) (sc := defScope s_lead) (by decide +kernel))
            (fun _ _ _ _ _ => pg_tup rfl (pgs_cons (pg_name (i := 10) nd rfl (Or.inl rfl)) (pgs_cons (pg_name (i := 11) nd rfl (Or.inl rfl)) (pgs_cons (pg_name (i := 12) nd rfl (Or.inl rfl)) pgs_nil))))
            (fun _ _ _ _ _ => pts_one (pt_cmpR op_notN (pv 12) pe_non (nomark _)))
            (fun _ _ _ _ _ => pe_dget hu (pe_ix (ix_listK K) (pv 2) (pv 10) (fun _ _ => rfl)) (pv 12) (fun _ _ => rfl)))) pa_nil)))
      (pss_cons (ps_dput hu (pv 3) (pv 8) (pe_op op_sub (pe_dget hu (pv 3) (pv 8) (fun _ _ => rfl)) (pv 13)) rfl)
      (pss_cons (ps_for PassesOwn.never rfl (pi_list (pv 9)) (pg_tup rfl (pgs_cons (pg_name (i := 10) nd rfl (Or.inl rfl)) (pgs_cons (pg_name (i := 11) nd rfl (Or.inl rfl)) (pgs_cons (pg_name (i := 12) nd rfl (Or.inl rfl)) pgs_nil))))
        (pss_cons (ps_dput hu (pe_ix ix_list (pv 2) (pv 10) (fun _ _ => rfl)) (pv 11) (pe_op op_add (pe_dget2 hu (pe_ix ix_list (pv 2) (pv 10) (fun _ _ => rfl)) (pv 11) pe_int ⟨rfl, rfl, rfl, rfl⟩) (pv 13)) rfl)
        (pss_one (ps_if (pt_cmpR op_notN (pv 12) pe_non (nomark _))
          (pss_one (ps_dput hu (pe_ix ix_list (pv 2) (pv 10) (fun _ _ => rfl)) (pv 12) (pe_op op_sub (pe_dget hu (pe_ix ix_list (pv 2) (pv 10) (fun _ _ => rfl)) (pv 12) (fun _ _ => rfl)) (pv 13)) rfl)) pss_nil))))
      (pss_one (ps_ret (pe_tup (pa_cons (pv 13) (pa_cons (pv 7) pa_nil)))))))))), ?_⟩
    have hGl : G.length = wants.length := by have := hF.f.lG; rw [List.length_map] at this; exact this
    have hkl : k < wants.length := by
      have h1 := (List.getElem?_eq_some_iff.mp hlk).1
      have h2 := hF.f.ll
      rw [List.length_map] at h2
      omega
    have hlk0 := Flow.lk_nonneg hF
    refine ⟨_, rfl, _, rfl, _, rfl, _, rfl, _, rfl, h, wa, ga, l, k, rows, wants, gas, G, L, rfl, hh, hlen, hw, hwl, hws, hga, hG, hGl, hl, hF.dL, (fun g hg => (hF.f.nG g hg).2), hkl, fun r pd hd Pn hs o v H1 s1 hr1 npd nhd hpd hhd hHs hSp hv => ?_⟩
    refine ⟨r, _, rfl, SqT.of hr1, rfl, _, _, rfl, _, _, rfl, _, _, rfl, rfl, ?_⟩
    refine ⟨_, rfl, rfl, _, rfl, ?_⟩
    cases o with
    | none =>
      obtain rfl : v = .non := hv
      refine iteT ?_
      refine ⟨_, rfl, (by show 2 ≤ sizeLine; decide), fun t ht => ?_⟩
      have s2 := s1.trans (same_new (o := .tup [.int 0, .ref hd]) ht)
      have e0 : lk.set k (x - 0) = lk := by rw [Int.sub_zero]; exact set_self hlk
      exact kk t hd 0 G L _ upd_same (Kept.of s2) (s2 _ _ hl) (Paired_mono (fun a b hr => s2 _ _ hr) hG) hLl (by rw [e0]; exact hF) (by rw [e0]; exact hLB) (Int.le_refl _) (by omega) fun _ => hSp.stuck hF hlk hx
    | some p =>
      obtain ⟨pa, rfl, hpa⟩ := hv
      refine iteF ?_
      obtain ⟨at_, hSpI, hpin, hLp⟩ := id hSp
      refine ⟨_, rfl, _, rfl, _, rfl, pd, hd, .ref pa, rows, wants, G, L, k, Pn, hs, p, rfl, hpd, hhd, hHs, hSp, ⟨pa, rfl, hpa⟩, hwl, hGl, fun wl way H2 nwl s2 hway hch hndw hent hwayl => ?_⟩
      obtain ⟨was, hwas, hwP⟩ := hway
      have s12 := s1.trans s2
      have hl2 := s12 _ _ hl
      have hpa2 := PartAt.mono _ _ _ _ s2 hpa
      have hgL : gvo L p = some (cnt L p) := by
        have e := cnt_get hF.dL p
        cases q : gvo L p with
        | none => rw [q] at e; have e : cnt L p = 0 := e; omega
        | some y => rw [q] at e; have e : cnt L p = y := e; rw [e]
      have hgl2 := DGet.tg hl2 hpa2
      rw [hgL] at hgl2
      refine ⟨_, rfl, _, rfl, _, rfl, l, _, rfl, hgl2, (by show 2 ≤ sizeLine; decide), fun l1 hl1 => ?_⟩
      have s3 := same_new (o := .lst [.int x, .int (cnt L p)]) hl1
      refine ⟨_, rfl, wl, rfl, ⟨_, SqL.of (s3 _ _ hwas)⟩, fun D hD => ?_⟩
      have gasl : gas.length = G.length := hG.length
      refine lc_list (K := K) (a := wl) (xs := was.map V.ref) (fun i H4 => Same (upd H2 l1 (.lst [.int x, .int (cnt L p)])) H4 ∧ ∃ ns : List Int, H4 D = some (.lst (ns.map V.int)) ∧ ns.length ≤ i ∧ (∀ n ∈ ns, 0 < n) ∧ ∀ e ∈ way.take i, ∀ q g, e.2.2 = some q → G[e.1]? = some g → cnt g q ∈ ns)
        ⟨same_new hD, [], upd_same, Nat.le_refl _, (fun n hn => by cases hn), (fun e he => by cases he)⟩ (fun i H4 _ ⟨z, _⟩ => SqL.of (z _ _ (s3 _ _ hwas))) ?_ ?_
      · rintro i y H4 hi ⟨s4, ns, hns, hnl, hn0, hnin⟩
        obtain ⟨ea, e, g1, g2, rfl, g3⟩ := pget hwP hi
        have hil : i < way.length := (List.getElem?_eq_some_iff.mp g2).1
        obtain ⟨ga', v', w1, w2, w3⟩ := WayAt.mono _ _ _ _ (s3.trans s4) g3
        have tk : ∀ q ∈ way.take (i + 1), q ∈ way.take i ∨ q = e := fun q hq => by
          rw [take_snoc g2] at hq
          rcases List.mem_append.mp hq with z | z
          · exact .inl z
          · exact .inr (List.mem_singleton.mp z)
        refine ⟨ea, _, rfl, SqT.of w1, rfl, _, _, rfl, _, _, rfl, _, _, rfl, rfl, rfl, _, rfl, rfl, _, rfl, ?_⟩
        obtain ⟨g, wt, hg, hwt, _, hgq⟩ := hent e (List.mem_of_getElem? g2)
        cases hq : e.2.2 with
        | none =>
          rw [hq] at w3
          obtain rfl : v' = .non := w3
          refine ⟨s4, ns, hns, by omega, hn0, fun e' he' q' g' h1 h2 => ?_⟩
          rcases tk e' he' with z | z
          · exact hnin e' z q' g' h1 h2
          · rw [z, hq] at h1; cases h1
        | some q =>
          rw [hq] at w3
          obtain ⟨qa, rfl, hqa⟩ := w3
          have hcq := hgq q hq
          obtain ⟨gad, _, hgad, hgA⟩ := pgetB hG hg
          have s24 := s3.trans s4
          have hgA4 : H4 gad = some (.dT (encI g)) := s24 _ _ (s12 _ _ hgA)
          have ng := (hF.f.nG g (List.mem_of_getElem? hg)).2
          have hgg : gvo g q = some (cnt g q) := by
            have e := cnt_get ng q
            cases q' : gvo g q with
            | none => rw [q'] at e; have e : cnt g q = 0 := e; omega
            | some y => rw [q'] at e; have e : cnt g q = y := e; rw [e]
          have dg := DGet.tg hgA4 hqa
          rw [hgg] at dg
          refine ⟨_, rfl, _, rfl, ga, _, (e.1 : Int), _, rfl, rfl, SqL.of (s24 _ _ (s12 _ _ hga)), atI_nat hgad, _, rfl, gad, _, rfl, dg, ?_⟩
          refine ⟨_, hns, by rw [List.length_map, sizeLine_eq]; omega, same_put s4 hD, ns ++ [cnt g q], by rw [upd_same, List.map_append]; rfl, by rw [List.length_append]; show ns.length + 1 ≤ i + 1; omega, fun n hn => ?_, fun e' he' q' g' h1 h2 => ?_⟩
          · rcases List.mem_append.mp hn with z | z
            · exact hn0 n z
            · rw [List.mem_singleton.mp z]; exact hcq
          · rcases tk e' he' with z | z
            · exact List.mem_append_left _ (hnin e' z q' g' h1 h2)
            · rw [z, hq] at h1
              cases h1
              rw [z, hg] at h2
              cases h2
              exact List.mem_append_right _ List.mem_cons_self
      · rintro H4 ⟨s4, ns, hns, hnl, hn0, hnin⟩
        rw [List.length_map, hwP.length, List.take_length] at hnin
        rw [List.length_map, hwP.length] at hnl
        refine ⟨l1, D, _, _, rfl, rfl, s4 _ _ upd_same, hns, by rw [List.length_map, sizeLine_eq]; show 2 + ns.length ≤ _; omega, fun l2 hl2' => ?_⟩
        have s5 := same_new (o := .lst ([V.int x, V.int (cnt L p)] ++ ns.map V.int)) hl2'
        refine ⟨l2, x :: cnt L p :: ns, rfl, SqL.of upd_same, by rw [List.length_cons]; omega, fun m hmin hmle => ?_⟩
        have hm0 : 0 < m := by
          rcases List.mem_cons.mp hmin with z | z
          · omega
          · rcases List.mem_cons.mp z with z | z
            · omega
            · exact hn0 m z
        have hmx : m ≤ x := hmle x List.mem_cons_self
        have hmL : m ≤ cnt L p := hmle _ (List.mem_cons_of_mem _ List.mem_cons_self)
        have hmn : ∀ n ∈ ns, m ≤ n := fun n hn => hmle n (List.mem_cons_of_mem _ (List.mem_cons_of_mem _ hn))
        have sAll := ((s12.trans s3).trans s4).trans s5
        have hpa5 := PartAt.mono _ _ _ _ ((s3.trans s4).trans s5) hpa2
        have hl5 := sAll _ _ hl
        have dg5 := DGet.tg hl5 hpa5
        rw [hgL] at dg5
        have lkp : (pin L p (cnt L p - m)).length = L.length := by
          have e1 : (pin L p (cnt L p - m)).map (·.1) = L.map (·.1) := by rw [pin_keys, if_pos (get_key hgL)]
          have := congrArg List.length e1
          simpa using this
        refine ⟨_, rfl, _, rfl, l, _, rfl, dg5, _, rfl, _, _, rfl, rfl, _, rfl, _, rfl, l, _, rfl, DPut.t (b := pa) (k := pk p) hl5 hpa5 (by rw [enc_len, sizeLine_eq]; omega), ?_⟩
        rw [enc_put]
        -- the way, entry by entry
        have wayok : WayOk (wants.map wtP) m G way := fun e he => by
          obtain ⟨g, wt, hg, hwt, hlet, hgq⟩ := hent e he
          refine ⟨g, wtP wt, hg, by rw [List.getElem?_map, hwt]; rfl, hlet, fun q hq => hmn _ (hnin e he q g hq hg)⟩
        have hFin := hF.lead (by omega : 0 ≤ m) hch hndw wayok hlk hmx hmL
        have hms : ∀ a ∈ l :: gas, ∃ c, H a = some (.dT c) := fun a ha => by
          rcases List.mem_cons.mp ha with z | z
          · rw [z]; exact ⟨_, hl⟩
          · obtain ⟨j, hj, e⟩ := List.getElem_of_mem z
            obtain ⟨a', g, q1, q2, q3, q4⟩ := pget (x := V.ref a) hG (i := j) (by rw [List.getElem?_map, List.getElem?_eq_getElem hj, e]; rfl)
            cases q3
            exact ⟨_, q4⟩
        have hnd' : l ∉ gas ∧ gas.Nodup := List.nodup_cons.mp hndl
        generalize hH6 : upd (upd H4 l2 (.lst ([V.int x, V.int (cnt L p)] ++ ns.map V.int))) l (.dT (encI (pin L p (cnt L p - m)))) = H6
        have k6 : Kept (l :: gas) H H6 := by rw [← hH6]; exact (Kept.of sAll).put (.inl List.mem_cons_self)
        have hm6 : ∀ a ∈ l :: gas, ∃ c, H6 a = some (.dT c) := fun a ha => by
          obtain ⟨c, hc⟩ := hms a ha
          rw [← hH6]
          by_cases e : a = l
          · rw [e]; exact ⟨_, upd_same⟩
          · rw [upd_ne e]; exact ⟨c, sAll _ _ hc⟩
        have notd : ∀ {a : Addr} {o : HO}, (∀ c, o ≠ .dT c) → (upd H4 l2 (.lst ([V.int x, V.int (cnt L p)] ++ ns.map V.int))) a = some o → H6 a = some o := fun {a o} ho e => by
          rw [← hH6, upd_ne (ne_of e hl5 (fun z => ho _ z))]
          exact e
        have hwas6 : H6 wl = some (.lst (was.map V.ref)) := notd (fun c z => by cases z) (s5 _ _ (s4 _ _ (s3 _ _ hwas)))
        have hwP6 : Paired (WayAt H6) was way := Paired_mono (fun a e he => by
          obtain ⟨pa', v', w1, w2, w3⟩ := WayAt.mono _ _ _ _ ((s3.trans s4).trans s5) he
          refine ⟨pa', v', notd (fun c z => by cases z) w1, notd (fun c z => by cases z) w2, ?_⟩
          cases h : e.2.2 with
          | none => rw [h] at w3; exact w3
          | some q =>
            rw [h] at w3
            obtain ⟨a', r1, r2⟩ := w3
            exact ⟨a', r1, notd (fun c z => by cases z) r2⟩) hwP
        have hG6 : Paired (DAt H6) gas G := by
          have q1 : Paired (DAt (upd H4 l2 (.lst ([V.int x, V.int (cnt L p)] ++ ns.map V.int)))) gas G := Paired_mono (fun a b hr => sAll _ _ hr) hG
          rw [← hH6]
          have q2 : ∀ a ∈ gas, a ≠ l := fun a ha z => hnd'.1 (by rw [← z]; exact ha)
          exact Paired_upd q1 q2
        have hl6 : H6 l = some (.dT (encI (pin L p (cnt L p - m)))) := by rw [← hH6]; exact upd_same
        have hga6 : H6 ga = some (.lst (gas.map V.ref)) := notd (fun c z => by cases z) (sAll _ _ hga)
        refine ⟨_, rfl, wl, rfl, ⟨_, SqL.of hwas6⟩, for_list (K := K) (a := wl) (xs := was.map V.ref) (fun i σ H7 => ∃ (a b c : Option V), σ = [some (.ref h), some (.ref wa), some (.ref ga), some (.ref l), some (.int (k : Int)), some (.int x), some (.ref pd), some (.ref hd), some (.ref pa), some (.ref wl), a, b, c, some (.int m)] ∧ Kept (l :: gas) H6 H7 ∧ H7 l = some (.dT (encI (pin L p (cnt L p - m)))) ∧ Paired (DAt H7) gas ((way.take i).foldl (stepW m) G))
          ⟨none, none, none, rfl, Kept.refl, hl6, hG6⟩ (fun i σ H7 _ ⟨_, _, _, _, k7, _⟩ => SqL.of (k7.at hm6 hwas6 (fun c z => by cases z))) ?_ ?_⟩
        · rintro i y σ H7 hi ⟨a, b, c, rfl, k7, hl7, hG7⟩
          obtain ⟨ea, e, g1, g2, rfl, g3⟩ := pget hwP6 hi
          have hil : i < way.length := (List.getElem?_eq_some_iff.mp g2).1
          obtain ⟨ga', v', w1, w2, w3⟩ := k7.way hm6 g3
          obtain ⟨g, wt, hg, hwt, _, hgq⟩ := hent e (List.mem_of_getElem? g2)
          have hnot : e.1 ∉ (way.take i).map (·.1) := fun hm => by
            have h1 : (way.map (·.1)).Nodup := hndw
            have h2 : ((way.take (i + 1)).map (·.1)).Nodup := by
              rw [List.map_take]
              exact (List.take_sublist _ _).nodup h1
            rw [take_snoc g2, List.map_append, List.nodup_append] at h2
            exact h2.2.2 _ hm _ List.mem_cons_self rfl
          have hgi : ((way.take i).foldl (stepW m) G)[e.1]? = some g := by rw [fold_ne hnot]; exact hg
          obtain ⟨gad, hgad1, hgad, hgA⟩ := pgetB hG7 hgi
          have hgA : H7 gad = some (.dT (encI g)) := hgA
          have hgaH : H7 ga = some (.lst (gas.map V.ref)) := k7.at hm6 hga6 (fun c z => by cases z)
          have ng := (hF.f.nG g (List.mem_of_getElem? hg)).2
          have hgl : g.length ≤ 1000000 := by
            have h1 := hLB g (List.mem_of_getElem? hg)
            have h2 := sum_nonneg hlk0
            omega
          have gadin : gad ∈ l :: gas := List.mem_cons_of_mem _ (List.mem_of_getElem? hgad1)
          have gadl : gad ≠ l := fun z => hnd'.1 (by rw [← z]; exact List.mem_of_getElem? hgad1)
          refine ⟨ea, _, rfl, SqT.of w1, rfl, _, _, rfl, _, _, rfl, _, _, rfl, rfl, ?_⟩
          -- gifts[one][got] = gifts[one].get(got, 0) + many
          refine ⟨_, rfl, _, rfl, ga, _, (e.1 : Int), _, rfl, rfl, SqL.of hgaH, atI_nat hgad, gad, rfl, .inr ⟨_, .inl hgA⟩, _, rfl, _, DGet.tg hgA w2, ?_⟩
          rw [getD_cnt ng]
          refine ⟨_, rfl, _, _, rfl, rfl, _, rfl, _, rfl, ga, _, (e.1 : Int), _, rfl, rfl, SqL.of hgaH, atI_nat hgad, _, rfl, gad, _, rfl, DPut.t (b := ga') (k := pk e.2.1) hgA w2 (by rw [enc_len, sizeLine_eq]; omega), ?_⟩
          rw [enc_put]
          have keep8 : ∀ {a : Addr} {o o' : HO}, (∀ c, o ≠ .dT c) → H7 a = some o → (upd H7 gad o') a = some o := fun {a o o'} ho e => by
            rw [upd_ne (ne_of e hgA (fun z => ho _ z))]
            exact e
          have st : (way.take (i + 1)).foldl (stepW m) G = ((way.take i).foldl (stepW m) G).set e.1 (up1 m e.2.1 e.2.2 g) := by
            rw [take_snoc g2, List.foldl_append]
            exact stepW_at hgi
          refine ⟨_, rfl, rfl, _, rfl, ?_⟩
          cases hq : e.2.2 with
          | none =>
            rw [hq] at w3
            obtain rfl : v' = .non := w3
            refine iteF ?_
            refine ⟨_, _, _, rfl, k7.put (.inl gadin), by rw [upd_ne gadl.symm]; exact hl7, ?_⟩
            rw [st, hq]
            exact Paired_set hnd'.2 hgad1 hG7
          | some q =>
            rw [hq] at w3
            obtain ⟨qa, rfl, hqa⟩ := w3
            refine iteT ?_
            have hcq := hgq q hq
            have hqa8 : PartAt (upd H7 gad (.dT (encI (pin g e.2.1 (cnt g e.2.1 + m))))) qa q := keep8 (fun c z => by cases z) hqa
            have hga8 : (upd H7 gad (.dT (encI (pin g e.2.1 (cnt g e.2.1 + m))))) ga = some (.lst (gas.map V.ref)) := keep8 (fun c z => by cases z) hgaH
            have dg := DGet.tg (c := pin g e.2.1 (cnt g e.2.1 + m)) (a := gad) upd_same hqa8
            have hgg : gvo (pin g e.2.1 (cnt g e.2.1 + m)) q = some (cnt (pin g e.2.1 (cnt g e.2.1 + m)) q) := by
              have e1 := cnt_get (pin_nd ng (p := e.2.1) (x := cnt g e.2.1 + m)) q
              cases q' : gvo (pin g e.2.1 (cnt g e.2.1 + m)) q with
              | none =>
                exfalso
                have h1 := K70M.get_none q'
                apply h1
                refine pin_mem_key.mpr (.inr ?_)
                apply Classical.byContradiction
                intro h2
                rw [cnt_notin h2] at hcq
                omega
              | some y => rw [q'] at e1; have e1 : cnt (pin g e.2.1 (cnt g e.2.1 + m)) q = y := e1; rw [e1]
            rw [hgg] at dg
            have pl := pin_len (c := g) (p := e.2.1) (x := cnt g e.2.1 + m)
            refine ⟨_, rfl, _, rfl, ga, _, (e.1 : Int), _, rfl, rfl, SqL.of hga8, atI_nat hgad, _, rfl, gad, _, rfl, dg, _, rfl, _, _, rfl, rfl, _, rfl, _, rfl, ga, _, (e.1 : Int), _, rfl, rfl, SqL.of hga8, atI_nat hgad, _, rfl, gad, _, rfl, DPut.t (b := qa) (k := pk q) upd_same hqa8 (by rw [enc_len, sizeLine_eq]; omega), ?_⟩
            rw [enc_put]
            refine ⟨_, _, _, rfl, (k7.put (.inl gadin)).put (.inl gadin), by rw [upd_ne gadl.symm, upd_ne gadl.symm]; exact hl7, ?_⟩
            rw [st, hq]
            have e2 : upd (upd H7 gad (.dT (encI (pin g e.2.1 (cnt g e.2.1 + m))))) gad (.dT (encI (pin (pin g e.2.1 (cnt g e.2.1 + m)) q (cnt (pin g e.2.1 (cnt g e.2.1 + m)) q - m)))) = upd H7 gad (.dT (encI (up1 m e.2.1 (some q) g))) := by
              funext b
              by_cases hb : b = gad
              · rw [hb, upd_same, upd_same]; rfl
              · rw [upd_ne hb, upd_ne hb, upd_ne hb]
            rw [e2]
            exact Paired_set hnd'.2 hgad1 hG7
        · rintro σ H7 ⟨a, b, c, rfl, k7, hl7, hG7⟩
          rw [List.length_map, hwP.length, List.take_length] at hG7
          refine ⟨_, rfl, _, rfl, (by show 2 ≤ sizeLine; decide), fun t ht => ?_⟩
          have s8 := same_new (o := .tup [.int m, .ref hd]) ht
          refine kk t hd m _ _ _ upd_same ((k6.trans k7).trans (Kept.of s8)) (s8 _ _ hl7) (Paired_mono (fun a b hr => s8 _ _ hr) hG7) (by omega) hFin (fun g hg => ?_) (by omega) hmx (fun z => by omega)
          obtain ⟨j, hj, e⟩ := List.getElem_of_mem hg
          obtain ⟨g0, q1, q2⟩ := fold_len hndw (by rw [List.getElem?_eq_getElem hj, e])
          have h1 := hLB g0 (List.mem_of_getElem? q1)
          rw [sum_set hlk]
          omega
end
end K70

end
section
set_option maxRecDepth 100000
set_option maxHeartbeats 4000000
/-! led. -/
namespace K70
open PySem PySem.Spec PyProof.Rows L2 K70M
def RK (n : Nat) (kvs : List (Key × V)) : Prop := ∃ is : List Nat, kvs.map (·.1) = is.map (fun i : Nat => (Sum.inl (i : Int) : Key)) ∧ is.Nodup ∧ ∀ i ∈ is, i < n
theorem RK.nil {n : Nat} : RK n [] := ⟨[], rfl, List.nodup_nil, fun i hi => by cases hi⟩
theorem RK.put {n j : Nat} {kvs : List (Key × V)} {v : V} (h : RK n kvs) (hj : j < n) : RK n (putK kvs (Sum.inl (j : Int)) v) ∧ putK kvs (Sum.inl (j : Int)) v ≠ [] := by
  obtain ⟨is, e, hn, hb⟩ := h
  unfold putK
  by_cases q : (kvs.any fun kv => decide (kv.1 = (Sum.inl (j : Int) : Key))) = true
  · rw [if_pos q]
    refine ⟨⟨is, ?_, hn, hb⟩, fun z => ?_⟩
    · rw [← e, List.map_map]
      refine List.map_congr_left fun kv _ => ?_
      show (if kv.1 = (Sum.inl (j : Int) : Key) then (kv.1, v) else kv).1 = kv.1
      split <;> rfl
    · rw [List.map_eq_nil_iff.mp z] at q
      cases q
  · rw [if_neg q]
    refine ⟨⟨is ++ [j], ?_, ?_, fun i hi => ?_⟩, by simp⟩
    · rw [List.map_append, List.map_append, e]; rfl
    · rw [List.nodup_append]
      refine ⟨hn, by simp, fun x hx y hy z => q ?_⟩
      have hy : y = j := List.mem_singleton.mp hy
      have hx2 : (Sum.inl (x : Int) : Key) ∈ kvs.map (·.1) := by rw [e]; exact List.mem_map.mpr ⟨x, hx, rfl⟩
      obtain ⟨kv, h1, h2⟩ := List.mem_map.mp hx2
      rw [List.any_eq_true]
      exact ⟨kv, h1, decide_eq_true (by rw [h2, z, hy])⟩
    · rcases List.mem_append.mp hi with z | z
      · exact hb i z
      · rw [List.mem_singleton.mp z]; exact hj
theorem RK.merge {n : Nat} : ∀ {hs : Hs} {kvs : List (Key × V)}, RK n kvs → (∀ e ∈ hs, e.1 < n) → RK n (mergeK kvs (encH hs)) ∧ (kvs ≠ [] ∨ hs ≠ [] → mergeK kvs (encH hs) ≠ [])
  | [], kvs, h, _ => ⟨h, fun z => by
      rcases z with z | z
      · exact z
      · exact absurd rfl z⟩
  | e :: hs, kvs, h, hb => by
    have h1 := h.put (v := refO e.2) (hb e List.mem_cons_self)
    have h2 := RK.merge (hs := hs) h1.1 fun x hx => hb x (List.mem_cons_of_mem _ hx)
    exact ⟨h2.1, fun _ => h2.2 (.inl h1.2)⟩
theorem RK.len {n : Nat} {kvs : List (Key × V)} (h : RK n kvs) : kvs.length ≤ n := by
  obtain ⟨is, e, hn, hb⟩ := h
  have := nodup_lt n is hn hb
  have e2 := congrArg List.length e
  rw [List.length_map, List.length_map] at e2
  omega
def wants0 (wants : List Want) : Prop := (∀ w ∈ wants, 0 ≤ w.2.2) ∧ (wants.map (·.2.2)).sum ≤ 400000
def spLed (C : Addr) : Sp := fun vs H Q _ => ∃ (h wa : Addr) (rows : List Row) (wants : List Want), vs = [.ref h, .ref wa] ∧ HeapAt C H h rows ∧ rows.length ≤ 1000 ∧ WantsAt H wa wants ∧ wants.length ≤ 60 ∧ (∀ w ∈ wants, w.2.1.length ≤ 1000) ∧ wants0 wants ∧
  ∀ (r ga l la ra : Addr) (gas : List Addr) (G : List (List Row)) (ns : List Nat) (H' : Hp), H' r = some (.tup [.ref ga, .ref l, .ref la, .ref ra]) → Same H H' → H' ga = some (.lst (gas.map V.ref)) → Paired (DAt H') gas G → G.length = wants.length → (∀ g ∈ G, Nd g ∧ g.length ≤ 1000000) →
    H' ra = some (.lst (ns.map fun i : Nat => V.int (i : Int))) → (∀ i ∈ ns, i < wants.length) → ns.length ≤ 60 → (ns = [] → Deals (cnt rows) (wants.map wtP)) → (ns ≠ [] → ¬ Deals (cnt rows) (wants.map wtP)) → Q (.ref r) H'
theorem DAt_any {H : Hp} {gas : List Addr} {G : List (List Row)} (h : Paired (DAt H) gas G) {a : Addr} (ha : a ∈ gas) : ∃ c, H a = some (.dT c) := by
  obtain ⟨j, hj, e⟩ := List.getElem_of_mem ha
  obtain ⟨a', g, q1, q2, q3, q4⟩ := pget (x := V.ref a) h (i := j) (by rw [List.getElem?_map, List.getElem?_eq_getElem hj, e]; rfl)
  cases q3
  exact ⟨_, q4⟩
theorem perm_nats {ys : List Int} {is : List Nat} (h : ys.Perm (is.map fun i : Nat => (i : Int))) : ∃ ns : List Nat, ns.Perm is ∧ ys = ns.map fun i : Nat => (i : Int) := by
  refine ⟨ys.map Int.toNat, ?_, ?_⟩
  · have := h.map Int.toNat
    rw [List.map_map] at this
    have e : (Int.toNat ∘ fun i : Nat => (i : Int)) = id := by funext i; rfl
    rw [e, List.map_id] at this
    exact this
  · rw [List.map_map]
    have : ∀ y ∈ ys, ((fun i : Nat => (i : Int)) ∘ Int.toNat) y = y := fun y hy => by
      obtain ⟨i, _, rfl⟩ := List.mem_map.mp (h.mem_iff.mp hy)
      rfl
    exact ((List.map_congr_left this).trans (List.map_id _)).symm
theorem ixN_nat {n j : Nat} (h : j < n) : ixN n (j : Int) = some j := by
  unfold ixN
  rw [if_pos (by omega), if_pos (by omega)]
  simp
/-- led's things, new, as they stand -/
structure LedH (H0 H : Hp) (ga l la : Addr) (gas : List Addr) (rows : List Row) (wants : List Want) (G : List (List Row)) (L : List Row) (lk : List Int) : Prop where
  s : Same H0 H
  g : H ga = some (.lst (gas.map V.ref))
  d : Paired (DAt H) gas G
  l : H l = some (.dT (encI L))
  ln : L.length ≤ 1000
  la : H la = some (.lst (lk.map V.int))
  f : Flow (cnt rows) (wants.map wtP) G L lk
  b : LenB G lk
section
variable {P : Program} {w : World} {K : PySem.W.Frag} {mg : Str → Option Value} {base : Heap}
theorem ok_led {f C : Addr} {fd : FuncData} (F : Fun K "led" "led" s_led f fd) (B : BT mg) (sp : Cl P w K mg base CX0 3 "spread" ["heap", "wants", "gifts", "left", "k"] [] (spSpread C)) (ld : Cl P w K mg base CX0 4 "lead" ["heap", "wants", "gifts", "left", "k", "most"] [] (spLead C)) (pl : Cl P w K mg base CX0 2 "parts_left" ["heap"] [] (spPartsLeft C)) :
    FnOk P w K mg base CX0 5 f fd ["heap", "wants"] (spLed C) := by
  refine F.ok sc_led (fun vs H Q E h => ?_) (fun cdv A outer s H vs Q E hr h => ?_)
  · obtain ⟨_, _, _, _, rfl, _⟩ := h
    rfl
  · obtain ⟨h, wa, rows, wants, rfl, hh, hlen, hw, hwl, hws, ⟨hw0, hwsum⟩, kk⟩ := h
    have hu := hu_of hr
    have nd := sc_led.nd
    refine ⟨_, pss_cons (ps_setLc (i := 2) (own := [("want", 9)]) (g := gName 9) (tt := tYes) rfl nd rfl rfl (sw_true rfl rfl rfl (by decide +kernel)) (pi_tup (pv 1))
        (blkOk_by (N := ["heap", "wants", "gifts", "left", "lacks", "k", "many", "holders", "reached", "want"]) (sc := defScope s_led) (by decide +kernel))
        (fun _ _ _ _ _ => pg_name (i := 9) nd rfl (Or.inl rfl)) (fun _ _ _ _ _ => pts_nil) (fun _ _ _ _ _ => pe_dnewT))
      (pss_cons (ps_set (i := 3) nd rfl (Or.inl rfl) (pe_k pl (hr.mono (by decide)) rfl pass0 (pa_cons (pv 0) pa_nil)))
      (pss_cons (ps_setLc (i := 4) (own := [("want", 9)]) (g := gName 9) (tt := tYes) rfl nd rfl rfl (sw_true rfl rfl rfl (by decide +kernel)) (pi_tup (pv 1))
        (blkOk_by (N := ["heap", "wants", "gifts", "left", "lacks", "k", "many", "holders", "reached", "want"]) (sc := defScope s_led) (by decide +kernel))
        (fun _ _ _ _ _ => pg_name (i := 9) nd rfl (Or.inl rfl)) (fun _ _ _ _ _ => pts_nil) (fun _ _ _ _ _ => pe_ix (ix_tupK K) (pv 9) pe_int (fun _ _ => rfl)))
      (pss_cons (ps_for PassesOwn.never rfl (pi_range1 rfl B.range (pa_cons (pe_callB call_len_seq (by rfl) B.len PySem.boot_len (pa_cons (pv 1) pa_nil)) pa_nil)) (pg_name (i := 5) nd rfl (Or.inl rfl))
        (pss_cons (ps_set (i := 6) nd rfl (Or.inl rfl) pe_int)
        (pss_one (ps_while PassesOwn.never (PW.pt (pw_and (pt_cmpR op_gt (pe_ix ix_list (pv 4) (pv 5) (fun _ _ => rfl)) pe_int (nomark _)) (pw_and1 (pt_cmpR op_gt (pv 6) pe_int (nomark _)))))
          (pss_cons (ps_asg (pe_k ld hr rfl pass0 (pa_cons (pv 0) (pa_cons (pv 1) (pa_cons (pv 2) (pa_cons (pv 3) (pa_cons (pv 5) (pa_cons (pe_ix ix_list (pv 4) (pv 5) (fun _ _ => rfl)) pa_nil))))))) (pg_tup rfl (pgs_cons (pg_name (i := 6) nd rfl (Or.inl rfl)) (pgs_cons (pg_name (i := 7) nd rfl (Or.inl rfl)) pgs_nil))))
          (pss_one (ps_asg (pe_op op_sub (pe_ix ix_list (pv 4) (pv 5) (fun _ _ => rfl)) (pv 6)) (pg_sub (pv 4) (pv 5) set_list))))))))
      (pss_cons (ps_set (i := 8) nd rfl (Or.inl rfl) pe_dnewK)
      (pss_cons (ps_for PassesOwn.never rfl (pi_range1 rfl B.range (pa_cons (pe_callB call_len_seq (by rfl) B.len PySem.boot_len (pa_cons (pv 1) pa_nil)) pa_nil)) (pg_name (i := 5) nd rfl (Or.inl rfl))
        (pss_one (ps_if (pt_cmpR op_gt (pe_ix ix_list (pv 4) (pv 5) (fun _ _ => rfl)) pe_int (nomark _))
          (pss_one (ps_expr (pe_bm PySem.F.plainAttrs_dict PySem.F.slot_dict_update PySem.F.type_dict_update mt_update (pv 8) (pa_cons (pe_ix ix_tup (pe_k sp (hr.mono (by decide)) rfl pass0 (pa_cons (pv 0) (pa_cons (pv 1) (pa_cons (pv 2) (pa_cons (pv 3) (pa_cons (pv 5) pa_nil)))))) pe_int (fun _ _ => rfl)) pa_nil))))
          pss_nil)))
      (pss_one (ps_ret (pe_tup (pa_cons (pv 2) (pa_cons (pv 3) (pa_cons (pv 4) (pa_cons (pe_callB (call_sortedDI rfl) (by rfl) B.sorted (by decide +kernel) (pa_cons (pv 8) pa_nil)) pa_nil)))))))))))), ?_⟩
    obtain ⟨was, hW, hWP⟩ := id hw
    have lw : (was.map V.ref).length = wants.length := by rw [List.length_map]; exact hWP.length
    -- gifts = [{} for want in wants]
    refine ⟨_, rfl, wa, rfl, ⟨_, SqT.of hW⟩, fun ga hgan => ?_⟩
    refine lc_tup (K := K) (a := wa) (xs := was.map V.ref) (fun i H2 => Same H H2 ∧ ∃ gas : List Addr, H2 ga = some (.lst (gas.map V.ref)) ∧ Paired (DAt H2) gas (List.replicate i []) ∧ gas.Nodup ∧ (∀ a ∈ gas, H a = none) ∧ gas.length = i)
      ⟨same_new hgan, [], upd_same, .nil, List.nodup_nil, (fun a ha => by cases ha), rfl⟩ (fun i H2 _ ⟨z, _⟩ => SqT.of (z _ _ hW)) ?_ ?_
    · rintro i y H2 hi ⟨s2, gas, hg, hgP, hgn, hgf, hgl⟩
      have hil : i < wants.length := by have := (List.getElem?_eq_some_iff.mp hi).1; omega
      refine ⟨rfl, fun p hp => ?_⟩
      have s3 := same_new (o := .dT []) hp
      have hpg : p ≠ ga := fun z => by rw [z, hg] at hp; cases hp
      have hpn : p ∉ gas := fun hm => by
        obtain ⟨c, hc⟩ := DAt_any hgP hm
        rw [hc] at hp
        cases hp
      refine ⟨gas.map V.ref, s3 _ _ hg, by rw [List.length_map, sizeLine_eq]; omega, same_put (s2.trans s3) hgan, gas ++ [p], by rw [upd_same, List.map_append]; rfl, ?_, ?_, fun a ha => ?_, by rw [List.length_append]; show gas.length + 1 = i + 1; omega⟩
      · have er : List.replicate (i + 1) ([] : List Row) = List.replicate i [] ++ [[]] := by rw [List.replicate_succ']
        rw [er]
        refine Paired_snoc (Paired_mono (fun a g hr => ?_) hgP) ?_
        · have hr : H2 a = some (.dT (encI g)) := hr
          show upd (upd H2 p _) ga _ a = _
          rw [upd_ne (fun z => by rw [z, hg] at hr; cases hr)]
          exact s3 _ _ hr
        · show upd (upd H2 p _) ga _ p = _
          rw [upd_ne hpg, upd_same]
          rfl
      · rw [List.nodup_append]
        refine ⟨hgn, by simp, fun x hx y hy z => hpn ?_⟩
        rw [← List.mem_singleton.mp hy, ← z]
        exact hx
      · rcases List.mem_append.mp ha with z | z
        · exact hgf a z
        · rw [List.mem_singleton.mp z]; exact s2.free hp
    · rintro H2 ⟨s2, gas, hg, hgP, hgn, hgf, hgl⟩
      rw [lw] at hgP hgl
      -- left = parts_left(heap)
      refine ⟨_, rfl, h, rows, rfl, hh.mono _ _ _ _ s2, hlen, fun l L H3 hln s3 hL hLn hLnn hLc hLl => ?_⟩
      have s23 := s2.trans s3
      have hlg : l ∉ gas := fun hm => by
        obtain ⟨c, hc⟩ := DAt_any hgP hm
        rw [hc] at hln
        cases hln
      have hlf : H l = none := s2.free hln
      -- lacks = [want[2] for want in wants]
      refine ⟨_, rfl, wa, rfl, ⟨_, SqT.of (s23 _ _ hW)⟩, fun la hlan => ?_⟩
      refine lc_tup (K := K) (a := wa) (xs := was.map V.ref) (fun i H4 => Same H3 H4 ∧ H4 la = some (.lst (((wants.take i).map (·.2.2)).map V.int)))
        ⟨same_new hlan, upd_same⟩ (fun i H4 _ ⟨z, _⟩ => SqT.of (z _ _ (s23 _ _ hW))) ?_ ?_
      · rintro i y H4 hi ⟨s4, hla⟩
        obtain ⟨wad, wt, g1, g2, rfl, g3⟩ := pget hWP hi
        have hil : i < wants.length := (List.getElem?_eq_some_iff.mp g2).1
        obtain ⟨ta, hw1, _⟩ := WantAt.mono _ _ _ _ (s23.trans s4) g3
        refine ⟨rfl, _, rfl, wad, _, 2, _, rfl, rfl, SqT.of hw1, rfl, _, hla, by rw [List.length_map, List.length_map, List.length_take, sizeLine_eq]; omega, same_put s4 hlan, ?_⟩
        rw [upd_same, take_snoc g2, List.map_append, List.map_append]
        rfl
      · rintro H4 ⟨s4, hla⟩
        rw [lw, List.take_length] at hla
        have hlaf : H la = none := s23.free hlan
        have hgala : ga ≠ la := ne_of_none (s3 _ _ hg) hlan
        have hnd0 : (l :: gas).Nodup := List.nodup_cons.mpr ⟨hlg, hgn⟩
        have hlk0 : ∀ (j : Nat) (x : Int), (wants.map (·.2.2))[j]? = some x → ∃ wt, wants[j]? = some wt ∧ x = wt.2.2 := fun j x hx => by
          rw [List.getElem?_map, Option.map_eq_some_iff] at hx
          obtain ⟨wt, h1, h2⟩ := hx
          exact ⟨wt, h1, h2.symm⟩
        have LH0 : LedH H H4 ga l la gas rows wants (List.replicate wants.length []) L (wants.map (·.2.2)) := by
          refine ⟨s23.trans s4, s4 _ _ (s3 _ _ hg), Paired_mono (fun a g hr => s4 _ _ (s3 _ _ hr)) hgP, s4 _ _ hL, by omega, hla, ⟨⟨by rw [List.length_replicate, List.length_map], by rw [List.length_map, List.length_map], fun g hg => ?_, fun i g w' h1 h2 e he => ?_, fun i g w' x h1 h2 h3 => ?_⟩, hLnn, hLn, fun p => ?_⟩, fun g hg => ?_⟩
          · rw [List.eq_of_mem_replicate hg]
            exact ⟨(fun e he => by cases he), List.nodup_nil⟩
          · rw [List.eq_of_mem_replicate (List.mem_of_getElem? h1)] at he
            cases he
          · obtain ⟨wt, h4, h5⟩ := hlk0 i x h3
            rw [List.getElem?_map, h4] at h2
            cases h2
            rw [List.eq_of_mem_replicate (List.mem_of_getElem? h1), h5]
            exact ⟨by show (0 : Int) + wt.2.2 = wt.2.2; omega, hw0 wt (List.mem_of_getElem? h4)⟩
          · rw [hLc]
            have : ∀ n : Nat, cnt (List.replicate n ([] : List Row)).flatten p = 0 := fun n => by
              induction n with
              | zero => rfl
              | succ n ih => rw [List.replicate_succ, List.flatten_cons, List.nil_append]; exact ih
            rw [this]
            omega
          · rw [List.eq_of_mem_replicate hg]
            show (0 : Int) + 2 * _ ≤ _
            omega
        have gfr : ∀ a ∈ l :: gas, H a = none := fun a ha => by
          rcases List.mem_cons.mp ha with z | z
          · rw [z]; exact hlf
          · exact hgf a z
        -- for k in range(len(wants))
        refine ⟨_, rfl, wa, _, rfl, .inr (SqT.of (LH0.s _ _ hW)), _, rfl, by omega, by rw [lw]; omega, ?_⟩
        refine for_range (lo := 0) (n := (was.map V.ref).length) (fun i σ H5 => ∃ (G : List (List Row)) (L : List Row) (lk : List Int) (a b c : Option V), σ = [some (.ref h), some (.ref wa), some (.ref ga), some (.ref l), some (.ref la), a, b, c, none, none] ∧ LedH H H5 ga l la gas rows wants G L lk ∧ ∀ (j : Nat) (x : Int), j < i → lk[j]? = some x → 0 < x → ¬ Deals (cnt rows) (wants.map wtP))
          ⟨_, _, _, none, none, none, rfl, LH0, (fun j x hj => by omega)⟩ ?_ ?_
        · rintro k σ H5 hk ⟨G, L, lk, a, b, c, rfl, LH, hdone⟩
          rw [lw] at hk
          have ek : (0 : Int) + (k : Int) = (k : Int) := by omega
          rw [ek]
          refine ⟨fun m σ H6 => ∃ (G : List (List Row)) (L : List Row) (lk : List Int) (M x : Int) (c : Option V), σ = [some (.ref h), some (.ref wa), some (.ref ga), some (.ref l), some (.ref la), some (.int (k : Int)), some (.int M), c, none, none] ∧ LedH H H6 ga l la gas rows wants G L lk ∧ lk[k]? = some x ∧ (0 < M ∨ ¬ Deals (cnt rows) (wants.map wtP)) ∧
              m = 2 * x.toNat + (if 0 < M then 1 else 0) ∧ ∀ (j : Nat) (x : Int), j < k → lk[j]? = some x → 0 < x → ¬ Deals (cnt rows) (wants.map wtP), ?_, ?_⟩
          · obtain ⟨x, hx⟩ : ∃ x, lk[k]? = some x := ⟨_, List.getElem?_eq_getElem (by have := LH.f.f.ll; rw [List.length_map] at this; omega)⟩
            exact ⟨_, G, L, lk, 1, x, _, rfl, LH, hx, .inl (by decide), rfl, hdone⟩
          · rintro m σ H6 ⟨G, L, lk, M, x, c, rfl, LH, hx, hM, hm, hdone⟩
            have hxl : (lk.map V.int)[k]? = some (.int x) := by rw [List.getElem?_map, hx]; rfl
            refine ⟨_, rfl, _, rfl, la, _, (k : Int), _, rfl, rfl, SqL.of LH.la, atI_nat hxl, _, _, rfl, rfl, _, rfl, ?_⟩
            have out : (0 < x → ¬ Deals (cnt rows) (wants.map wtP)) → ∃ (G : List (List Row)) (L : List Row) (lk : List Int) (a' b' c' : Option V), [some (V.ref h), some (.ref wa), some (.ref ga), some (.ref l), some (.ref la), some (.int (k : Int)), some (.int M), c, none, none] = [some (V.ref h), some (.ref wa), some (.ref ga), some (.ref l), some (.ref la), a', b', c', none, none] ∧ LedH H H6 ga l la gas rows wants G L lk ∧ ∀ (j : Nat) (x : Int), j < k + 1 → lk[j]? = some x → 0 < x → ¬ Deals (cnt rows) (wants.map wtP) := fun z => ⟨G, L, lk, _, _, _, rfl, LH, fun j y hj hy hy0 => by
                by_cases e : j = k
                · rw [e, hx] at hy
                  cases hy
                  exact z hy0
                · exact hdone j y (by omega) hy hy0⟩
            by_cases hx0 : 0 < x
            · rw [decide_eq_true hx0]
              refine iteT ?_
              refine ⟨_, rfl, _, _, rfl, rfl, _, rfl, ?_⟩
              by_cases hM0 : 0 < M
              · rw [decide_eq_true hM0]
                refine iteT ?_
                refine ⟨_, fun _ _ z => z, ?_⟩
                rw [if_pos hM0] at hm
                have s6 := LH.s
                refine ⟨_, rfl, _, rfl, _, rfl, _, rfl, _, rfl, _, rfl, _, rfl, la, _, (k : Int), _, rfl, rfl, SqL.of LH.la, atI_nat hxl, h, wa, ga, l, k, rows, wants, gas, G, L, lk, x, rfl, hh.mono _ _ _ _ s6, hlen, WantsAt.mono _ _ _ _ s6 hw, hwl, hws, LH.g, LH.d, LH.l, hnd0, LH.ln, LH.f, hx, hx0, LH.b, fun r hd m' G' L' H7 hr7 k7 hl7 hG7 hLn7 hF7 hLB7 hm0 hmx hno => ?_⟩
                refine ⟨r, _, rfl, SqT.of hr7, rfl, _, _, rfl, _, _, rfl, rfl, ?_⟩
                have hms : ∀ a ∈ l :: gas, ∃ c, H6 a = some (.dT c) := fun a ha => by
                  rcases List.mem_cons.mp ha with z | z
                  · rw [z]; exact ⟨_, LH.l⟩
                  · exact DAt_any LH.d z
                have hla7 : H7 la = some (.lst (lk.map V.int)) := k7.at hms LH.la (fun c z => by cases z)
                have hga7 : H7 ga = some (.lst (gas.map V.ref)) := k7.at hms LH.g (fun c z => by cases z)
                have s7 : Same H H7 := Kept.new s6 k7 gfr
                have hkl : k < lk.length := (List.getElem?_eq_some_iff.mp hx).1
                refine ⟨_, rfl, _, rfl, la, _, (k : Int), _, rfl, rfl, SqL.of hla7, atI_nat hxl, _, rfl, _, _, rfl, rfl, _, rfl, _, rfl, la, _, (k : Int), k, rfl, rfl, hla7, ?_, ?_⟩
                · rw [List.length_map]
                  exact ixN_nat hkl
                · have em : (lk.map V.int).set k (V.int (x - m')) = (lk.set k (x - m')).map V.int := by rw [List.map_set]
                  rw [em]
                  have nla : ∀ {a : Addr} {c : List (List Key × V)}, H7 a = some (.dT c) → a ≠ la := fun {a c} e => ne_of e hla7 (by intro z; cases z)
                  refine ⟨2 * (x - m').toNat + (if 0 < m' then 1 else 0), ?_, G', L', lk.set k (x - m'), m', x - m', _, rfl, ⟨same_put s7 hlaf, ?_, Paired_upd hG7 (fun a ha => ?_), ?_, hLn7, upd_same, hF7, hLB7⟩, ?_, ?_, rfl, fun j y hj hy hy0 => ?_⟩
                  · split <;> omega
                  · rw [upd_ne]
                    · exact hga7
                    · exact hgala
                  · obtain ⟨c', hc'⟩ := DAt_any hG7 ha
                    exact nla hc'
                  · rw [upd_ne (nla hl7)]
                    exact hl7
                  · rw [List.getElem?_set, if_pos rfl, if_pos hkl]
                  · by_cases e : m' = 0
                    · exact .inr (hno e)
                    · exact .inl (by omega)
                  · rw [List.getElem?_set, if_neg (by omega)] at hy
                    exact hdone j y hj hy hy0
              · rw [decide_eq_false hM0]
                refine iteF ?_
                exact out fun _ => by
                  rcases hM with z | z
                  · exact absurd z hM0
                  · exact z
            · rw [decide_eq_false hx0]
              refine iteF ?_
              refine iteF ?_
              exact out fun z => absurd z hx0
        · rintro σ H5 ⟨G, L, lk, a, b, c, rfl, LH, hdone⟩
          rw [lw] at hdone
          have hGl : G.length = wants.length := by have := LH.f.f.lG; rw [List.length_map] at this; exact this
          have hkll : lk.length = wants.length := by have := LH.f.f.ll; rw [List.length_map] at this; exact this
          have hlk00 := Flow.lk_nonneg LH.f
          intro rd hrd
          have s5 := same_new (o := .dK []) hrd
          have LHs : ∀ {H6 : Hp}, Same H5 H6 → LedH H H6 ga l la gas rows wants G L lk := fun s => ⟨LH.s.trans s, s _ _ LH.g, Paired_mono (fun a b hr => s _ _ hr) LH.d, s _ _ LH.l, LH.ln, s _ _ LH.la, LH.f, LH.b⟩
          refine ⟨_, rfl, wa, _, rfl, .inr (SqT.of ((LHs s5).s _ _ hW)), _, rfl, by omega, by rw [lw]; omega, ?_⟩
          refine for_range (lo := 0) (n := (was.map V.ref).length) (fun i σ H6 => ∃ (kvs : List (Key × V)) (a : Option V), σ = [some (.ref h), some (.ref wa), some (.ref ga), some (.ref l), some (.ref la), a, b, c, some (.ref rd), none] ∧ Same H5 H6 ∧ H6 rd = some (.dK kvs) ∧ RK wants.length kvs ∧ (kvs = [] → ∀ (j : Nat) (x : Int), j < i → lk[j]? = some x → x ≤ 0) ∧ (kvs ≠ [] → ¬ Deals (cnt rows) (wants.map wtP)))
            ⟨[], _, rfl, s5, upd_same, RK.nil, (fun _ j x hj => by omega), (fun z => absurd rfl z)⟩ ?_ ?_
          · rintro k σ H6 hk ⟨kvs, a, rfl, s6, hrk, hR, hz1, hz2⟩
            rw [lw] at hk
            have ek : (0 : Int) + (k : Int) = (k : Int) := by omega
            rw [ek]
            have LH6 := LHs s6
            obtain ⟨x, hx⟩ : ∃ x, lk[k]? = some x := ⟨_, List.getElem?_eq_getElem (by omega)⟩
            have hxl : (lk.map V.int)[k]? = some (.int x) := by rw [List.getElem?_map, hx]; rfl
            refine ⟨_, rfl, _, rfl, la, _, (k : Int), _, rfl, rfl, SqL.of LH6.la, atI_nat hxl, _, _, rfl, rfl, _, rfl, ?_⟩
            by_cases hx0 : 0 < x
            · rw [decide_eq_true hx0]
              refine iteT ?_
              have hno := hdone k x hk hx hx0
              refine ⟨_, rfl, .inr (.inr (.inl ⟨rfl, .inl ⟨_, hrk⟩⟩)), _, rfl, _, rfl, _, rfl, _, rfl, _, rfl, h, wa, ga, l, k, rows, wants, gas, G, L, rfl, hh.mono _ _ _ _ LH6.s, hlen, WantsAt.mono _ _ _ _ LH6.s hw, hwl, hws, LH6.g, LH6.d, hGl, LH6.l, LH6.f.dL, (fun g hg => (LH6.f.f.nG g hg).2), hk, fun r pd hd Pn hs o v H7 s7 hr7 npd nhd hpd hhd hHs hSp hv => ?_⟩
              obtain ⟨at_, S, _⟩ := hSp
              have hrd7 := s7 _ _ hrk
              have hR2 := RK.merge hR S.hb
              have lhs : hs.length ≤ 60 := Nat.le_trans (len_le S.hn S.hb) hwl
              have lkv := hR.len
              have hsne : hs ≠ [] := fun z => by
                have := S.h0
                rw [z] at this
                cases this
              refine ⟨r, _, 1, _, rfl, rfl, SqT.of hr7, rfl, rd, hd, kvs, encH hs, rfl, rfl, hrd7, hhd, ne_of_none hrk nhd, by rw [encH_len, sizeLine_eq]; omega, ?_⟩
              refine ⟨mergeK kvs (encH hs), _, rfl, ?_, upd_same, hR2.1, fun z => absurd z (hR2.2 (.inr hsne)), fun _ => hno⟩
              exact same_put (s6.trans s7) hrd
            · rw [decide_eq_false hx0]
              refine iteF ?_
              refine ⟨kvs, _, rfl, s6, hrk, hR, fun z j y hj hy => ?_, hz2⟩
              by_cases e : j = k
              · rw [e, hx] at hy
                cases hy
                omega
              · exact hz1 z j y (by omega) hy
          · rintro σ H6 ⟨kvs, a, rfl, s6, hrk, hR, hz1, hz2⟩
            rw [lw] at hz1
            have LH6 := LHs s6
            obtain ⟨is, e1, e2, e3⟩ := id hR
            have lis := nodup_lt _ is e2 e3
            refine ⟨_, rfl, _, rfl, _, rfl, _, rfl, rd, kvs, is.map fun i : Nat => (i : Int), rfl, .inl hrk, ?_, by rw [List.length_map]; omega, fun ys p hperm _ hp => ?_⟩
            · rw [e1, List.map_map]
              rfl
            obtain ⟨ns, hns, rfl⟩ := perm_nats hperm
            have s7 := same_new (o := .lst ((ns.map fun i : Nat => (i : Int)).map V.int)) hp
            refine ⟨(by show 4 ≤ sizeLine; decide), fun t ht => ?_⟩
            have s8 := same_new (o := .tup [.ref ga, .ref l, .ref la, .ref p]) ht
            have s78 := s7.trans s8
            have nsz : ns = [] → kvs = [] := fun z => by
              rw [z] at hns
              have : is = [] := hns.nil_eq.symm
              rw [this] at e1
              exact List.map_eq_nil_iff.mp e1
            have kz : kvs = [] → ns = [] := fun z => by
              rw [z] at e1
              have : is = [] := List.map_eq_nil_iff.mp e1.symm
              rw [this] at hns
              exact hns.eq_nil
            refine kk t ga l la p gas G ns _ upd_same ((LH6.s.trans s7).trans s8) (s78 _ _ LH6.g) (Paired_mono (fun a b hr => s78 _ _ hr) LH6.d) hGl (fun g hg => ⟨(LH6.f.f.nG g hg).2, ?_⟩) ?_ (fun i hi => e3 i (hns.mem_iff.mp hi)) (by rw [hns.length_eq]; omega) (fun z => ?_) (fun z => ?_)
            · have h1 := LH6.b g hg
              have h2 := sum_nonneg hlk00
              omega
            · rw [upd_ne (ne_of_none upd_same ht), upd_same, List.map_map]
              rfl
            · refine LH6.f.deals fun x hx => ?_
              obtain ⟨j, hj, e⟩ := List.getElem_of_mem hx
              exact hz1 (nsz z) j x (by omega) (by rw [List.getElem?_eq_getElem hj, e])
            · exact hz2 fun y => z (kz y)
end
end K70

end
section
set_option maxRecDepth 100000
set_option maxHeartbeats 4000000
/-! as_gift; shades_of; deal. -/
namespace K70
open PySem PySem.Spec PyProof.Rows L2 K70M
def spAsGift : Sp := fun vs H Q _ => ∃ (d : Addr) (g : List Row), vs = [.ref d] ∧ H d = some (.dT (encI g)) ∧ Nd g ∧ g.length ≤ 1000000 ∧ ∀ (t : Addr) (H' : Hp), Same H H' → Q (.ref t) H'
def giftD (r : Str × Int) : PyData := .tuple [.str r.1, .int r.2]
theorem gifts_alike (ks : List (Str × Int)) : PySem.W.AllAlike (ks.map giftD) := PySem.W.AllAlike.of fun b b' => by
  show PySem.W.alike (.tuple [.str b.1, .int b.2]) (.tuple [.str b'.1, .int b'.2]) = true
  simp [PySem.W.alike, PySem.W.alikeAll]
theorem gifts_sortable (ks : List (Str × Int)) : PySem.W.Sortable (ks.map giftD) := PySem.W.Sortable.tuples fun b => ⟨.str b.1, [.int b.2], rfl⟩
theorem gifts_depth (ks : List (Str × Int)) : ∀ d ∈ ks.map giftD, d.depth ≤ 8 := fun d hd => by
  obtain ⟨k, _, rfl⟩ := List.mem_map.mp hd
  show (PyData.tuple [.str k.1, .int k.2]).depth ≤ 8
  simp [PyData.depth, PyData.depthAll]
def GiftAt (H : Hp) (a : Addr) (r : Str × Int) : Prop := H a = some (.tup [.str r.1, .int r.2])
theorem gifts_dp {K : PySem.W.Frag} {H : Hp} : ∀ {bs : List Addr} {ks : List (Str × Int)}, Paired (GiftAt H) bs ks → DpAll K H (bs.map V.ref) (ks.map giftD)
  | _, _, .nil => .nil
  | _, _, .cons r t => .cons (.tup (SqT.of r) (.cons (.str _) (.cons (.int _) .nil))) (gifts_dp t)
def spShades : Sp := fun vs H Q _ => ∃ (wa l : Addr) (wants : List Want) (ks : List Nat), vs = [.ref wa, .ref l] ∧ WantsAt H wa wants ∧ wants.length ≤ 60 ∧ (∀ w ∈ wants, w.2.1.length ≤ 16) ∧ H l = some (.lst (ks.map fun i : Nat => V.int (i : Int))) ∧ (∀ i ∈ ks, i < wants.length) ∧ ks.length ≤ 60 ∧
  ∀ (t : Addr) (ss : List Str) (H' : Hp), Same H H' → H' t = some (.tup (ss.map V.str)) → ss.length ≤ 1000 → Q (.ref t) H'
def spDeal (C : Addr) : Sp := fun vs H Q _ => ∃ (h wa : Addr) (rows : List Row) (wants : List Want), vs = [.ref h, .ref wa] ∧ HeapAt C H h rows ∧ rows.length ≤ 1000 ∧ WantsAt H wa wants ∧ wants.length ≤ 60 ∧ (∀ w ∈ wants, w.2.1.length ≤ 16) ∧ wants0 wants ∧
  ∀ (r : Addr) (H' : Hp), Same H H' → ((∃ t : Addr, H' r = some (.tup [.str ("dealt" : Str), .ref t]) ∧ Deals (cnt rows) (wants.map wtP)) ∨ (∃ (t : Addr) (pl : PlaceK), H' r = some (.tup [.str ("bar" : Str), .ref t]) ∧ PlaceAt H' t pl ∧ (∀ ss, pl.2 = some ss → ss.length ≤ 1000) ∧ ¬ Deals (cnt rows) (wants.map wtP))) → Q (.ref r) H'
theorem eqv_nilI (ns : List Int) : PyData.eqv (.list (ns.map PyData.int)) (.list []) = decide (ns = []) := by
  cases ns with
  | nil => rfl
  | cons a r => rfl
section
variable {P : Program} {w : World} {K : PySem.W.Frag} {mg : Str → Option Value} {base : Heap}
theorem ok_as_gift {f : Addr} {fd : FuncData} (F : Fun K "as_gift" "as_gift" s_as_gift f fd) (B : BT mg) : FnOk P w K mg base CX0 1 f fd ["some"] spAsGift := by
  refine F.ok sc_as_gift (fun vs H Q E h => ?_) (fun cdv A outer s H vs Q E hr h => ?_)
  · obtain ⟨_, _, rfl, _⟩ := h
    rfl
  · obtain ⟨d, g, rfl, hd, hn, hl, k⟩ := h
    have hu := hu_of hr
    have nd := sc_as_gift.nd
    refine ⟨_, pss_one (ps_ret (pe_callTy call_tuple_of (by rfl) B.tuple (by decide +kernel) (pa_cons (pe_callB (cr_sortD hr.units) (by rfl) B.sorted (by decide +kernel) (pa_cons
      (pe_lock (pe_lc (own := [("part", 1)]) (g := gName 1) rfl nd (pi_keys (pv 0))
        (blkOk_by (N := ["some", "part"]) (sc := defScope s_as_gift) (by decide +kernel))
        (fun _ _ _ _ _ => pg_name (i := 1) nd rfl (Or.inl rfl)) (fun _ _ _ _ _ => pts_one (pt_cmpR op_gt (pe_dget hu (pv 0) (pv 1) (fun _ _ => rfl)) pe_int (nomark _)))
        (fun _ _ _ _ _ => pe_tup (pa_cons (pe_ix (ix_tupK K) (pv 1) pe_int (fun _ _ => rfl)) (pa_cons (pe_dget hu (pv 0) (pv 1) (fun _ _ => rfl)) pa_nil)))))
      pa_nil)) pa_nil))), ?_⟩
    refine ⟨d, _, hd, trivial, fun od => ?_⟩
    refine ⟨_, rfl, d, od, rfl, .inr ⟨encI g, upd_same, fun D hD => ?_⟩⟩
    have hDd : D ≠ d := fun z => by rw [z, upd_same] at hD; cases hD
    have hD0 : H D = none := by rw [upd_ne hDd] at hD; exact hD
    refine lc_it walk_keysT (fun i H2 => H2 d = some (.frz od (.dT (encI g))) ∧ (∀ b o, H b = some o → b ≠ d → H2 b = some o) ∧ ∃ (bs : List Addr) (rs : List (Str × Int)), H2 D = some (.lst (bs.map V.ref)) ∧ Paired (GiftAt H2) bs rs ∧ rs.length ≤ i)
      ⟨by rw [upd_ne hDd.symm, upd_same], fun b o e n => by rw [upd_ne (ne_of_none e hD0), upd_ne n]; exact e, [], [], upd_same, .nil, Nat.le_refl _⟩ (fun i H2 _ ⟨z, _⟩ => z) ?_ ?_
    · rintro i y H2 H2' hi ⟨h1, h2, bs, rs, hb, hP, hrl⟩ ⟨rfl, ky, v, q, e1, rfl, e2⟩
      rw [enc_len] at hi
      have e3 : (encI g)[i]? = some (pk g[i].1, V.int g[i].2) := by
        unfold encI
        rw [List.getElem?_map, List.getElem?_eq_getElem hi]
        rfl
      rw [e3] at e1
      cases e1
      have hq : PartAt H2' q g[i].1 := e2
      have hin : g[i] ∈ g := List.getElem_mem hi
      have hg : gvo g g[i].1 = some g[i].2 := by
        have e4 := cnt_get hn g[i].1
        rw [cnt_at hn hin] at e4
        cases z : gvo g g[i].1 with
        | none => exact absurd (List.mem_map.mpr ⟨_, hin, rfl⟩) (K70M.get_none z)
        | some y => rw [z] at e4; have e4 : g[i].2 = y := e4; rw [e4]
      have dg : ∀ {H3 : Hp}, H3 d = some (.frz od (.dT (encI g))) → PartAt H3 q g[i].1 → DGet H3 d (.ref q) (some (.int g[i].2)) := fun {H3} a b => by
        have : DGet H3 d (.ref q) (valV (encI g) (pk g[i].1)) := .inr ⟨encI g, pk g[i].1, q, .inr ⟨od, a⟩, rfl, b, rfl⟩
        rw [enc_val, hg] at this
        exact this
      refine ⟨rfl, _, rfl, _, rfl, d, _, rfl, dg h1 hq, _, _, rfl, rfl, _, rfl, ?_⟩
      refine ite2 (fun _ => ?_) (fun _ => ?_)
      · refine ⟨_, rfl, q, _, 1, _, rfl, rfl, SqT.of hq, rfl, _, rfl, _, rfl, d, _, rfl, dg h1 hq, (by show 2 ≤ sizeLine; decide), fun t ht => ?_⟩
        have s3 := same_new (o := .tup [.str g[i].1.2, .int g[i].2]) ht
        have htD : t ≠ D := fun z => by rw [z, hb] at ht; cases ht
        refine ⟨bs.map V.ref, s3 _ _ hb, by rw [List.length_map, hP.length, sizeLine_eq]; omega, by rw [upd_ne hDd.symm]; exact s3 _ _ h1, fun b o e n => by rw [upd_ne (ne_of_none e hD0)]; exact s3 _ _ (h2 b o e n), bs ++ [t], rs ++ [(g[i].1.2, g[i].2)], by rw [upd_same, List.map_append]; rfl, ?_, by rw [List.length_append]; show rs.length + 1 ≤ i + 1; omega⟩
        refine Paired_snoc (Paired_mono (fun a r hr => ?_) hP) ?_
        · have hr : H2' a = some (.tup [.str r.1, .int r.2]) := hr
          show upd (upd H2' t _) D _ a = _
          rw [upd_ne (fun z => by rw [z, hb] at hr; cases hr)]
          exact s3 _ _ hr
        · show upd (upd H2' t _) D _ t = _
          rw [upd_ne htD, upd_same]
      · exact ⟨h1, h2, bs, rs, hb, hP, by omega⟩
    · rintro H2 ⟨h1, h2, bs, rs, hb, hP, hrl⟩
      rw [enc_len] at hrl
      refine ⟨h1, ?_⟩
      have hb' : upd H2 d (.dT (encI g)) D = some (.lst (bs.map V.ref)) := by rw [upd_ne hDd]; exact hb
      have hP' : Paired (GiftAt (upd H2 d (.dT (encI g)))) bs rs := Paired_mono (fun a r hr => by
        have hr : H2 a = some (.tup [.str r.1, .int r.2]) := hr
        show upd H2 d _ a = _
        rw [upd_ne (fun z => by rw [z, h1] at hr; cases hr)]
        exact hr) hP
      have s4 : Same H (upd H2 d (.dT (encI g))) := fun b o e => by
        by_cases z : b = d
        · rw [z] at e ⊢
          rw [hd] at e
          cases e
          exact upd_same
        · rw [upd_ne z]
          exact h2 b o e z
      refine ⟨D, _, _, rfl, SqL.of hb', gifts_dp hP', gifts_alike rs, gifts_sortable rs, gifts_depth rs, fun ys p _ hp => ?_⟩
      have s5 := same_new (o := .lst ys) hp
      refine ⟨p, _, rfl, .inl ⟨SqL.of upd_same, fun t ht => ?_⟩⟩
      exact k t _ ((s4.trans s5).trans (same_new ht))
theorem ok_shades_of {f : Addr} {fd : FuncData} (F : Fun K "shades_of" "shades_of" s_shades_of f fd) (B : BT mg) : FnOk P w K mg base CX0 1 f fd ["wants", "some"] spShades := by
  refine F.ok sc_shades_of (fun vs H Q E h => ?_) (fun cdv A outer s H vs Q E hr h => ?_)
  · obtain ⟨_, _, _, _, rfl, _⟩ := h
    rfl
  · obtain ⟨wa, l, wants, ks, rfl, hw, hwl, hws, hl, hkb, hkl, k⟩ := h
    have nd := sc_shades_of.nd
    refine ⟨_, pss_cons (ps_set (i := 2) nd rfl (Or.inl rfl) (pe_lst pa_nil))
      (pss_cons (ps_for PassesOwn.never rfl (pi_list (pv 1)) (pg_name (i := 3) nd rfl (Or.inl rfl))
        (pss_one (ps_expr (pe_bm PySem.F.plainAttrs_list PySem.F.slot_list_extend PySem.F.type_list_extend mt_extT (pv 2) (pa_cons (pe_ix ix_tup (pe_ix ix_tup (pv 0) (pv 3) (fun _ _ => rfl)) pe_int (fun _ _ => rfl)) pa_nil)))))
      (pss_one (ps_ret (pe_callTy call_tuple_of (by rfl) B.tuple (by decide +kernel) (pa_cons (pe_callB (cr_sortSetS rfl hr.units) (by rfl) B.sorted (by decide +kernel) (pa_cons (pe_callTy (cr_setS rfl) (by rfl) B.set (by decide +kernel) (pa_cons (pv 2) pa_nil)) pa_nil)) pa_nil))))), ?_⟩
    obtain ⟨was, hW, hWP⟩ := id hw
    refine ⟨(by show 0 ≤ sizeLine; decide), fun fl hfl => ?_⟩
    have s1 := same_new (o := .lst []) hfl
    refine ⟨_, rfl, l, rfl, ⟨_, SqL.of (s1 _ _ hl)⟩, for_list (K := K) (a := l) (xs := ks.map fun i : Nat => V.int (i : Int)) (fun i σ H2 => ∃ (ss : List Str) (a : Option V), σ = [some (.ref wa), some (.ref l), some (.ref fl), a] ∧ Same H H2 ∧ H2 fl = some (.lst (ss.map V.str)) ∧ ss.length ≤ 16 * i)
      ⟨[], none, rfl, s1, upd_same, Nat.le_refl _⟩ (fun i σ H2 _ ⟨_, _, _, s2, _⟩ => SqL.of (s2 _ _ hl)) ?_ ?_⟩
    · rintro i y σ H2 hi ⟨ss, a, rfl, s2, hf, hsl⟩
      rw [List.getElem?_map, Option.map_eq_some_iff] at hi
      obtain ⟨j, hj, rfl⟩ := hi
      have hil : i < ks.length := (List.getElem?_eq_some_iff.mp hj).1
      have hjl := hkb j (List.mem_of_getElem? hj)
      obtain ⟨wt, hwt⟩ : ∃ wt, wants[j]? = some wt := ⟨_, List.getElem?_eq_getElem hjl⟩
      have h16 := hws wt (List.mem_of_getElem? hwt)
      obtain ⟨wad, _, hwad, hwA⟩ := pgetB hWP hwt
      obtain ⟨ta, hw1, hw2, _⟩ := WantAt.mono _ _ _ _ s2 hwA
      refine ⟨_, rfl, .inl ⟨rfl, _, SqL.of hf⟩, _, rfl, _, rfl, wa, _, (j : Int), _, rfl, rfl, SqT.of (s2 _ _ hW), atI_nat hwad, wad, _, 1, _, rfl, rfl, SqT.of hw1, rfl, ?_⟩
      refine ⟨fl, ta, _, _, rfl, rfl, hf, SqT.of hw2, by rw [List.length_map, List.length_map, sizeLine_eq]; omega, ?_⟩
      exact ⟨ss ++ wt.2.1, _, rfl, same_put s2 hfl, by rw [upd_same, List.map_append], by rw [List.length_append]; omega⟩
    · rintro σ H2 ⟨ss, a, rfl, s2, hf, hsl⟩
      rw [List.length_map] at hsl
      refine ⟨_, rfl, fl, ss, rfl, SqL.of hf, by omega, fun st n hn hst => ?_⟩
      have s3 := same_new (o := SetGO P w st n) hst
      refine ⟨st, n, rfl, upd_same, fun xs p hx hp => ?_⟩
      have s4 := same_new (o := .lst (xs.map V.str)) hp
      refine ⟨p, _, rfl, .inl ⟨SqL.of upd_same, fun t ht => ?_⟩⟩
      exact k t xs _ (((s2.trans s3).trans s4).trans (same_new ht)) upd_same (by omega)
end
end K70

end
section
set_option maxRecDepth 100000
set_option maxHeartbeats 4000000
/-! deal. -/
namespace K70
open PySem PySem.Spec PyProof.Rows L2 K70M
section
variable {P : Program} {w : World} {K : PySem.W.Frag} {mg : Str → Option Value} {base : Heap}
theorem ok_deal {f C : Addr} {fd : FuncData} (F : Fun K "deal" "deal" s_deal f fd) (B : BT mg) (ld : Cl P w K mg base CX0 5 "led" ["heap", "wants"] [] (spLed C)) (ag : Cl P w K mg base CX0 1 "as_gift" ["some"] [] spAsGift) (so : Cl P w K mg base CX0 1 "shades_of" ["wants", "some"] [] spShades) :
    FnOk P w K mg base CX0 6 f fd ["heap", "wants"] (spDeal C) := by
  refine F.ok sc_deal (fun vs H Q E h => ?_) (fun cdv A outer s H vs Q E hr h => ?_)
  · obtain ⟨_, _, _, _, rfl, _⟩ := h
    rfl
  · obtain ⟨h, wa, rows, wants, rfl, hh, hlen, hw, hwl, hws, hw0, kk⟩ := h
    have hr1 : Room 1 _ := hr.mono (by decide)
    have nd := sc_deal.nd
    refine ⟨_, pss_cons (ps_asg (pe_k ld hr rfl pass0 (pa_cons (pv 0) (pa_cons (pv 1) pa_nil))) (pg_tup rfl (pgs_cons (pg_name (i := 2) nd rfl (Or.inl rfl)) (pgs_cons (pg_name (i := 3) nd rfl (Or.inl rfl)) (pgs_cons (pg_name (i := 4) nd rfl (Or.inl rfl)) (pgs_cons (pg_name (i := 5) nd rfl (Or.inl rfl)) pgs_nil))))))
      (pss_cons (ps_if (pt_cmpR (op_eqD hr.units) (pv 5) (pe_lst pa_nil) (nomark _))
        (pss_one (ps_ret (pe_tup (pa_cons pe_str (pa_cons (pe_callTy call_tuple_of (by rfl) B.tuple (by decide +kernel) (pa_cons
          (pe_lc (own := [("some", 6)]) (g := gName 6) (tt := tYes) rfl nd (pi_list (pv 2))
            (blkOk_by (N := ["heap", "wants", "gifts", "left", "lacks", "reached", "some", "form", "k"]) (sc := defScope s_deal) (by decide +kernel))
            (fun _ _ _ _ _ => pg_name (i := 6) nd rfl (Or.inl rfl)) (fun _ _ _ _ _ => pts_nil)
            (fun _ _ _ _ _ => pe_k ag hr1 rfl pass0 (pa_cons (pv 6) pa_nil))) pa_nil)) pa_nil))))) pss_nil)
      (pss_cons (ps_set (i := 7) nd rfl (Or.inr rfl) (pe_ix ix_tup (pe_ix ix_tup (pv 1) (pe_ix ix_list (pv 5) pe_int (fun _ _ => rfl)) (fun _ _ => rfl)) pe_int (fun _ _ => rfl)))
      (pss_cons (ps_setLc (i := 6) (own := [("k", 8)]) (g := gName 8) rfl nd rfl rfl (sw_true rfl rfl rfl (by decide +kernel)) (pi_list (pv 5))
        (blkOk_by (N := ["heap", "wants", "gifts", "left", "lacks", "reached", "some", "form", "k"]) (sc := defScope s_deal) (by decide +kernel))
        (fun _ _ _ _ _ => pg_name (i := 8) nd rfl (Or.inl rfl)) (fun _ _ _ _ _ => pts_one (pt_cmpR op_eq (pe_ix (ix_tupK K) (pe_ix (ix_tupK K) (pv 1) (pv 8) (fun _ _ => rfl)) pe_int (fun _ _ => rfl)) (pv 7) (nomark _)))
        (fun _ _ _ _ _ => pv 8))
      (pss_cons (ps_if (pt_cmpR (op_neD hr.units)
          (pe_lc (own := [("k", 8)]) (g := gName 8) rfl nd (pi_list (pv 6))
            (blkOk_by (N := ["heap", "wants", "gifts", "left", "lacks", "reached", "some", "form", "k"]) (sc := defScope s_deal) (by decide +kernel))
            (fun _ _ _ _ _ => pg_name (i := 8) nd rfl (Or.inl rfl)) (fun _ _ _ _ _ => pts_one (pt_cmpR (op_eqK K hr.units) (pe_ix (ix_tupK K) (pe_ix (ix_tupK K) (pv 1) (pv 8) (fun _ _ => rfl)) pe_int (fun _ _ => rfl)) (pe_tup pa_nil) (nomark _)))
            (fun _ _ _ _ _ => pv 8))
          (pe_lst pa_nil) (nomark _))
        (pss_one (ps_ret (pe_tup (pa_cons pe_str (pa_cons (pe_tup (pa_cons (pv 7) (pa_cons pe_non pa_nil))) pa_nil))))) pss_nil)
      (pss_one (ps_ret (pe_tup (pa_cons pe_str (pa_cons (pe_tup (pa_cons (pv 7) (pa_cons (pe_k so hr1 rfl pass0 (pa_cons (pv 1) (pa_cons (pv 6) pa_nil))) pa_nil))) pa_nil))))))))), ?_⟩
    obtain ⟨was, hW, hWP⟩ := id hw
    refine ⟨_, rfl, _, rfl, h, wa, rows, wants, rfl, hh, hlen, hw, hwl, (fun w' hw' => by have := hws w' hw'; omega), hw0, fun r ga l la ra gas G ns H1 hr1' s1 hga hG hGl hGn hra hnb hnl hyes hno => ?_⟩
    refine ⟨r, _, rfl, SqT.of hr1', rfl, _, _, rfl, _, _, rfl, _, _, rfl, _, _, rfl, rfl, ?_⟩
    refine ⟨_, rfl, (by show 0 ≤ sizeLine; decide), fun z hz => ?_⟩
    have s2 := same_new (o := .lst []) hz
    have em : (ns.map fun i : Nat => V.int (i : Int)) = (ns.map fun i : Nat => (i : Int)).map V.int := by rw [List.map_map]; rfl
    have hra2 : SqL K (upd H1 z (.lst [])) ra ((ns.map fun i : Nat => (i : Int)).map V.int) := by rw [← em]; exact SqL.of (s2 _ _ hra)
    refine ⟨_, _, .lst hra2 (ints_dp _), .lst (SqL.of upd_same) .nil, shaped_ints _, rfl, _, rfl, ?_⟩
    rw [eqv_nilI]
    have s12 := s1.trans s2
    by_cases hn0 : ns = []
    · rw [decide_eq_true (show (ns.map fun i : Nat => (i : Int)) = [] by rw [hn0]; rfl)]
      refine iteT ?_
      refine ⟨_, rfl, ga, rfl, ⟨_, SqL.of (s2 _ _ hga)⟩, fun D hD => ?_⟩
      refine lc_list (K := K) (a := ga) (xs := gas.map V.ref) (fun i H3 => Same (upd H1 z (.lst [])) H3 ∧ ∃ ts : List V, H3 D = some (.lst ts) ∧ ts.length ≤ i)
        ⟨same_new hD, [], upd_same, Nat.le_refl _⟩ (fun i H3 _ ⟨s3, _⟩ => SqL.of (s3 _ _ (s2 _ _ hga))) ?_ ?_
      · rintro i y H3 hi ⟨s3, ts, hts, htl⟩
        obtain ⟨gad, g, g1, g2, rfl, g3⟩ := pget hG hi
        have hil : i < G.length := (List.getElem?_eq_some_iff.mp g2).1
        obtain ⟨ng, lg⟩ := hGn g (List.mem_of_getElem? g2)
        refine ⟨rfl, _, rfl, gad, g, rfl, s3 _ _ (s2 _ _ g3), ng, lg, fun t H4 s4 => ?_⟩
        exact ⟨ts, s4 _ _ hts, by rw [sizeLine_eq]; omega, same_put (s3.trans s4) hD, ts ++ [.ref t], upd_same, by rw [List.length_append]; show ts.length + 1 ≤ i + 1; omega⟩
      · rintro H3 ⟨s3, ts, hts, htl⟩
        refine ⟨D, _, rfl, .inl ⟨SqL.of hts, fun t ht => ?_⟩⟩
        have s4 := same_new (o := .tup ts) ht
        refine ⟨(by show 2 ≤ sizeLine; decide), fun r2 hr2 => ?_⟩
        exact kk r2 _ (((s12.trans s3).trans s4).trans (same_new hr2)) (.inl ⟨t, upd_same, hyes hn0⟩)
    · rw [decide_eq_false (show ¬ (ns.map fun i : Nat => (i : Int)) = [] from fun e => hn0 (List.map_eq_nil_iff.mp e))]
      refine iteF ?_
      have hnod := hno hn0
      obtain ⟨i0, nr, rfl⟩ : ∃ a b, ns = a :: b := by
        cases ns with
        | nil => exact absurd rfl hn0
        | cons a b => exact ⟨a, b, rfl⟩
      obtain ⟨wt0, hwt0⟩ : ∃ wt, wants[i0]? = some wt := ⟨_, List.getElem?_eq_getElem (hnb i0 List.mem_cons_self)⟩
      obtain ⟨wad0, _, hwad0, hwA0⟩ := pgetB hWP hwt0
      obtain ⟨ta0, hw1, _⟩ := WantAt.mono _ _ _ _ s12 hwA0
      refine ⟨_, rfl, _, rfl, ra, _, 0, _, rfl, rfl, SqL.of (s2 _ _ hra), atI_nat (j := 0) rfl, wa, _, (i0 : Int), _, rfl, rfl, SqT.of (s12 _ _ hW), atI_nat hwad0, wad0, _, 0, _, rfl, rfl, SqT.of hw1, rfl, ?_⟩
      -- some
      refine ⟨_, rfl, ra, rfl, ⟨_, SqL.of (s2 _ _ hra)⟩, fun D hD => ?_⟩
      refine lc_list (K := K) (a := ra) (xs := (i0 :: nr).map fun i : Nat => V.int (i : Int)) (fun i H3 => Same (upd H1 z (.lst [])) H3 ∧ ∃ ks : List Nat, H3 D = some (.lst (ks.map fun i : Nat => V.int (i : Int))) ∧ ks.length ≤ i ∧ ∀ k ∈ ks, k < wants.length)
        ⟨same_new hD, [], upd_same, Nat.le_refl _, (fun k hk => by cases hk)⟩ (fun i H3 _ ⟨s3, _⟩ => SqL.of (s3 _ _ (s2 _ _ hra))) ?_ ?_
      · rintro i y H3 hi ⟨s3, ks, hks, hkl, hkb⟩
        rw [List.getElem?_map, Option.map_eq_some_iff] at hi
        obtain ⟨j, hj, rfl⟩ := hi
        have hil : i < (i0 :: nr).length := (List.getElem?_eq_some_iff.mp hj).1
        have hjl := hnb j (List.mem_of_getElem? hj)
        obtain ⟨wt, hwt⟩ : ∃ wt, wants[j]? = some wt := ⟨_, List.getElem?_eq_getElem hjl⟩
        obtain ⟨wad, _, hwad, hwA⟩ := pgetB hWP hwt
        obtain ⟨ta, hv1, _⟩ := WantAt.mono _ _ _ _ (s12.trans s3) hwA
        refine ⟨rfl, _, rfl, _, rfl, wa, _, (j : Int), _, rfl, rfl, SqT.of ((s12.trans s3) _ _ hW), atI_nat hwad, wad, _, 0, _, rfl, rfl, SqT.of hv1, rfl, _, rfl, rfl, _, rfl, ?_⟩
        refine ite2 (fun _ => ?_) (fun _ => ?_)
        · refine ⟨_, rfl, _, hks, by rw [List.length_map, sizeLine_eq]; omega, same_put s3 hD, ks ++ [j], by rw [upd_same, List.map_append]; rfl, by rw [List.length_append]; show ks.length + 1 ≤ i + 1; omega, fun k hk => ?_⟩
          rcases List.mem_append.mp hk with q | q
          · exact hkb k q
          · rw [List.mem_singleton.mp q]; exact hjl
        · exact ⟨s3, ks, hks, by omega, hkb⟩
      · rintro H3 ⟨s3, ks, hks, hkl, hkb⟩
        rw [List.length_map] at hkl
        have s13 := s12.trans s3
        -- the bare ones
        refine ⟨_, rfl, D, rfl, ⟨_, SqL.of hks⟩, fun D2 hD2 => ?_⟩
        refine lc_list (K := K) (a := D) (xs := ks.map fun i : Nat => V.int (i : Int)) (fun i H4 => Same H3 H4 ∧ ∃ js : List Nat, H4 D2 = some (.lst (js.map fun i : Nat => V.int (i : Int))) ∧ js.length ≤ i)
          ⟨same_new hD2, [], upd_same, Nat.le_refl _⟩ (fun i H4 _ ⟨s4, _⟩ => SqL.of (s4 _ _ hks)) ?_ ?_
        · rintro i y H4 hi ⟨s4, js, hjs, hjl⟩
          rw [List.getElem?_map, Option.map_eq_some_iff] at hi
          obtain ⟨j, hj, rfl⟩ := hi
          have hil : i < ks.length := (List.getElem?_eq_some_iff.mp hj).1
          have hjb := hkb j (List.mem_of_getElem? hj)
          obtain ⟨wt, hwt⟩ : ∃ wt, wants[j]? = some wt := ⟨_, List.getElem?_eq_getElem hjb⟩
          obtain ⟨wad, _, hwad, hwA⟩ := pgetB hWP hwt
          obtain ⟨ta, hv1, hv2, hv3⟩ := WantAt.mono _ _ _ _ (s13.trans s4) hwA
          refine ⟨rfl, _, rfl, _, rfl, wa, _, (j : Int), _, rfl, rfl, SqT.of ((s13.trans s4) _ _ hW), atI_nat hwad, wad, _, 1, _, rfl, rfl, SqT.of hv1, rfl, (by show 0 ≤ sizeLine; decide), fun z2 hz2 => ?_⟩
          have g0 := same_new (o := .tup []) hz2
          refine ⟨_, _, .tup (SqT.of (g0 _ _ hv2)) (strs_dp wt.2.1), .tup (SqT.of upd_same) .nil, shaped_strs hv3.2, rfl, _, rfl, ?_⟩
          refine ite2 (fun _ => ?_) (fun _ => ?_)
          · exact ⟨_, rfl, _, g0 _ _ hjs, by rw [List.length_map, sizeLine_eq]; omega, same_put (s4.trans g0) hD2, js ++ [j], by rw [upd_same, List.map_append]; rfl, by rw [List.length_append]; show js.length + 1 ≤ i + 1; omega⟩
          · exact ⟨s4.trans g0, js, g0 _ _ hjs, by omega⟩
        · rintro H4 ⟨s4, js, hjs, hjl⟩
          refine ⟨(by show 0 ≤ sizeLine; decide), fun z3 hz3 => ?_⟩
          have s5 := same_new (o := .lst []) hz3
          have em2 : (js.map fun i : Nat => V.int (i : Int)) = (js.map fun i : Nat => (i : Int)).map V.int := by rw [List.map_map]; rfl
          have hjs2 : SqL K (upd H4 z3 (.lst [])) D2 ((js.map fun i : Nat => (i : Int)).map V.int) := by rw [← em2]; exact SqL.of (s5 _ _ hjs)
          refine ⟨_, _, .lst hjs2 (ints_dp _), .lst (SqL.of upd_same) .nil, shaped_ints _, rfl, _, rfl, ?_⟩
          have s15 := (s13.trans s4).trans s5
          refine ite2 (fun _ => ?_) (fun _ => ?_)
          · refine ⟨_, rfl, (by show 2 ≤ sizeLine; decide), fun t1 ht1 => ?_⟩
            have s6 := same_new (o := .tup [.str wt0.1, .non]) ht1
            refine ⟨(by show 2 ≤ sizeLine; decide), fun r2 hr2 => ?_⟩
            have s7 := same_new (o := .tup [.str ("bar" : Str), .ref t1]) hr2
            exact kk r2 _ ((s15.trans s6).trans s7) (.inr ⟨t1, (wt0.1, none), upd_same, s7 _ _ upd_same, (fun ss e => by cases e), hnod⟩)
          · refine ⟨_, rfl, _, rfl, _, rfl, wa, D, wants, ks, rfl, WantsAt.mono _ _ _ _ s15 hw, hwl, hws, s5 _ _ (s4 _ _ hks), hkb, by omega, fun t ss H6 s6 ht hsl => ?_⟩
            refine ⟨(by show 2 ≤ sizeLine; decide), fun t1 ht1 => ?_⟩
            have s7 := same_new (o := .tup [.str wt0.1, .ref t]) ht1
            refine ⟨(by show 2 ≤ sizeLine; decide), fun r2 hr2 => ?_⟩
            have s8 := same_new (o := .tup [.str ("bar" : Str), .ref t1]) hr2
            exact kk r2 _ (((s15.trans s6).trans s7).trans s8) (.inr ⟨t1, (wt0.1, some ss), upd_same, ⟨t, s8 _ _ upd_same, s8 _ _ (s7 _ _ ht)⟩, (fun ss' e => by cases e; exact hsl), hnod⟩)
end
end K70

end
section
set_option maxRecDepth 100000
set_option maxHeartbeats 4000000
/-! wants_of; never_at. -/
namespace K70
open PySem PySem.Spec PyProof.Rows L2 K70M
/-- a sheet's row: a tuple of the one tuple of its wants -/
def SRowAt (H : Hp) (a : Addr) (ws : List Want) : Prop := ∃ t, H a = some (.tup [.ref t]) ∧ WantsAt H t ws
theorem SRowAt.mono : Mono SRowAt := fun H H' a ws s ⟨t, h1, h2⟩ => ⟨t, s _ _ h1, WantsAt.mono _ _ _ _ s h2⟩
def spWantsOf : Sp := fun vs H Q _ => ∃ (sa : Addr) (wss : List (List Want)), vs = [.ref sa, .non] ∧ TupOf SRowAt H sa wss ∧ wss.flatten.length ≤ 1000 ∧
  ∀ (t : Addr) (H' : Hp), Same H H' → WantsAt H' t wss.flatten → Q (.ref t) H'
def Built (rows : List Row) (kits : List (List Row)) (wants : List Want) (n : List Int) : Prop := n.length = kits.length ∧ N0 n ∧ Deals (comb rows kits n) (wants.map wtP)
def spNever (C : Addr) : Sp := fun vs H Q _ => ∃ (h ks wa : Addr) (rows : List Row) (kits : List (List Row)) (wants : List Want), vs = [.ref h, .ref ks, .ref wa] ∧ HeapAt C H h rows ∧ rows.length ≤ 100 ∧ HeapsAt C H ks kits ∧ KitsOk kits ∧ WantsAt H wa wants ∧ wants.length ≤ 60 ∧ (∀ w ∈ wants, w.2.1.length ≤ 16) ∧ wants0 wants ∧
  ∀ (v : V) (H' : Hp), Same H H' → ((v = .non ∧ ∃ n, Built rows kits wants n) ∨ (∃ t, v = .ref t ∧ ¬ ∃ n, Built rows kits wants n)) → Q v H'
theorem wsum_sum : ∀ wants : List Want, wsum (wants.map wtP) = (wants.map (·.2.2)).sum
  | [] => rfl
  | w :: r => by
    show w.2.2 + wsum (r.map wtP) = _
    rw [wsum_sum r, List.map_cons, List.sum_cons]
section
variable {P : Program} {w : World} {K : PySem.W.Frag} {mg : Str → Option Value} {base : Heap}
theorem ok_wants_of {f : Addr} {fd : FuncData} {dvs : List V} (F : FunD K "wants_of" "wants_of" (defArgs s_wants_of) (defBody s_wants_of) (defScope s_wants_of) dvs [] f fd) (B : BT mg) : FnOk P w K mg base CX0 1 f fd ["sheet", "choice"] spWantsOf := by
  refine F.ok sc_wants_of (fun vs H Q E h => ?_) (fun cdv A outer s H vs Q E hr h => ?_)
  · obtain ⟨_, _, rfl, _⟩ := h
    rfl
  · obtain ⟨sa, wss, rfl, hs, hl, k⟩ := h
    have nd := sc_wants_of.nd
    refine ⟨_, PSs.nox (pss_cons (ps_set (i := 2) nd rfl (Or.inl rfl) (pe_tup pa_nil))
      (pss_cons (ps_for PassesOwn.never rfl (pi_enumG (by rfl) B.enumerate (pa_cons (pv 0) pa_nil)) (pg_tup rfl (pgs_cons (pg_name (i := 3) nd rfl (Or.inl rfl)) (pgs_cons (pg_name (i := 4) nd rfl (Or.inl rfl)) pgs_nil)))
        (pss_one (ps_set (i := 2) nd rfl (Or.inl rfl) (pe_op op_catA (pv 2) (pe_ix ix_tup (pv 4) (pe_ifExp (pt_cmpR op_isN (pv 1) pe_non (nomark _)) pe_int (pe_ix ix_tup (pv 1) (pv 3) (fun _ _ => rfl))) (fun _ _ => rfl))))))
      (pss_one (ps_ret (pv 2))))), ?_⟩
    obtain ⟨as, hT, hP⟩ := id hs
    refine ⟨(by show 0 ≤ sizeLine; decide), fun t0 ht0 => ?_⟩
    have s1 := same_new (o := .tup []) ht0
    refine ⟨_, rfl, sa, true, as.map V.ref, rfl, SqT.of (s1 _ _ hT), for_enumG (K := K) (t := true) (a := sa) (xs := as.map V.ref) (fun i σ H2 => ∃ (t : Addr) (a b : Option V), σ = [some (.ref sa), some .non, some (.ref t), a, b] ∧ Same H H2 ∧ WantsAt H2 t (wss.take i).flatten)
      ⟨t0, none, none, rfl, s1, [], upd_same, .nil⟩ (fun i σ H2 ⟨_, _, _, _, s2, _⟩ => SqT.of (s2 _ _ hT)) ?_ ?_⟩
    · rintro i y T1 σ H2 hi ⟨t, a, b, rfl, s2, hW⟩ hT1
      obtain ⟨ra, ws, g1, g2, rfl, g3⟩ := pget hP hi
      have g := same_new (o := .tup [.int (i : Nat), .ref ra]) hT1
      obtain ⟨wa, hr1, hr2⟩ := SRowAt.mono _ _ _ _ (s2.trans g) g3
      have tk : (wss.take (i + 1)).flatten = (wss.take i).flatten ++ ws := by
        rw [take_snoc g2, List.flatten_append]
        simp
      have ll : (wss.take i).flatten.length + ws.length ≤ 1000 := by
        have h1 : (wss.take (i + 1)).flatten.length ≤ wss.flatten.length := by
          have : wss.flatten = (wss.take (i + 1)).flatten ++ (wss.drop (i + 1)).flatten := by rw [← List.flatten_append, List.take_append_drop]
          rw [this, List.length_append]
          omega
        rw [tk, List.length_append] at h1
        omega
      refine ⟨T1, _, rfl, SqT.of upd_same, rfl, _, _, rfl, _, _, rfl, rfl, ?_⟩
      refine ⟨_, rfl, _, rfl, _, rfl, rfl, _, rfl, ?_⟩
      refine iteT ?_
      refine ⟨ra, _, 0, _, rfl, rfl, SqT.of hr1, rfl, cat_tups WantAt.mono (WantsAt.mono _ _ _ _ g hW) hr2 (by omega) fun r H' s' hR => ?_⟩
      exact ⟨r, _, _, rfl, (s2.trans g).trans s', by rw [tk]; exact hR⟩
    · rintro σ H2 ⟨t, a, b, rfl, s2, hW⟩
      rw [List.length_map, hP.length, List.take_length] at hW
      exact ⟨_, rfl, k t H2 s2 hW⟩
theorem kits_nn {C : Addr} {H : Hp} : ∀ {as : List Addr} {kits : List (List Row)}, Paired (HeapAt C H) as kits → ∀ k ∈ kits, NN k
  | _, _, .nil, _, h => by cases h
  | _, _, .cons r t, k, h => by
    rcases List.mem_cons.mp h with z | z
    · rw [z]; exact r.nn
    · exact kits_nn t k z
theorem ok_never_at {f C : Addr} {fd : FuncData} (F : Fun K "never_at" "never_at" s_never_at f fd) (B : BT mg) (de : Cl P w K mg base CX0 6 "deal" ["heap", "wants"] [] (spDeal C)) (wk : Cl P w K mg base CX0 5 "with_kits" ["heap", "kits", "many"] [] (spWithKits C K)) :
    FnOk P w K mg base CX0 7 f fd ["heap", "kits", "wants"] (spNever C) := by
  refine F.ok sc_never_at (fun vs H Q E h => ?_) (fun cdv A outer s H vs Q E hr h => ?_)
  · obtain ⟨_, _, _, _, _, _, rfl, _⟩ := h
    rfl
  · obtain ⟨h, ks, wa, rows, kits, wants, rfl, hh, hlen, hk, ⟨hk1, hk2⟩, hw, hwl, hws, hw0, kk⟩ := h
    have nd := sc_never_at.nd
    refine ⟨_, pss_cons (ps_set (i := 3) nd rfl (Or.inr rfl) (pe_callBK (cr_sumSt rfl) (by rfl) B.sum (by decide +kernel) (pa_cons
          (pe_lc (own := [("form", 6), ("shades", 7), ("many", 8)]) (g := gTup K 3 (gCons (gName 6) (gCons (gName 7) (gCons (gName 8) gNil)))) (tt := tYes) rfl nd (pi_tup (pv 2))
            (blkOk_by (N := ["heap", "kits", "wants", "most", "word", "thing", "form", "shades", "many", "kit"]) (sc := defScope s_never_at) (by decide +kernel))
            (fun _ _ _ _ _ => pg_tup rfl (pgs_cons (pg_name (i := 6) nd rfl (Or.inl rfl)) (pgs_cons (pg_name (i := 7) nd rfl (Or.inl rfl)) (pgs_cons (pg_name (i := 8) nd rfl (Or.inl rfl)) pgs_nil))))
            (fun _ _ _ _ _ => pts_nil) (fun _ _ _ _ _ => pv 8)) pa_nil) (pk_cons pe_int pk_nil)))
      (pss_cons (ps_asg (pe_k de hr rfl pass0 (pa_cons (pe_k wk (hr.mono (by decide)) rfl pass0 (pa_cons (pv 0) (pa_cons (pv 1) (pa_cons
          (pe_lc (own := [("kit", 9)]) (g := gName 9) (tt := tYes) rfl nd (pi_tup (pv 1))
            (blkOk_by (N := ["heap", "kits", "wants", "most", "word", "thing", "form", "shades", "many", "kit"]) (sc := defScope s_never_at) (by decide +kernel))
            (fun _ _ _ _ _ => pg_name (i := 9) nd rfl (Or.inl rfl)) (fun _ _ _ _ _ => pts_nil) (fun _ _ _ _ _ => pv 3)) pa_nil)))) (pa_cons (pv 2) pa_nil))) (pg_tup rfl (pgs_cons (pg_name (i := 4) nd rfl (Or.inl rfl)) (pgs_cons (pg_name (i := 5) nd rfl (Or.inl rfl)) pgs_nil))))
      (pss_one (ps_ret (pe_ifExp (pt_cmpR op_eq (pv 4) pe_str (nomark _)) (pv 5) pe_non)))), ?_⟩
    obtain ⟨was, hW, hWP⟩ := id hw
    obtain ⟨kas, hKT, hKP⟩ := id hk
    have lk := hKP.length
    refine ⟨_, rfl, wa, rfl, ⟨_, SqT.of hW⟩, fun D hD => ?_⟩
    refine lc_tup (K := K) (a := wa) (xs := was.map V.ref) (fun i H2 => Same H H2 ∧ H2 D = some (.lst (((wants.take i).map (·.2.2)).map V.int)))
      ⟨same_new hD, upd_same⟩ (fun i H2 _ ⟨s2, _⟩ => SqT.of (s2 _ _ hW)) ?_ ?_
    · rintro i y H2 hi ⟨s2, hb⟩
      obtain ⟨wad, wt, g1, g2, rfl, g3⟩ := pget hWP hi
      have hil : i < wants.length := (List.getElem?_eq_some_iff.mp g2).1
      obtain ⟨ta, hw1, _⟩ := WantAt.mono _ _ _ _ s2 g3
      refine ⟨wad, _, rfl, SqT.of hw1, rfl, _, _, rfl, _, _, rfl, _, _, rfl, rfl, rfl, _, rfl, _, hb, by rw [List.length_map, List.length_map, List.length_take, sizeLine_eq]; omega, same_put s2 hD, ?_⟩
      rw [upd_same, take_snoc g2, List.map_append, List.map_append]
      rfl
    · rintro H2 ⟨s2, hb⟩
      rw [List.length_map, hWP.length, List.take_length] at hb
      refine ⟨D, _, rfl, rfl, SqL.of hb, ?_⟩
      have hsum0 : 0 ≤ (wants.map (·.2.2)).sum := sum_nonneg fun x hx => by
        obtain ⟨wt, h1, rfl⟩ := List.mem_map.mp hx
        exact hw0.1 wt h1
      have hsum1 := hw0.2
      generalize hM : 1 + (wants.map (·.2.2)).sum = M
      refine ⟨_, rfl, _, rfl, _, rfl, ks, rfl, ⟨_, SqT.of (s2 _ _ hKT)⟩, fun D2 hD2 => ?_⟩
      refine lc_tup (K := K) (a := ks) (xs := kas.map V.ref) (fun i H3 => Same H2 H3 ∧ H3 D2 = some (.lst ((List.replicate i M).map V.int)))
        ⟨same_new hD2, upd_same⟩ (fun i H3 _ ⟨s3, _⟩ => SqT.of (s3 _ _ (s2 _ _ hKT))) ?_ ?_
      · rintro i y H3 hi ⟨s3, hb3⟩
        have hil : i < kits.length := by
          have := (List.getElem?_eq_some_iff.mp hi).1
          rw [List.length_map] at this
          omega
        refine ⟨rfl, _, rfl, _, hb3, by rw [List.length_map, List.length_replicate, sizeLine_eq]; omega, same_put s3 hD2, ?_⟩
        rw [upd_same, List.replicate_succ', List.map_append]
        rfl
      · rintro H3 ⟨s3, hb3⟩
        rw [List.length_map, lk] at hb3
        have s23 := s2.trans s3
        refine ⟨h, ks, D2, false, rows, kits, List.replicate kits.length M, rfl, hh.mono _ _ _ _ s23, hlen, HeapsAt.mono _ _ _ _ s23 hk, ⟨hk1, hk2⟩, SqL.of hb3, by rw [List.length_replicate], (fun x hx => by rw [List.eq_of_mem_replicate hx]; omega), (fun x hx => by rw [List.eq_of_mem_replicate hx]; omega), fun r rows' H4 s4 hA hc hl => ?_⟩
        have s24 := s23.trans s4
        have ec : cnt rows' = comb rows kits (List.replicate kits.length M) := funext hc
        refine ⟨_, rfl, r, wa, rows', wants, rfl, hA, hl, WantsAt.mono _ _ _ _ s24 hw, hwl, hws, hw0, fun rr H5 s5 hres => ?_⟩
        have n0 : N0 (List.replicate kits.length M) := fun x hx => by rw [List.eq_of_mem_replicate hx]; omega
        rw [ec] at hres
        rcases hres with ⟨t, hr1, hd⟩ | ⟨t, pl, hr1, hpl, hpl2, hd⟩
        · refine ⟨rr, _, rfl, SqT.of hr1, rfl, _, _, rfl, _, _, rfl, rfl, ?_⟩
          refine ⟨_, rfl, rfl, _, rfl, ?_⟩
          refine iteF ?_
          exact kk .non H5 (s24.trans s5) (.inl ⟨rfl, _, by rw [List.length_replicate], n0, hd⟩)
        · refine ⟨rr, _, rfl, SqT.of hr1, rfl, _, _, rfl, _, _, rfl, rfl, ?_⟩
          refine ⟨_, rfl, rfl, _, rfl, ?_⟩
          refine iteT ?_
          refine ⟨_, rfl, ?_⟩
          refine kk (.ref t) H5 (s24.trans s5) (.inr ⟨t, rfl, ?_⟩)
          exact never_of hh.nn (kits_nn hKP) (by rw [wsum_sum]; omega) hd
end
end K70

end
section
set_option maxRecDepth 100000
set_option maxHeartbeats 4000000
/-! all the sums: the plain side. -/
namespace K70
open PySem PySem.Spec PyProof.Rows L2 K70M
abbrev SE := List Int × Int
def extS (b : Int) (e : SE) : List SE := (List.range (e.2 + 1 - b).toNat).map fun i : Nat => (e.1 ++ [b + (i : Int)], e.2 - (b + (i : Int)))
def bOf (parts k : Nat) (e : SE) : Int := if (k : Int) = (parts : Int) - 1 then e.2 else 0
def stepS (parts k : Nat) (rows : List SE) : List SE := rows.flatMap fun e => extS (bOf parts k e) e
structure SOk (parts total k : Nat) (rows : List SE) : Prop where
  snd : ∀ e ∈ rows, e.1.length = k ∧ N0 e.1 ∧ e.1.sum + e.2 = (total : Int) ∧ 0 ≤ e.2 ∧ (k = parts → 0 < k → e.2 = 0)
  cpl : ∀ l : List Int, l.length = k → N0 l → l.sum ≤ (total : Int) → (k = parts → 0 < k → l.sum = (total : Int)) → (l, (total : Int) - l.sum) ∈ rows
  len : rows.length ≤ (total + 1) ^ (if k = parts then k - 1 else k)
theorem SOk.begin (parts total : Nat) : SOk parts total 0 [([], (total : Int))] := by
  refine ⟨fun e he => ?_, fun l hl _ _ _ => ?_, by simp⟩
  · rw [List.mem_singleton.mp he]
    exact ⟨rfl, (fun x hx => by cases hx), by simp, by simp, fun _ h => absurd h (Nat.lt_irrefl _)⟩
  · have : l = [] := List.length_eq_zero_iff.mp hl
    subst this
    simp
theorem extS_len {parts total k : Nat} {rows : List SE} (S : SOk parts total k rows) {e : SE} (he : e ∈ rows) : (extS (bOf parts k e) e).length ≤ total + 1 := by
  unfold extS
  rw [List.length_map, List.length_range]
  obtain ⟨_, h0, h1, h2, _⟩ := S.snd e he
  have h3 := N0.sum h0
  unfold bOf
  split <;> omega
theorem flat_len {c : Nat} {f : SE → List SE} : ∀ {rows : List SE}, (∀ e ∈ rows, (f e).length ≤ c) → (rows.flatMap f).length ≤ rows.length * c
  | [], _ => by simp
  | e :: r, h => by
    rw [List.flatMap_cons, List.length_append, List.length_cons, Nat.succ_mul]
    have h1 := h e List.mem_cons_self
    have h2 := flat_len (rows := r) fun x hx => h x (List.mem_cons_of_mem _ hx)
    omega
theorem SOk.step {parts total k : Nat} {rows : List SE} (S : SOk parts total k rows) (hk : k < parts) : SOk parts total (k + 1) (stepS parts k rows) := by
  refine ⟨fun e' he' => ?_, fun l hl h0 hs hlast => ?_, ?_⟩
  · obtain ⟨e, he, hm⟩ := List.mem_flatMap.mp he'
    obtain ⟨i, hi, rfl⟩ := List.mem_map.mp hm
    have hi := List.mem_range.mp hi
    obtain ⟨g1, g2, g3, g4, _⟩ := S.snd e he
    have hb0 : 0 ≤ bOf parts k e ∧ (k + 1 = parts → bOf parts k e = e.2) := by
      unfold bOf
      split
      · exact ⟨g4, fun _ => rfl⟩
      · exact ⟨Int.le_refl _, fun z => by omega⟩
    refine ⟨by simp [g1], fun x hx => ?_, ?_, by show 0 ≤ e.2 - (bOf parts k e + (i : Int)); omega, fun z _ => ?_⟩
    · rcases List.mem_append.mp hx with z | z
      · exact g2 x z
      · rw [List.mem_singleton.mp z]; omega
    · show (e.1 ++ [bOf parts k e + (i : Int)]).sum + (e.2 - (bOf parts k e + (i : Int))) = _
      rw [sum_snoc]; omega
    · have := hb0.2 z
      show e.2 - (bOf parts k e + (i : Int)) = 0
      omega
  · have hne : l ≠ [] := fun z => by rw [z] at hl; simp at hl
    have el : l = l.dropLast ++ [l.getLast hne] := (List.dropLast_concat_getLast hne).symm
    generalize l.getLast hne = x at el
    generalize l.dropLast = l0 at el
    subst el
    have hl0 : l0.length = k := by rw [List.length_append] at hl; simpa using hl
    have h00 : N0 l0 := fun y hy => h0 y (List.mem_append_left _ hy)
    have hx0 : 0 ≤ x := h0 x (List.mem_append_right _ List.mem_cons_self)
    rw [sum_snoc] at hs hlast
    have hin := S.cpl l0 hl0 h00 (by omega) (fun z => by omega)
    refine List.mem_flatMap.mpr ⟨_, hin, List.mem_map.mpr ⟨(x - bOf parts k (l0, (total : Int) - l0.sum)).toNat, List.mem_range.mpr ?_, ?_⟩⟩
    · show (x - bOf parts k (l0, (total : Int) - l0.sum)).toNat < (((total : Int) - l0.sum) + 1 - bOf parts k (l0, (total : Int) - l0.sum)).toNat
      unfold bOf
      split
      · show (x - ((total : Int) - l0.sum)).toNat < (((total : Int) - l0.sum) + 1 - ((total : Int) - l0.sum)).toNat
        have := hlast (by omega) (by omega)
        omega
      · omega
    · have hb : bOf parts k (l0, (total : Int) - l0.sum) + ((x - bOf parts k (l0, (total : Int) - l0.sum)).toNat : Int) = x := by
        unfold bOf
        split
        · show ((total : Int) - l0.sum) + ((x - ((total : Int) - l0.sum)).toNat : Int) = x
          have := hlast (by omega) (by omega)
          omega
        · omega
      show (l0 ++ [bOf parts k (l0, (total : Int) - l0.sum) + ((x - bOf parts k (l0, (total : Int) - l0.sum)).toNat : Int)], ((total : Int) - l0.sum) - (bOf parts k (l0, (total : Int) - l0.sum) + ((x - bOf parts k (l0, (total : Int) - l0.sum)).toNat : Int))) = _
      rw [hb, sum_snoc]
      refine Prod.ext rfl ?_
      show (total : Int) - l0.sum - x = (total : Int) - (l0.sum + x)
      omega
  · have hl := S.len
    rw [if_neg (by omega)] at hl
    by_cases hlast : k + 1 = parts
    · rw [if_pos hlast]
      have h1 := flat_len (rows := rows) (c := 1) (f := fun e => extS (bOf parts k e) e) fun e he => by
        unfold extS
        rw [List.length_map, List.length_range]
        unfold bOf
        rw [if_pos (by omega)]
        omega
      rw [Nat.mul_one] at h1
      exact Nat.le_trans h1 hl
    · rw [if_neg hlast]
      have h1 := flat_len (rows := rows) (c := total + 1) (f := fun e => extS (bOf parts k e) e) fun e he => extS_len S he
      have h2 := Nat.mul_le_mul_right (total + 1) hl
      rw [Nat.pow_succ]
      exact Nat.le_trans h1 h2
theorem SOk.len1 {parts total k : Nat} {rows : List SE} (S : SOk parts total k rows) (hk : k < parts) : rows.length ≤ (total + 1) ^ k := by
  have hl := S.len
  rw [if_neg (by omega)] at hl
  exact hl
/-- those at which nothing is left are all the sums -/
theorem SOk.end {parts total : Nat} {rows : List SE} (S : SOk parts total parts rows) (l : List Int) : (∃ e ∈ rows, e.2 = 0 ∧ e.1 = l) ↔ (l.length = parts ∧ N0 l ∧ l.sum = (total : Int)) := by
  constructor
  · rintro ⟨e, he, h0, rfl⟩
    obtain ⟨g1, g2, g3, g4, _⟩ := S.snd e he
    exact ⟨g1, g2, by omega⟩
  · rintro ⟨h1, h2, h3⟩
    exact ⟨_, S.cpl l h1 h2 (by omega) (fun _ _ => h3), by show (total : Int) - l.sum = 0; omega, rfl⟩
theorem pow_le {total k : Nat} (ht : total ≤ 60) (hk : k ≤ 4) : (total + 1) ^ k ≤ 13845841 := by
  have h1 : (total + 1) ^ k ≤ 61 ^ k := Nat.pow_le_pow_left (by omega) k
  have h2 : (61 : Nat) ^ k ≤ 61 ^ 4 := Nat.pow_le_pow_right (by decide) hk
  have h3 : (61 : Nat) ^ 4 = 13845841 := by decide
  omega
theorem SOk.len2 {parts total : Nat} {rows : List SE} (S : SOk parts total parts rows) (ht : total ≤ 60) (hp : parts ≤ 4) : rows.length ≤ 226981 := by
  have hl := S.len
  rw [if_pos rfl] at hl
  have h1 : (total + 1) ^ (parts - 1) ≤ 61 ^ (parts - 1) := Nat.pow_le_pow_left (by omega) _
  have h2 : (61 : Nat) ^ (parts - 1) ≤ 61 ^ 3 := Nat.pow_le_pow_right (by decide) (by omega)
  have h3 : (61 : Nat) ^ 3 = 226981 := by decide
  omega
end K70

end
section
set_option maxRecDepth 100000
set_option maxHeartbeats 4000000
/-! sums_of. -/
namespace K70
open PySem PySem.Spec PyProof.Rows L2 K70M
def SEAt (H : Hp) (a : Addr) (e : SE) : Prop := ∃ t, H a = some (.tup [.ref t, .int e.2]) ∧ H t = some (.tup (e.1.map V.int))
theorem SEAt.mono : Mono SEAt := fun H H' a e s ⟨t, h1, h2⟩ => ⟨t, s _ _ h1, s _ _ h2⟩
def IntsAt (H : Hp) (a : Addr) (l : List Int) : Prop := H a = some (.tup (l.map V.int))
theorem IntsAt.mono : Mono IntsAt := fun H H' a e s h => s _ _ h
def spSums : Sp := fun vs H Q _ => ∃ (parts total : Nat), vs = [.int (parts : Int), .int (total : Int)] ∧ parts ≤ 4 ∧ total ≤ 60 ∧
  ∀ (la : Addr) (ls : List (List Int)) (H' : Hp), H la = none → Same H H' → LstOf IntsAt H' la ls → (∀ l, l ∈ ls ↔ (l.length = parts ∧ N0 l ∧ l.sum = (total : Int))) → ls.length ≤ 226981 → Q (.ref la) H'
theorem cat_vs {K : PySem.W.Frag} {H : Hp} {a b : Addr} {xs ys : List V} {Q : VK} (hA : H a = some (.tup xs)) (hB : H b = some (.tup ys)) (hl : xs.length + ys.length ≤ 1000000) (k : ∀ (r : Addr) (H' : Hp), Same H H' → H' r = some (.tup (xs ++ ys)) → Q (.ref r) H') : rCatA K (.ref a) (.ref b) H Q := by
  refine ⟨a, b, xs, ys, rfl, rfl, SqT.of hA, SqT.of hB, by rw [sizeLine_eq]; omega, fun e => ?_, fun _ e => ?_, fun _ _ p hp => ?_⟩
  · subst e
    exact k b H (Same.refl _) hB
  · subst e
    exact k a H (Same.refl _) (by rw [List.append_nil]; exact hA)
  · exact k p _ (same_new hp) upd_same
/-- all but the one that is made stays -/
theorem keep1 {β : Type} {R : Hp → Addr → β → Prop} {H : Hp} {D : Addr} {o : HO} {as : List Addr} {bs : List β} (h : ∀ a b, R H a b → R (upd H D o) a b) (hp : Paired (R H) as bs) : Paired (R (upd H D o)) as bs := Paired_mono h hp
theorem SEAt.keep {H : Hp} {D : Addr} {o : HO} {xs : List V} (hD : H D = some (.lst xs)) {a : Addr} {e : SE} (h : SEAt H a e) : SEAt (upd H D o) a e := by
  obtain ⟨t, h1, h2⟩ := h
  refine ⟨t, ?_, ?_⟩
  · rw [upd_ne (ne_of h1 hD (by intro z; cases z))]; exact h1
  · rw [upd_ne (ne_of h2 hD (by intro z; cases z))]; exact h2
theorem IntsAt.keep {H : Hp} {D : Addr} {o : HO} {xs : List V} (hD : H D = some (.lst xs)) {a : Addr} {e : List Int} (h : IntsAt H a e) : IntsAt (upd H D o) a e := by
  show upd H D o a = _
  rw [upd_ne (ne_of h hD (by intro z; cases z))]
  exact h
section
variable {P : Program} {w : World} {K : PySem.W.Frag} {mg : Str → Option Value} {base : Heap}
theorem ok_sums_of {f : Addr} {fd : FuncData} (F : Fun K "sums_of" "sums_of" s_sums_of f fd) (B : BT mg) : FnOk P w K mg base CX0 1 f fd ["parts", "total"] spSums := by
  refine F.ok sc_sums_of (fun vs H Q E h => ?_) (fun cdv A outer s H vs Q E hr h => ?_)
  · obtain ⟨_, _, rfl, _⟩ := h
    rfl
  · obtain ⟨parts, total, rfl, hp4, ht, kk⟩ := h
    have nd := sc_sums_of.nd
    refine ⟨_, pss_cons (ps_set (i := 2) nd rfl (Or.inl rfl) (pe_lst (pa_cons (pe_tup (pa_cons (pe_tup pa_nil) (pa_cons (pv 1) pa_nil))) pa_nil)))
      (pss_cons (ps_for PassesOwn.never rfl (pi_range1 rfl B.range (pa_cons (pv 0) pa_nil)) (pg_name (i := 3) nd rfl (Or.inl rfl))
        (pss_cons (ps_set (i := 4) nd rfl (Or.inl rfl) (pe_lst pa_nil))
        (pss_cons (ps_for PassesOwn.never rfl (pi_list (pv 2)) (pg_tup rfl (pgs_cons (pg_name (i := 5) nd rfl (Or.inr rfl)) (pgs_cons (pg_name (i := 6) nd rfl (Or.inr rfl)) pgs_nil)))
          (pss_cons (ps_set (i := 7) nd rfl (Or.inl rfl) (pe_ifExp (pt_cmpR op_eq (pv 3) (pe_op op_sub (pv 0) pe_int) (nomark _)) (pv 6) pe_int))
          (pss_one (ps_expr (pe_bm PySem.F.plainAttrs_list PySem.F.slot_list_extend PySem.F.type_list_extend mt_extend (pv 4) (pa_cons
            (pe_lc (own := [("number", 8)]) (g := gName 8) (tt := tYes) rfl nd (pi_range2 rfl B.range (pa_cons (pv 7) (pa_cons (pe_op op_add (pv 6) pe_int) pa_nil)))
              (blkOk_by (N := ["parts", "total", "rows", "k", "longer", "row", "rest", "begin", "number"]) (sc := defScope s_sums_of) (by decide +kernel))
              (fun _ _ _ _ _ => pg_name (i := 8) nd rfl (Or.inl rfl)) (fun _ _ _ _ _ => pts_nil)
              (fun _ _ _ _ _ => pe_tup (pa_cons (pe_op (op_catK K) (pv 5) (pe_tup (pa_cons (pv 8) pa_nil))) (pa_cons (pe_op op_sub (pv 6) (pv 8)) pa_nil)))) pa_nil))))))
        (pss_one (ps_set (i := 2) nd rfl (Or.inl rfl) (pv 4))))))
      (pss_one (ps_ret (pe_lc (own := [("row", 5), ("rest", 6)]) (g := gTup K 2 (gCons (gName 5) (gCons (gName 6) gNil))) rfl nd (pi_list (pv 2))
        (blkOk_by (N := ["parts", "total", "rows", "k", "longer", "row", "rest", "begin", "number"]) (sc := defScope s_sums_of) (by decide +kernel))
        (fun _ _ _ _ _ => pg_tup rfl (pgs_cons (pg_name (i := 5) nd rfl (Or.inl rfl)) (pgs_cons (pg_name (i := 6) nd rfl (Or.inl rfl)) pgs_nil)))
        (fun _ _ _ _ _ => pts_one (pt_cmpR op_eq (pv 6) pe_int (nomark _))) (fun _ _ _ _ _ => pv 5))))), ?_⟩
    refine ⟨(by show 0 ≤ sizeLine; decide), fun t0 ht0 => ?_⟩
    have s1 := same_new (o := .tup []) ht0
    refine ⟨_, rfl, (by show 2 ≤ sizeLine; decide), fun t1 ht1 => ?_⟩
    have s2 := s1.trans (same_new (o := .tup [.ref t0, .int (total : Int)]) ht1)
    have h00 : (upd (upd H t0 (.tup [])) t1 (.tup [.ref t0, .int (total : Int)])) t0 = some (.tup []) := by rw [upd_ne (ne_of_none upd_same ht1)]; exact upd_same
    refine ⟨(by show 1 ≤ sizeLine; decide), fun l0 hl0 => ?_⟩
    have sl := same_new (o := .lst [.ref t1]) hl0
    refine ⟨_, rfl, (parts : Int), rfl, by omega, by omega, ?_⟩
    refine for_range (lo := 0) (n := parts) (fun k σ H2 => ∃ (ra : Addr) (rows : List SE) (a b c d e g : Option V), σ = [some (.int (parts : Int)), some (.int (total : Int)), some (.ref ra), a, b, c, d, e, none] ∧ Same H H2 ∧ LstOf SEAt H2 ra rows ∧ SOk parts total k rows)
      ⟨l0, [([], (total : Int))], none, none, none, none, none, none, rfl, s2.trans sl, ⟨[t1], upd_same, .cons ⟨t0, sl _ _ upd_same, sl _ _ h00⟩ .nil⟩, SOk.begin parts total⟩ ?_ ?_
    · rintro k σ H2 hk ⟨ra, rows, a, b, c, d, e, g, rfl, s2, ⟨ras, hra, hrP⟩, S⟩
      have ek : (0 : Int) + (k : Int) = (k : Int) := by omega
      rw [ek]
      have hpl := pow_le (k := k + 1) ht (by omega)
      have hrl : rows.length * (total + 1) ≤ 13845841 := by
        have := Nat.mul_le_mul_right (total + 1) (S.len1 hk)
        rw [Nat.pow_succ] at hpl
        omega
      refine ⟨(by show 0 ≤ sizeLine; decide), fun lg hlg => ?_⟩
      have s3 := same_new (o := .lst []) hlg
      refine ⟨_, rfl, ra, rfl, ⟨_, SqL.of (s3 _ _ hra)⟩, for_list (K := K) (a := ra) (xs := ras.map V.ref) (fun i σ H4 => ∃ (c d e : Option V), σ = [some (.int (parts : Int)), some (.int (total : Int)), some (.ref ra), some (.int (k : Int)), some (.ref lg), c, d, e, none] ∧ Same H2 H4 ∧ LstOf SEAt H4 lg (stepS parts k (rows.take i)))
        ⟨c, d, e, rfl, s3, [], upd_same, .nil⟩ (fun i σ H4 _ ⟨_, _, _, _, s4, _⟩ => SqL.of (s4 _ _ hra)) ?_ ?_⟩
      · rintro i y σ H4 hi ⟨c, d, e', rfl, s4, las, hla, hlP⟩
        obtain ⟨ea, e, g1, g2, rfl, g3⟩ := pget hrP hi
        have hil : i < rows.length := (List.getElem?_eq_some_iff.mp g2).1
        have hein := List.mem_of_getElem? g2
        obtain ⟨et, he1, he2⟩ := SEAt.mono _ _ _ _ s4 g3
        obtain ⟨q1, q2, q3, q4, _⟩ := S.snd e hein
        have q5 := N0.sum q2
        refine ⟨ea, _, rfl, SqT.of he1, rfl, _, _, rfl, _, _, rfl, rfl, ?_⟩
        -- begin
        refine ⟨_, rfl, _, rfl, _, _, rfl, rfl, rfl, _, rfl, ?_⟩
        refine ite2 (fun z => ?_) (fun z => ?_)
        · have z : (k : Int) = (parts : Int) - 1 := by simpa using z
          have hb : bOf parts k e = e.2 := by unfold bOf; rw [if_pos z]
          refine ⟨_, rfl, ?_⟩
          refine ⟨_, rfl, .inl ⟨rfl, _, SqL.of hla⟩, _, rfl, _, rfl, _, _, rfl, rfl, _, _, rfl, ⟨by omega, by omega, by omega, by omega⟩, fun D hD => ?_⟩
          refine lc_range (fun j H5 => Same H4 H5 ∧ ∃ bs : List Addr, H5 D = some (.lst (bs.map V.ref)) ∧ Paired (SEAt H5) bs ((extS (bOf parts k e) e).take j))
            ⟨same_new hD, [], upd_same, .nil⟩ ?_ ?_
          · rintro j H5 hj ⟨s5, bs, hb5, hbP⟩
            have hext : (extS (bOf parts k e) e)[j]? = some (e.1 ++ [bOf parts k e + (j : Int)], e.2 - (bOf parts k e + (j : Int))) := by
              unfold extS
              rw [List.getElem?_map, List.getElem?_range (by rw [hb]; exact hj)]
              rfl
            have hbl : bs.length ≤ j := by
              rw [hbP.length, List.length_take]
              omega
            have hjb : j < 1000 := by omega
            refine ⟨rfl, _, rfl, _, rfl, (by show 1 ≤ sizeLine; decide), fun p1 hp1 => ?_⟩
            have g1 := same_new (o := .tup [.int (e.2 + (j : Int))]) hp1
            refine cat_vs (g1 _ _ (s5 _ _ he2)) upd_same (by rw [List.length_map, q1]; show k + 1 ≤ _; omega) fun r H6 s6 hr => ?_
            refine ⟨_, rfl, _, rfl, _, _, rfl, rfl, (by show 2 ≤ sizeLine; decide), fun p2 hp2 => ?_⟩
            have s7 := s6.trans (same_new (o := .tup [.ref r, .int (e.2 - (e.2 + (j : Int)))]) hp2)
            have s57 := g1.trans s7
            refine ⟨bs.map V.ref, s57 _ _ hb5, by rw [List.length_map, sizeLine_eq]; omega, same_put (s5.trans s57) hD, bs ++ [p2], by rw [upd_same, List.map_append]; rfl, ?_⟩
            rw [take_snoc hext]
            refine Paired_snoc (Paired_mono (fun a x hx => SEAt.keep (s57 _ _ hb5) (SEAt.mono _ _ _ _ s57 hx)) hbP) (SEAt.keep (s57 _ _ hb5) ⟨r, ?_, ?_⟩)
            · rw [hb]; exact upd_same
            · have := (same_new (o := .tup [.ref r, .int (e.2 - (e.2 + (j : Int)))]) hp2) _ _ hr
              rw [this, hb, List.map_append]
              rfl
          · rintro H5 ⟨s5, bs, hb5, hbP⟩
            have he : (extS (bOf parts k e) e).take (e.2 + 1 - e.2).toNat = extS (bOf parts k e) e := by
              refine List.take_of_length_le ?_
              unfold extS
              rw [List.length_map, List.length_range, hb]
              exact Nat.le_refl _
            rw [he] at hbP
            have st : stepS parts k (rows.take (i + 1)) = stepS parts k (rows.take i) ++ extS (bOf parts k e) e := by
              unfold stepS
              rw [take_snoc g2, List.flatMap_append]
              simp
            have hlen : las.length + bs.length ≤ 13845841 := by
              rw [hlP.length, hbP.length, ← List.length_append, ← st]
              have h1 := flat_len (rows := rows.take (i + 1)) (c := total + 1) (f := fun e => extS (bOf parts k e) e) fun x hx => extS_len S (List.mem_of_mem_take hx)
              have h2 : (rows.take (i + 1)).length ≤ rows.length := by rw [List.length_take]; omega
              have h3 := Nat.mul_le_mul_right (total + 1) h2
              show ((rows.take (i + 1)).flatMap fun e => extS (bOf parts k e) e).length ≤ _
              omega
            refine ⟨lg, D, _, _, rfl, rfl, s5 _ _ hla, hb5, by rw [List.length_map, List.length_map, sizeLine_eq]; omega, ?_⟩
            refine ⟨_, _, _, rfl, same_put (s4.trans s5) hlg, las ++ bs, by rw [upd_same, List.map_append], ?_⟩
            rw [st]
            exact Paired_mono (fun a x hx => SEAt.keep (s5 _ _ hla) hx) (Paired_app hbP (Paired_mono (fun a x hx => SEAt.mono _ _ _ _ s5 hx) hlP))
        · have z : ¬ (k : Int) = (parts : Int) - 1 := by simpa using z
          have hb : bOf parts k e = 0 := by unfold bOf; rw [if_neg z]
          refine ⟨_, rfl, .inl ⟨rfl, _, SqL.of hla⟩, _, rfl, _, rfl, _, _, rfl, rfl, _, _, rfl, ⟨by omega, by omega, by omega, by omega⟩, fun D hD => ?_⟩
          refine lc_range (fun j H5 => Same H4 H5 ∧ ∃ bs : List Addr, H5 D = some (.lst (bs.map V.ref)) ∧ Paired (SEAt H5) bs ((extS (bOf parts k e) e).take j))
            ⟨same_new hD, [], upd_same, .nil⟩ ?_ ?_
          · rintro j H5 hj ⟨s5, bs, hb5, hbP⟩
            have hext : (extS (bOf parts k e) e)[j]? = some (e.1 ++ [bOf parts k e + (j : Int)], e.2 - (bOf parts k e + (j : Int))) := by
              unfold extS
              rw [List.getElem?_map, List.getElem?_range (by rw [hb]; exact hj)]
              rfl
            have hbl : bs.length ≤ j := by
              rw [hbP.length, List.length_take]
              omega
            have hjb : j < 1000 := by omega
            refine ⟨rfl, _, rfl, _, rfl, (by show 1 ≤ sizeLine; decide), fun p1 hp1 => ?_⟩
            have g1 := same_new (o := .tup [.int ((0 : Int) + (j : Int))]) hp1
            refine cat_vs (g1 _ _ (s5 _ _ he2)) upd_same (by rw [List.length_map, q1]; show k + 1 ≤ _; omega) fun r H6 s6 hr => ?_
            refine ⟨_, rfl, _, rfl, _, _, rfl, rfl, (by show 2 ≤ sizeLine; decide), fun p2 hp2 => ?_⟩
            have s7 := s6.trans (same_new (o := .tup [.ref r, .int (e.2 - ((0 : Int) + (j : Int)))]) hp2)
            have s57 := g1.trans s7
            refine ⟨bs.map V.ref, s57 _ _ hb5, by rw [List.length_map, sizeLine_eq]; omega, same_put (s5.trans s57) hD, bs ++ [p2], by rw [upd_same, List.map_append]; rfl, ?_⟩
            rw [take_snoc hext]
            refine Paired_snoc (Paired_mono (fun a x hx => SEAt.keep (s57 _ _ hb5) (SEAt.mono _ _ _ _ s57 hx)) hbP) (SEAt.keep (s57 _ _ hb5) ⟨r, ?_, ?_⟩)
            · rw [hb]; exact upd_same
            · have := (same_new (o := .tup [.ref r, .int (e.2 - ((0 : Int) + (j : Int)))]) hp2) _ _ hr
              rw [this, hb, List.map_append]
              rfl
          · rintro H5 ⟨s5, bs, hb5, hbP⟩
            have he : (extS (bOf parts k e) e).take (e.2 + 1 - (0 : Int)).toNat = extS (bOf parts k e) e := by
              refine List.take_of_length_le ?_
              unfold extS
              rw [List.length_map, List.length_range, hb]
              exact Nat.le_refl _
            rw [he] at hbP
            have st : stepS parts k (rows.take (i + 1)) = stepS parts k (rows.take i) ++ extS (bOf parts k e) e := by
              unfold stepS
              rw [take_snoc g2, List.flatMap_append]
              simp
            have hlen : las.length + bs.length ≤ 13845841 := by
              rw [hlP.length, hbP.length, ← List.length_append, ← st]
              have h1 := flat_len (rows := rows.take (i + 1)) (c := total + 1) (f := fun e => extS (bOf parts k e) e) fun x hx => extS_len S (List.mem_of_mem_take hx)
              have h2 : (rows.take (i + 1)).length ≤ rows.length := by rw [List.length_take]; omega
              have h3 := Nat.mul_le_mul_right (total + 1) h2
              show ((rows.take (i + 1)).flatMap fun e => extS (bOf parts k e) e).length ≤ _
              omega
            refine ⟨lg, D, _, _, rfl, rfl, s5 _ _ hla, hb5, by rw [List.length_map, List.length_map, sizeLine_eq]; omega, ?_⟩
            refine ⟨_, _, _, rfl, same_put (s4.trans s5) hlg, las ++ bs, by rw [upd_same, List.map_append], ?_⟩
            rw [st]
            exact Paired_mono (fun a x hx => SEAt.keep (s5 _ _ hla) hx) (Paired_app hbP (Paired_mono (fun a x hx => SEAt.mono _ _ _ _ s5 hx) hlP))
      · rintro σ H4 ⟨c, d, e', rfl, s4, hls⟩
        rw [List.length_map, hrP.length, List.take_length] at hls
        exact ⟨_, rfl, lg, _, _, _, _, _, _, none, rfl, s2.trans s4, hls, S.step hk⟩
    · rintro σ H2 ⟨ra, rows, a, b, c, d, e, g, rfl, s2, ⟨ras, hra, hrP⟩, S⟩
      have hrl : rows.length ≤ 226981 := S.len2 ht hp4
      refine ⟨_, rfl, ra, rfl, ⟨_, SqL.of hra⟩, fun D hD => ?_⟩
      refine lc_list (K := K) (a := ra) (xs := ras.map V.ref) (fun i H3 => Same H2 H3 ∧ ∃ (bs : List Addr) (ls : List (List Int)), H3 D = some (.lst (bs.map V.ref)) ∧ Paired (IntsAt H3) bs ls ∧ ls.length ≤ i ∧ ∀ l, l ∈ ls ↔ ∃ e ∈ rows.take i, e.2 = 0 ∧ e.1 = l)
        ⟨same_new hD, [], [], upd_same, .nil, Nat.le_refl _, fun l => ⟨fun z => (by cases z), fun ⟨_, z, _⟩ => (by cases z)⟩⟩ (fun i H3 _ ⟨s3, _⟩ => SqL.of (s3 _ _ hra)) ?_ ?_
      · rintro i y H3 hi ⟨s3, bs, ls, hb, hP, hl, hm⟩
        obtain ⟨ea, e, g1, g2, rfl, g3⟩ := pget hrP hi
        have hil : i < rows.length := (List.getElem?_eq_some_iff.mp g2).1
        obtain ⟨et, he1, he2⟩ := SEAt.mono _ _ _ _ s3 g3
        refine ⟨ea, _, rfl, SqT.of he1, rfl, _, _, rfl, _, _, rfl, rfl, rfl, _, rfl, rfl, _, rfl, ?_⟩
        refine ite2 (fun z => ?_) (fun z => ?_)
        · have z : e.2 = 0 := by simpa using z
          refine ⟨_, rfl, _, hb, by rw [List.length_map, hP.length, sizeLine_eq]; omega, same_put s3 hD, bs ++ [et], ls ++ [e.1], by rw [upd_same, List.map_append]; rfl, Paired_snoc (Paired_mono (fun a r hr => IntsAt.keep hb hr) hP) (IntsAt.keep hb he2), by rw [List.length_append]; show ls.length + 1 ≤ i + 1; omega, fun l => ?_⟩
          rw [take_snoc g2, List.mem_append, hm]
          constructor
          · rintro (⟨x, x1, x2⟩ | x)
            · exact ⟨x, List.mem_append_left _ x1, x2⟩
            · exact ⟨e, List.mem_append_right _ List.mem_cons_self, z, (List.mem_singleton.mp x).symm⟩
          · rintro ⟨x, x1, x2, x3⟩
            rcases List.mem_append.mp x1 with y | y
            · exact .inl ⟨x, y, x2, x3⟩
            · rw [List.mem_singleton.mp y] at x3
              exact .inr (by rw [← x3]; exact List.mem_cons_self)
        · have z : ¬ e.2 = 0 := by simpa using z
          refine ⟨s3, bs, ls, hb, hP, by omega, fun l => ?_⟩
          rw [hm, take_snoc g2]
          constructor
          · rintro ⟨x, x1, x2⟩
            exact ⟨x, List.mem_append_left _ x1, x2⟩
          · rintro ⟨x, x1, x2, x3⟩
            rcases List.mem_append.mp x1 with y | y
            · exact ⟨x, y, x2, x3⟩
            · rw [List.mem_singleton.mp y] at x2
              exact absurd x2 z
      · rintro H3 ⟨s3, bs, ls, hb, hP, hl, hm⟩
        rw [List.length_map, hrP.length] at hl hm
        rw [List.take_length] at hm
        exact kk D ls H3 (s2.free hD) (s2.trans s3) ⟨bs, hb, hP⟩ (fun l => (hm l).trans (S.end l)) (by omega)
end
end K70

end
section
set_option maxRecDepth 100000
set_option maxHeartbeats 4000000
/-! NoKits.__init__; fewest. -/
namespace K70
open PySem PySem.Spec PyProof.Rows L2 K70M
def spNoKits : Sp := fun vs H Q _ => ∃ (a C : Addr) (K : PySem.W.Frag) (v : V), vs = [.ref a, v] ∧ H a = some (exo a C none) ∧ OexC K C ∧ (∀ dx : Addr, H dx = none → dx ≠ a → Q .non (upd (upd H dx (exd dx [(Str.ofString "paper", v)])) a (exo a C (some dx))))
structure NKT (K : PySem.W.Frag) (mg : Str → Option Value) (CN BN fN : Addr) : Prop where
  mgP : mg "PaperError" = some (.ref BN)
  pb : PeB K BN
  mgN : mg "NoKits" = some (.ref CN)
  oe : OexC K CN
  iC : PySem.W.findIn K (.ref CN) "__init__" = some (some (.ref fN))
  tI : PySem.W.typeIn K (.ref fN) = some (.type "function")
  nPaper : PySem.W.findIn K (.ref CN) "paper" = some none
def spNK (K : PySem.W.Frag) (CN : Addr) : Sp := fun vs H Q _ => ∃ (a : Addr) (v : V), vs = [.ref a, v] ∧ H a = some (exo a CN none) ∧ (∀ dx : Addr, H dx = none → dx ≠ a → Q .non (upd (upd H dx (exd dx [(Str.ofString "paper", v)])) a (exo a CN (some dx))))
def Least (rows : List Row) (kits : List (List Row)) (wants : List Want) (n : List Int) : Prop := Built rows kits wants n ∧ ∀ n', Built rows kits wants n' → n.sum ≤ n'.sum
def WantsOk (wants : List Want) : Prop := wants.length ≤ 8 ∧ (∀ w ∈ wants, w.2.1.length ≤ 16 ∧ 0 ≤ w.2.2) ∧ (wants.map (·.2.2)).sum ≤ 60
theorem WantsOk.w0 {wants : List Want} (h : WantsOk wants) : wants0 wants := ⟨fun w hw => (h.2.1 w hw).2, by have := h.2.2; omega⟩
def spFewest (C CN : Addr) : Sp := fun vs H Q E => ∃ (h ks sa : Addr) (rows : List Row) (kits : List (List Row)) (wss : List (List Want)), vs = [.ref h, .ref ks, .ref sa] ∧ HeapAt C H h rows ∧ rows.length ≤ 100 ∧ HeapsAt C H ks kits ∧ KitsOk kits ∧ TupOf SRowAt H sa wss ∧ WantsOk wss.flatten ∧
  (∀ (t : Addr) (n : List Int) (H' : Hp), Same H H' → H' t = some (.tup (n.map V.int)) → Least rows kits wss.flatten n → Q (.ref t) H') ∧ (∀ (d : Addr) (H' : Hp), Same H H' → (¬ ∃ n, Built rows kits wss.flatten n) → E (.ref CN) (some d) H')
theorem PlaceAt.keep {H : Hp} {D : Addr} {o : HO} {xs : List V} (hD : H D = some (.lst xs)) {a : Addr} {k : PlaceK} (h : PlaceAt H a k) : PlaceAt (upd H D o) a k := by
  have key : ∀ {a : Addr} {t : List V}, H a = some (.tup t) → upd H D o a = some (.tup t) := fun e => by
    rw [upd_ne (ne_of e hD (by intro z; cases z))]
    exact e
  obtain ⟨f, p⟩ := k
  cases p with
  | none => exact key h
  | some ss =>
    obtain ⟨t, h1, h2⟩ : ∃ t, H a = some (.tup [.str f, .ref t]) ∧ H t = some (.tup (ss.map V.str)) := h
    exact ⟨t, key h1, key h2⟩
section
variable {P : Program} {w : World} {K : PySem.W.Frag} {mg : Str → Option Value} {base : Heap}
theorem ok_NK {f CN BN fN : Addr} {fd : FuncData} (F : Fun K "__init__" "NoKits.__init__" s_NoKits_init f fd) (N : NKT K mg CN BN fN) : FnOk P w K mg base CX0 1 f fd ["self", "paper"] (spNK K CN) := by
  refine F.ok sc_NoKits_init (fun vs H Q E h => ?_) (fun cdv A outer s H vs Q E hr h => ?_)
  · obtain ⟨_, _, rfl, _⟩ := h
    rfl
  · obtain ⟨a, v, rfl, ha, k⟩ := h
    refine ⟨_, pss_cons (ps_expr (pe_baseInit (by rfl) N.mgP N.pb (pa_cons (pv 0) (pa_cons pe_str pa_nil)))) (pss_one (ps_ost (pv 0) (pv 1))), ?_⟩
    refine ⟨_, rfl, a, CN, _, rfl, (by show 1 ≤ 1000; decide), N.oe, ha, ?_⟩
    exact ⟨_, rfl, _, rfl, a, CN, rfl, N.oe, N.nPaper, .inl ⟨ha, fun dx h1 h2 => k dx h1 h2⟩⟩
theorem ok_fewest {f C CN BN fN : Addr} {fd fdN : FuncData} {dN : List Value} (F : Fun K "fewest" "fewest" s_fewest f fd) (B : BT mg) (N : NKT K mg CN BN fN) (GN : FnOk P w K mg base CX0 1 fN fdN ["self", "paper"] (spNK K CN)) (bN : Binds K fdN ["self", "paper"] [])
    (wo : Cl P w K mg base CX0 1 "wants_of" ["sheet", "choice"] [.non] spWantsOf) (ne : Cl P w K mg base CX0 7 "never_at" ["heap", "kits", "wants"] [] (spNever C)) (su : Cl P w K mg base CX0 1 "sums_of" ["parts", "total"] [] spSums) (fi : Cl P w K mg base CX0 3 "fills" ["heap", "kits", "wants", "places", "many"] [] (spFills C K))
    (de : Cl P w K mg base CX0 6 "deal" ["heap", "wants"] [] (spDeal C)) (wk : Cl P w K mg base CX0 5 "with_kits" ["heap", "kits", "many"] [] (spWithKits C K)) :
    FnOk P w K mg base (L2.CX P w) 8 f fd ["heap", "kits", "sheet"] (spFewest C CN) := by
  refine F.okX sc_fewest (fun vs H Q E h => ?_) (fun cdv A outer s H vs Q E hr h => ?_)
  · obtain ⟨_, _, _, _, _, _, rfl, _⟩ := h
    rfl
  · obtain ⟨h, ks, sa, rows, kits, wss, rfl, hh, hlen, hk, ⟨hk1, hk2⟩, hs, hwo, kq, ke⟩ := h
    have nd := sc_fewest.nd
    refine ⟨_, pss_cons (ps_set (i := 3) nd rfl (Or.inl rfl) (pe_k wo (hr.mono (by decide)) rfl pass0 (pa_cons (pv 2) pa_nil)))
      (pss_cons (ps_set (i := 4) nd rfl (Or.inl rfl) (pe_k ne hr rfl pass0 (pa_cons (pv 0) (pa_cons (pv 1) (pa_cons (pv 3) pa_nil)))))
      (pss_cons (ps_if (pt_cmpR op_notN (pv 4) pe_non (nomark _)) (pss_one (ps_raise rfl (takes_of rfl rfl rfl rfl) (pmk_oex N.oe N.iC N.tI GN (hr.mono (by decide)) bN .nil pass0 (by rfl) N.mgN (pa_cons (pv 4) pa_nil)))) pss_nil)
      (PSs.nox (pss_cons (ps_par (i := 5) (j := 6) (by rfl) nd rfl rfl (by decide) rfl rfl (pa_cons (pe_lst pa_nil) (pa_cons pe_int pa_nil)) (by rfl))
      (pss_cons (ps_set (i := 7) nd rfl (Or.inl rfl) pe_non)
      (pss_cons (ps_while PassesOwn.never (pt_cmpR op_isN (pv 7) pe_non (nomark _))
        (pss_cons (ps_for PassesOwn.never rfl (pi_list (pe_k su (hr.mono (by decide)) rfl pass0 (pa_cons (pe_callB call_len_seq (by rfl) B.len PySem.boot_len (pa_cons (pv 1) pa_nil)) (pa_cons (pv 6) pa_nil)))) (pg_name (i := 8) nd rfl (Or.inl rfl))
          (pss_one (ps_if (PW.pt (pw_and (pt_cmpR op_isN (pv 7) pe_non (nomark _)) (pw_and1 (pt_val (pe_k fi (hr.mono (by decide)) rfl pass0 (pa_cons (pv 0) (pa_cons (pv 1) (pa_cons (pv 3) (pa_cons (pv 5) (pa_cons (pv 8) pa_nil))))))))))
            (pss_cons (ps_asg (pe_k de (hr.mono (by decide)) rfl pass0 (pa_cons (pe_k wk (hr.mono (by decide)) rfl pass0 (pa_cons (pv 0) (pa_cons (pv 1) (pa_cons (pv 8) pa_nil)))) (pa_cons (pv 3) pa_nil))) (pg_tup rfl (pgs_cons (pg_name (i := 9) nd rfl (Or.inl rfl)) (pgs_cons (pg_name (i := 10) nd rfl (Or.inl rfl)) pgs_nil))))
            (pss_one (ps_if (pt_cmpR op_eq (pv 9) pe_str (nomark _))
              (pss_one (ps_set (i := 7) nd rfl (Or.inl rfl) (pv 8)))
              (pss_one (ps_expr (pe_bm PySem.F.plainAttrs_list PySem.F.slot_list_append PySem.F.type_list_append mt_append (pv 5) (pa_cons (pv 10) pa_nil)))))))
            pss_nil)))
        (pss_one (ps_set (i := 6) nd rfl (Or.inl rfl) (pe_op op_add (pv 6) pe_int)))))
      (pss_one (ps_ret (pv 7))))))))), ?_⟩
    have hw0 := hwo.w0
    have hwl : wss.flatten.length ≤ 8 := hwo.1
    obtain ⟨kas, hKT, hKP⟩ := id hk
    have lk := hKP.length
    refine ⟨_, rfl, sa, wss, rfl, hs, by omega, fun wa H1 s1 hw => ?_⟩
    generalize wss.flatten = wants at *
    have hws : ∀ w ∈ wants, w.2.1.length ≤ 16 := fun w hw => (hwo.2.1 w hw).1
    refine ⟨_, rfl, _, rfl, _, rfl, h, ks, wa, rows, kits, wants, rfl, hh.mono _ _ _ _ s1, hlen, HeapsAt.mono _ _ _ _ s1 hk, ⟨hk1, hk2⟩, hw, by omega, hws, hw0, fun v H2 s2 hv => ?_⟩
    have s12 := s1.trans s2
    refine ⟨_, rfl, rfl, _, rfl, ?_⟩
    rcases hv with ⟨rfl, hex⟩ | ⟨t, rfl, hno⟩
    · refine iteF ?_
      refine ⟨(by show 0 ≤ sizeLine; decide), fun pl hpl => ?_⟩
      have s3 := s12.trans (same_new (o := .lst []) hpl)
      have hpl0 : H pl = none := s12.free hpl
      refine ⟨_, _, rfl, ?_⟩
      -- so many are enough
      obtain ⟨n1, hb1, hs1⟩ : ∃ n1, Built rows kits wants n1 ∧ n1.sum ≤ 60 := by
        obtain ⟨n, hl, hn, hd⟩ := hex
        obtain ⟨n', g1, g2, g3, g4⟩ := fewer hh.nn (kits_nn hKP) hn hl hd
        rw [wsum_sum] at g3
        exact ⟨n', ⟨g1, g2, g4⟩, by have := hwo.2.2; omega⟩
      refine ⟨fun m σ H3 => ∃ (pas : List Addr) (places : List PlaceK) (T : Nat) (fv : V) (a b c : Option V), σ = [some (.ref h), some (.ref ks), some (.ref sa), some (.ref wa), some .non, some (.ref pl), some (.int (T : Int)), some fv, a, b, c] ∧ Same H1 H3 ∧ H3 pl = some (.lst (pas.map V.ref)) ∧ Paired (PlaceAt H3) pas places ∧ (∀ p ∈ places, ∀ ss, p.2 = some ss → ss.length ≤ 100000) ∧ places.length ≤ T * 226981 ∧ T ≤ 61 ∧
          ((fv = .non ∧ (∀ n', Built rows kits wants n' → (T : Int) ≤ n'.sum) ∧ m = 100 - T) ∨ ∃ ad n, fv = .ref ad ∧ H3 ad = some (.tup (n.map V.int)) ∧ Least rows kits wants n ∧ m = 0), ?_, ?_⟩
      · exact ⟨100, [], [], 0, .non, none, none, none, rfl, s2.trans (same_new hpl), upd_same, .nil, (fun p hp => by cases hp), Nat.le_refl _, by omega, .inl ⟨rfl, fun n' hn' => N0.sum hn'.2.1, rfl⟩⟩
      · rintro m σ H3 ⟨pas, places, T, fv, a, b, c, rfl, s13, hpL, hpP, hpS, hpN, hT, hst⟩
        have s03 := s1.trans s13
        have npl1 : H1 pl = none := s2.free hpl
        refine ⟨_, rfl, rfl, _, rfl, ?_⟩
        rcases hst with ⟨rfl, hmin, rfl⟩ | ⟨ad, n, rfl, had, hle, rfl⟩
        · refine iteT ?_
          have hT60 : (T : Int) ≤ 60 := Int.le_trans (hmin n1 hb1) hs1
          refine ⟨_, fun _ _ z => z, ?_⟩
          refine ⟨_, rfl, ks, _, rfl, .inr (SqT.of (s03 _ _ hKT)), _, rfl, kits.length, T, by rw [List.length_map, lk]; rfl, hk1, by omega, fun la ls H4 hla s4 hls hin hlsl => ?_⟩
          obtain ⟨las, hlaL, hlaP⟩ := hls
          have hpL4 := s4 _ _ hpL
          have nlp : la ≠ pl := fun z => by rw [z, hpL] at hla; cases hla
          refine ⟨la, rfl, ⟨_, SqL.of hlaL⟩, for_list (K := K) (a := la) (xs := las.map V.ref) (fun i σ H5 => ∃ (pas : List Addr) (places : List PlaceK) (fv : V) (a b c : Option V), σ = [some (.ref h), some (.ref ks), some (.ref sa), some (.ref wa), some .non, some (.ref pl), some (.int (T : Int)), some fv, a, b, c] ∧ Same H1 H5 ∧ H5 la = some (.lst (las.map V.ref)) ∧ Paired (IntsAt H5) las ls ∧ H5 pl = some (.lst (pas.map V.ref)) ∧ Paired (PlaceAt H5) pas places ∧ (∀ p ∈ places, ∀ ss, p.2 = some ss → ss.length ≤ 100000) ∧ places.length ≤ T * 226981 + i ∧
              ((fv = .non ∧ ∀ n' ∈ ls.take i, ¬ Built rows kits wants n') ∨ ∃ ad n, fv = .ref ad ∧ H5 ad = some (.tup (n.map V.int)) ∧ n ∈ ls ∧ Built rows kits wants n))
            ⟨pas, places, .non, a, b, c, rfl, s13.trans s4, hlaL, hlaP, hpL4, Paired_mono (fun x y r => PlaceAt.mono _ _ _ _ s4 r) hpP, hpS, Nat.le_trans hpN (Nat.le_add_right _ _), .inl ⟨rfl, fun n' hn' => by cases hn'⟩⟩ (fun i σ H5 _ ⟨_, _, _, _, _, _, _, _, z, _⟩ => SqL.of z) ?_ ?_⟩
          · rintro i y σ H5 hi ⟨pas, places, fv, a, b, c, rfl, s15, hla5, hlaP5, hpL, hpP, hpS, hpN, hst⟩
            obtain ⟨ad, n, g1, g2, rfl, hn⟩ := pget hlaP5 hi
            have hil : i < ls.length := (List.getElem?_eq_some_iff.mp g2).1
            have hnin := List.mem_of_getElem? g2
            obtain ⟨n1l, n10, n1s⟩ := (hin n).mp hnin
            have hn : H5 ad = some (.tup (n.map V.int)) := hn
            have hnb : ∀ x ∈ n, x < 1000000 := fun x hx => by
              have := N0.le n10 x hx
              omega
            have s05 := s1.trans s15
            refine ⟨_, rfl, rfl, _, rfl, ?_⟩
            rcases hst with ⟨rfl, hnone⟩ | ⟨ad2, n2, rfl, h2, h3, h4⟩
            · refine iteT ?_
              refine ⟨_, rfl, _, rfl, _, rfl, _, rfl, _, rfl, h, ks, wa, pl, ad, rows, kits, wants, places, n, rfl, hh.mono _ _ _ _ s05, hlen, HeapsAt.mono _ _ _ _ s05 hk, ⟨hk1, hk2⟩, WantsAt.mono _ _ _ _ s15 hw, by omega, (fun w' hw' => by have := hws w' hw'; omega), ⟨pas, hpL, hpP⟩, hpS, hn, n1l, n10, hnb, fun bb H6 s6 hbb => ?_⟩
              have tk : ∀ n' ∈ ls.take (i + 1), n' ∈ ls.take i ∨ n' = n := fun n' hn' => by
                rw [take_snoc g2] at hn'
                rcases List.mem_append.mp hn' with z | z
                · exact .inl z
                · exact .inr (List.mem_singleton.mp z)
              refine ⟨_, rfl, ?_⟩
              cases bb with
              | false =>
                refine iteF ?_
                refine ⟨pas, places, .non, _, _, _, rfl, s15.trans s6, s6 _ _ hla5, Paired_mono (fun x y r => IntsAt.mono _ _ _ _ s6 r) hlaP5, s6 _ _ hpL, Paired_mono (fun x y r => PlaceAt.mono _ _ _ _ s6 r) hpP, hpS, by omega, .inl ⟨rfl, fun n' hn' => ?_⟩⟩
                rcases tk n' hn' with z | z
                · exact hnone n' z
                · rw [z]; exact fun hbu => hbb rfl hbu.2.2
              | true =>
                refine iteT ?_
                have s06 := s05.trans s6
                refine ⟨_, rfl, _, rfl, _, rfl, h, ks, ad, true, rows, kits, n, rfl, hh.mono _ _ _ _ s06, hlen, HeapsAt.mono _ _ _ _ s06 hk, ⟨hk1, hk2⟩, SqT.of (s6 _ _ hn), n1l, n10, hnb, fun r rows' H7 s7 hA hc hl => ?_⟩
                have ec : cnt rows' = comb rows kits n := funext hc
                refine ⟨_, rfl, r, wa, rows', wants, rfl, hA, hl, WantsAt.mono _ _ _ _ ((s15.trans s6).trans s7) hw, by omega, hws, hw0, fun rr H8 s8 hres => ?_⟩
                rw [ec] at hres
                have s58 := (s6.trans s7).trans s8
                rcases hres with ⟨t, hr1, hd⟩ | ⟨t, plc, hr1, hplc, hpl2, hd⟩
                · refine ⟨rr, _, rfl, SqT.of hr1, rfl, _, _, rfl, _, _, rfl, rfl, ?_⟩
                  refine ⟨_, rfl, rfl, _, rfl, ?_⟩
                  refine iteT ?_
                  refine ⟨_, rfl, ?_⟩
                  exact ⟨pas, places, .ref ad, _, _, _, rfl, s15.trans s58, s58 _ _ hla5, Paired_mono (fun x y r => IntsAt.mono _ _ _ _ s58 r) hlaP5, s58 _ _ hpL, Paired_mono (fun x y r => PlaceAt.mono _ _ _ _ s58 r) hpP, hpS, by omega, .inr ⟨ad, n, rfl, s58 _ _ hn, hnin, n1l, n10, hd⟩⟩
                · refine ⟨rr, _, rfl, SqT.of hr1, rfl, _, _, rfl, _, _, rfl, rfl, ?_⟩
                  refine ⟨_, rfl, rfl, _, rfl, ?_⟩
                  refine iteF ?_
                  have hpL8 := s58 _ _ hpL
                  refine ⟨_, rfl, .inl ⟨rfl, _, SqL.of hpL8⟩, _, rfl, pl, _, _, rfl, rfl, hpL8, by rw [List.length_map, hpP.length, sizeLine_eq]; omega, ?_⟩
                  refine ⟨pas ++ [t], places ++ [plc], .non, _, _, _, rfl, same_put (s15.trans s58) npl1, by rw [upd_ne nlp]; exact s58 _ _ hla5, Paired_mono (fun x y r => IntsAt.keep hpL8 (IntsAt.mono _ _ _ _ s58 r)) hlaP5, by rw [upd_same, List.map_append]; rfl, Paired_snoc (Paired_mono (fun x y r => PlaceAt.keep hpL8 (PlaceAt.mono _ _ _ _ s58 r)) hpP) (PlaceAt.keep hpL8 hplc), fun p hp => ?_, by rw [List.length_append]; show places.length + 1 ≤ _; omega, .inl ⟨rfl, fun n' hn' => ?_⟩⟩
                  · rcases List.mem_append.mp hp with z | z
                    · exact hpS p z
                    · rw [List.mem_singleton.mp z]
                      exact fun ss e => by have := hpl2 ss e; omega
                  · rcases tk n' hn' with z | z
                    · exact hnone n' z
                    · rw [z]; exact fun hbu => hd hbu.2.2
            · refine iteF ?_
              refine iteF ?_
              exact ⟨pas, places, .ref ad2, _, _, _, rfl, s15, hla5, hlaP5, hpL, hpP, hpS, by omega, .inr ⟨ad2, n2, rfl, h2, h3, h4⟩⟩
          · rintro σ H5 ⟨pas, places, fv, a, b, c, rfl, s15, hla5, hlaP5, hpL, hpP, hpS, hpN, hst⟩
            rw [List.length_map, hlaP5.length] at hpN hst
            rw [List.take_length] at hst
            refine ⟨_, rfl, _, _, rfl, rfl, ?_⟩
            rcases hst with ⟨rfl, hnone⟩ | ⟨ad2, n2, rfl, h2, h3, h4⟩
            · refine ⟨100 - (T + 1), by omega, pas, places, T + 1, .non, _, _, _, rfl, s15, hpL, hpP, hpS, by rw [Nat.succ_mul]; omega, by omega, .inl ⟨rfl, fun n' hn' => ?_, rfl⟩⟩
              have h1 := hmin n' hn'
              have h2 : n'.sum ≠ (T : Int) := fun e => hnone n' ((hin n').mpr ⟨hn'.1, hn'.2.1, e⟩) hn'
              omega
            · refine ⟨0, by omega, pas, places, T + 1, .ref ad2, _, _, _, rfl, s15, hpL, hpP, hpS, by rw [Nat.succ_mul]; omega, by omega, .inr ⟨ad2, n2, rfl, h2, ⟨h4, fun n' hn' => ?_⟩, rfl⟩⟩
              have h1 := hmin n' hn'
              have h5 := ((hin n2).mp h3).2.2
              omega
        · refine iteF ?_
          exact ⟨_, rfl, kq ad n H3 s03 had hle⟩
    · refine iteT ?_
      refine ⟨_, rfl, (by show 1 ≤ 1000; decide), fun a ha => ?_⟩
      refine ⟨a, .ref t, rfl, upd_same, fun dx hdx hda => ⟨rfl, dx, [(Str.ofString "paper", .ref t)], upd_same, ?_, ?_, ?_⟩⟩
      · rw [upd_ne hda, upd_same]
      · rw [upd_ne hda] at hdx
        exact hdx
      · have hdx' : H2 dx = none := by
          rw [upd_ne hda] at hdx
          exact hdx
        refine ke dx _ (s12.trans fun b o e => ?_) hno
        have h1 : b ≠ dx := ne_of_none e hdx'
        have h2 : b ≠ a := ne_of_none e ha
        rw [upd_ne h1, del_ne h2, upd_ne h2, upd_ne h1, upd_ne h2]
        exact e
end
end K70

end
section
set_option maxRecDepth 100000
set_option maxHeartbeats 4000000
/-! _law_told. -/
namespace K70
open PySem PySem.Spec PyProof.Rows L2 K70M
theorem cr_sumTK {X : Cx} (K : PySem.W.Frag) (hc : X.calm = true) (h : X.K = K := by rfl) : CallR X (.builtin "sum") (rSumT K) := h ▸ cr_sumT hc
/-- fewest, ready to be called where it may raise -/
structure Clx (P : Program) (w : World) (K : PySem.W.Frag) (mg : Str → Option Value) (base : Heap) (k : Nat) (x : Str) (ps : List Str) (sp : Sp) (f : Addr) (fd : FuncData) : Prop where
  mgf : mg x = some (.ref f)
  kp : PySem.W.keepIn K (.ref f) = true
  b : Binds K fd ps []
  ok : FnOk P w K mg base (L2.CX P w) k f fd ps sp
def ToldV (rows : List Row) (kits : List (List Row)) (wants : List Want) (v : V) : Prop := (v = .non ∧ ¬ ∃ n, Built rows kits wants n) ∨ ∃ n, v = .int n.sum ∧ Least rows kits wants n
def spTold (C : Addr) : Sp := fun vs H Q _ => ∃ (h ks sa : Addr) (rows : List Row) (kits : List (List Row)) (wss : List (List Want)), vs = [.ref h, .ref ks, .ref sa] ∧ HeapAt C H h rows ∧ rows.length ≤ 100 ∧ HeapsAt C H ks kits ∧ KitsOk kits ∧ TupOf SRowAt H sa wss ∧ WantsOk wss.flatten ∧
  ∀ (v : V) (H' : Hp), Same H H' → ToldV rows kits wss.flatten v → Q v H'
section
variable {P : Program} {w : World} {K : PySem.W.Frag} {mg : Str → Option Value} {base : Heap}
theorem ok_told {f C CN f2 : Addr} {fd fd2 : FuncData} (F : Fun K "_law_told" "_law_told" s_Ltold f fd) (B : BT mg) (mgN : mg "NoKits" = some (.ref CN)) (eN : PySem.W.exmOne K (.ref CN) (.ref CN) = some true) (fw : Clx P w K mg base 8 "fewest" ["heap", "kits", "sheet"] (spFewest C CN) f2 fd2) :
    FnOk P w K mg base CX0 9 f fd ["_law_heap", "_law_heaps", "_law_sheet_here"] (spTold C) := by
  refine F.ok sc_Ltold (fun vs H Q E h => ?_) (fun cdv A outer s H vs Q E hr h => ?_)
  · obtain ⟨_, _, _, _, _, _, rfl, _⟩ := h
    rfl
  · obtain ⟨h, ks, sa, rows, kits, wss, rfl, hh, hlen, hk, hk2, hs, hwo, kq⟩ := h
    have nd := sc_Ltold.nd
    refine ⟨_, pss_cons (ps_set (i := 3) nd rfl (Or.inl rfl) pe_non)
      (pss_cons (ps_try_only (tb := fun W => tAsg (tCB (rSumT K) (tCons (tCallS (spFewest C CN) (WE W) (tCons (tVar 0) (tCons (tVar 1) (tCons (tVar 2) tNil)))) tNil)) (gName 3)) (ts := fun _ _ _ => tAsg (tC .non) (gName 3)) (Wout := fun _ _ _ _ => False) rfl rfl ⟨rfl, by decide, Or.inl mgN⟩ takes0
          (fun W pn xe tk _ => pss_one (ps_set (i := 3) nd rfl (Or.inl rfl) (pe_callB (cr_sumTK K rfl) (by rfl) B.sum (by decide +kernel) (pa_cons (pe_callS fw.ok hr (by rfl) fw.mgf fw.kp fw.b (fun σ => passAt tk σ) (by exact (pa_cons (pv 0) (pa_cons (pv 1) (pa_cons (pv 2) pa_nil))))) pa_nil))))
          (fun _ _ _ _ _ _ _ => pss_one (ps_set (i := 3) nd rfl (Or.inl rfl) pe_non)))
      (pss_one (ps_ret (pv 3)))), ?_⟩
    refine ⟨_, rfl, _, rfl, _, rfl, h, ks, sa, rows, kits, wss, rfl, hh, hlen, hk, hk2, hs, hwo, fun t n H' s' ht hl => ?_, fun d H' s' hno => ?_⟩
    · refine ⟨t, n, rfl, SqT.of ht, ?_⟩
      exact ⟨_, rfl, kq _ H' s' (.inr ⟨n, rfl, hl⟩)⟩
    · refine ⟨true, eN, fun _ a ha => ?_, fun z => by cases z⟩
      exact ⟨_, rfl, kq _ H' s' (.inl ⟨rfl, hno⟩)⟩
end
end K70

end
section
set_option maxRecDepth 100000
set_option maxHeartbeats 4000000
/-! _law_tap, _law_pick. -/
namespace K70
open PySem PySem.Spec PyProof.Rows L2 K70M
/-- the tap; at most n picks so far -/
def TapAt (H : Hp) (tp cl : Addr) (n : Nat) : Prop := ∃ (at_ turn : Nat) (rest : Int) (cells : List Int), H tp = some (.lst [.ref cl, .int (at_ : Int), .int rest, .int (turn : Int)]) ∧ H cl = some (.lst (cells.map V.int)) ∧ cl ≠ tp ∧ at_ ≤ n ∧ turn ≤ n ∧ cells.length ≤ 1000
theorem TapAt.mono {H H' : Hp} {tp cl : Addr} {n : Nat} (s : Same H H') (h : TapAt H tp cl n) : TapAt H' tp cl n := by
  obtain ⟨a, t, r, c, h1, h2, h3⟩ := h
  exact ⟨a, t, r, c, s _ _ h1, s _ _ h2, h3⟩
theorem TapAt.le {H : Hp} {tp cl : Addr} {n m : Nat} (h : TapAt H tp cl n) (l : n ≤ m) : TapAt H tp cl m := by
  obtain ⟨a, t, r, c, h1, h2, h3, h4, h5, h6⟩ := h
  exact ⟨a, t, r, c, h1, h2, h3, by omega, by omega, h6⟩
theorem TapAt.put {H : Hp} {tp cl a : Addr} {n : Nat} {o : HO} (h : TapAt H tp cl n) (h1 : a ≠ tp) (h2 : a ≠ cl) : TapAt (upd H a o) tp cl n := by
  obtain ⟨x, t, r, c, g1, g2, g3⟩ := h
  exact ⟨x, t, r, c, by rw [upd_ne h1.symm]; exact g1, by rw [upd_ne h2.symm]; exact g2, g3⟩
theorem TapAt.new {H H' : Hp} {tp cl a : Addr} {n : Nat} (h : TapAt H tp cl n) (hn : H a = none) : a ≠ tp ∧ a ≠ cl := by
  obtain ⟨x, t, r, c, g1, g2, g3⟩ := h
  exact ⟨(ne_of_none g1 hn).symm, (ne_of_none g2 hn).symm⟩
def spTap (K : PySem.W.Frag) : Sp := fun vs H Q _ => ∃ (a : Addr) (ns : List Int), vs = [.ref a] ∧ SqL K H a (ns.map V.int) ∧ ns.length ≤ 63 ∧ ∀ (tp cl : Addr) (H' : Hp), H tp = none → H cl = none → Same H H' → TapAt H' tp cl 0 → Q (.ref tp) H'
def spPick : Sp := fun vs H Q _ => ∃ (tp cl : Addr) (m n : Nat), vs = [.ref tp, .int (m : Int)] ∧ 0 < m ∧ m ≤ 1000 ∧ n ≤ 1000000 ∧ TapAt H tp cl n ∧ ∀ (r : Nat) (H' : Hp), r < m → Kept [tp] H H' → TapAt H' tp cl (n + 1) → Q (.int (r : Int)) H'
theorem cut_ints (ns : List Int) (lo hi : Option Int) : ∃ ms : List Int, cutV (ns.map V.int) lo hi = ms.map V.int ∧ ms.length ≤ ns.length := by
  refine ⟨(ns.drop (HT.sIx (ns.map V.int).length 0 lo)).take (HT.sIx (ns.map V.int).length (ns.map V.int).length hi - HT.sIx (ns.map V.int).length 0 lo), ?_, ?_⟩
  · unfold cutV
    rw [List.map_take, List.map_drop]
  · rw [List.length_take, List.length_drop]
    omega
theorem mod_nat {a : Int} {m : Nat} (hm : 0 < m) : ∃ r : Nat, r < m ∧ a % (m : Int) = (r : Int) := by
  have h1 := Int.emod_nonneg a (show (m : Int) ≠ 0 by omega)
  have h2 := Int.emod_lt_of_pos a (show (0 : Int) < (m : Int) by omega)
  exact ⟨(a % (m : Int)).toNat, by omega, by omega⟩
theorem pick_end {Q : VK} {m : Nat} (hm0 : 0 < m) {a : Int} {H' : Hp} (k : ∀ r : Nat, r < m → Q (.int (r : Int)) H') : Q (.int (a % (m : Int))) H' := by
  obtain ⟨r, hr, e⟩ := mod_nat (a := a) hm0
  rw [e]
  exact k r hr
section
variable {P : Program} {w : World} {K : PySem.W.Frag} {mg : Str → Option Value} {base : Heap}
theorem ok_tap {f : Addr} {fd : FuncData} (F : Fun K "_law_tap" "_law_tap" s_Ltap f fd) (B : BT mg) : FnOk P w K mg base CX0 1 f fd ["_law_script"] (spTap K) := by
  refine F.ok sc_Ltap (fun vs H Q E h => ?_) (fun cdv A outer s H vs Q E hr h => ?_)
  · obtain ⟨_, _, rfl, _⟩ := h
    rfl
  · obtain ⟨a, ns, rfl, hS, hl, k⟩ := h
    refine ⟨_, pss_one (ps_ret (pe_lst (pa_cons (pe_callTy call_list_of (by rfl) B.list (by decide +kernel) (pa_cons (pe_slice sl_list (pv 0) po_none (po_some pe_int)) pa_nil)) (pa_cons pe_int (pa_cons pe_int (pa_cons pe_int pa_nil)))))), ?_⟩
    obtain ⟨ms, e1, e2⟩ := cut_ints ns none (some 63)
    refine ⟨_, rfl, _, rfl, a, _, rfl, hS, fun p hp => ?_⟩
    rw [e1]
    have s1 := same_new (o := .lst (ms.map V.int)) hp
    refine ⟨p, _, rfl, .inl (SqL.of upd_same), fun l hl' => ?_⟩
    have s2 := s1.trans (same_new (o := .lst (ms.map V.int)) hl')
    refine ⟨(by show 4 ≤ sizeLine; decide), fun tp htp => ?_⟩
    have s3 := same_new (o := .lst [.ref l, .int 0, .int 0, .int 0]) htp
    exact k tp l _ (s2.free htp) (s1.free hl') (s2.trans s3) ⟨0, 0, 0, ms, upd_same, s3 _ _ upd_same, ne_of_none upd_same htp, Nat.le_refl _, Nat.le_refl _, by omega⟩
theorem ok_pick {f : Addr} {fd : FuncData} (F : Fun K "_law_pick" "_law_pick" s_Lpick f fd) (B : BT mg) : FnOk P w K mg base CX0 1 f fd ["_law_tap_here", "_law_many"] spPick := by
  refine F.ok sc_Lpick (fun vs H Q E h => ?_) (fun cdv A outer s H vs Q E hr h => ?_)
  · obtain ⟨_, _, _, _, rfl, _⟩ := h
    rfl
  · obtain ⟨tp, cl, m, n, rfl, hm0, hm1, hn, hT, k⟩ := h
    have nd := sc_Lpick.nd
    refine ⟨_, pss_cons (ps_asg (pv 0) (pg_unl rfl (pgs_cons (pg_name (i := 2) nd rfl (Or.inl rfl)) (pgs_cons (pg_name (i := 3) nd rfl (Or.inl rfl)) (pgs_cons (pg_name (i := 4) nd rfl (Or.inl rfl)) (pgs_cons (pg_name (i := 5) nd rfl (Or.inl rfl)) pgs_nil))))))
      (pss_cons (ps_asg (pe_op op_add (pv 5) pe_int) (pg_sub (pv 0) pe_int set_list))
      (pss_cons (ps_if (pt_cmpR op_gt (pv 4) pe_int (nomark _))
        (pss_cons (ps_asg (pe_op op_fdiv (pv 4) (pv 1)) (pg_sub (pv 0) pe_int set_list)) (pss_one (ps_ret (pe_op op_mod (pv 4) (pv 1))))) pss_nil)
      (pss_cons (ps_asg (pe_op op_add (pv 3) pe_int) (pg_sub (pv 0) pe_int set_list))
      (pss_cons (ps_set (i := 6) nd rfl (Or.inl rfl) (pe_ifExp (pt_cmpR (op_neD hr.units) (pv 2) (pe_lst pa_nil) (nomark _)) (pe_ix ix_list (pv 2) (pe_op op_mod (pv 3) (pe_callB call_len_seq (by rfl) B.len PySem.boot_len (pa_cons (pv 2) pa_nil))) (fun _ _ => rfl)) pe_int))
      (pss_cons (ps_if (PW.pt (pw_and (pt_cmpR op_ge (pv 6) (pe_op op_pow pe_int pe_int) (nomark _)) (pw_and1 (pt_cmpR op_lt (pv 3) (pe_callB call_len_seq (by rfl) B.len PySem.boot_len (pa_cons (pv 2) pa_nil)) (nomark _)))))
        (pss_cons (ps_asg (pe_op op_fdiv (pv 6) (pv 1)) (pg_sub (pv 0) pe_int set_list)) (pss_one (ps_ret (pe_op op_mod (pv 6) (pv 1))))) pss_nil)
      (pss_cons (ps_set (i := 7) nd rfl (Or.inl rfl) (pe_op op_mod (pe_op op_pow (pe_op op_add (pe_op op_mod (pv 6) pe_int) (pe_op op_mul pe_int (pe_op op_add (pv 5) pe_int))) pe_int) pe_int))
      (pss_cons (ps_set (i := 7) nd rfl (Or.inl rfl) (pe_op op_mod (pe_op op_pow (pe_op op_add (pe_op op_add (pv 7) (pe_op op_mul pe_int (pv 5))) pe_int) pe_int) pe_int))
      (pss_cons (ps_set (i := 7) nd rfl (Or.inl rfl) (pe_op op_mod (pe_op op_pow (pe_op op_add (pe_op op_add (pv 7) (pe_op op_mul (pe_op op_mod (pv 6) pe_int) pe_int)) (pv 5)) pe_int) pe_int))
      (pss_one (ps_ret (pe_op op_mod (pe_op op_fdiv (pv 7) pe_int) (pv 1)))))))))))), ?_⟩
    obtain ⟨at_, turn, rest, cells, h1, h2, h3, h4, h5, h6⟩ := hT
    refine ⟨_, rfl, tp, _, rfl, SqL.of h1, rfl, _, _, rfl, _, _, rfl, _, _, rfl, _, _, rfl, rfl, ?_⟩
    refine ⟨_, rfl, _, _, rfl, rfl, _, rfl, tp, _, 3, 3, rfl, rfl, h1, rfl, ?_⟩
    have kA : ∀ {o : HO}, Kept [tp] H (upd H tp o) := Kept.refl.put (.inl List.mem_cons_self)
    refine ⟨_, rfl, _, _, rfl, rfl, _, rfl, ?_⟩
    have hm30 : (0 : Int) < (m : Int) ∧ (m : Int) < 1073741824 := ⟨by omega, by omega⟩
    refine ite2 (fun c => ?_) (fun c => ?_)
    · have e_ := mod_nat (a := rest) hm0
      refine ⟨_, rfl, _, rfl, _, _, rfl, rfl, hm30, _, rfl, tp, _, 2, 2, rfl, rfl, upd_same, rfl, ?_⟩
      refine ⟨_, rfl, _, rfl, _, _, rfl, rfl, hm30.1, ?_⟩
      exact pick_end (Q := Q) hm0 fun r hrm => k r _ hrm (kA.put (.inl List.mem_cons_self)) ⟨at_, turn + 1, rest / (m : Int), cells, by rw [upd_same]; rfl, by rw [upd_ne h3, upd_ne h3]; exact h2, h3, by omega, by omega, h6⟩
    · refine ⟨_, rfl, _, _, rfl, rfl, _, rfl, tp, _, 1, 1, rfl, rfl, upd_same, rfl, ?_⟩
      have hcl : ∀ {o : HO}, (upd (upd H tp o) tp (.lst [.ref cl, .int ((at_ : Int) + 1), .int rest, .int ((turn : Int) + 1)])) cl = some (.lst (cells.map V.int)) := by intro o; rw [upd_ne h3, upd_ne h3]; exact h2
      refine ⟨_, rfl, (by show 0 ≤ sizeLine; decide), fun z hz => ?_⟩
      have g0 := same_new (o := .lst []) hz
      have hc2 := g0 _ _ hcl
      have htp2 : _ = some (HO.lst [.ref cl, .int ((at_ : Int) + 1), .int rest, .int ((turn : Int) + 1)]) := g0 _ _ upd_same
      refine ⟨_, _, .lst (SqL.of hc2) (ints_dp cells), .lst (SqL.of upd_same) .nil, shaped_ints cells, rfl, _, rfl, ?_⟩
      rw [eqv_nilI]
      by_cases hce : cells = []
      · rw [decide_eq_true hce]
        refine iteF ?_
        refine ⟨_, rfl, _, _, rfl, rfl, ⟨by decide, by decide, by decide⟩, _, _, rfl, rfl, _, rfl, ?_⟩
        refine ite2 (fun c1 => ?_) (fun c1 => ?_)
        · refine ⟨_, rfl, _, rfl, cl, _, rfl, .inl (SqL.of hc2), _, _, rfl, rfl, _, rfl, ?_⟩
          refine ite2 (fun c2 => ?_) (fun c2 => ?_)
          · have e_ := mod_nat (a := 11) hm0
            refine ⟨_, rfl, _, rfl, _, _, rfl, rfl, hm30, _, rfl, tp, _, 2, 2, rfl, rfl, htp2, rfl, ?_⟩
            refine ⟨_, rfl, _, rfl, _, _, rfl, rfl, hm30.1, ?_⟩
            exact pick_end (Q := Q) hm0 fun r hrm => k r _ hrm (((kA.put (.inl List.mem_cons_self)).trans (Kept.of g0)).put (.inl List.mem_cons_self)) ⟨(at_ + 1), turn + 1, 11 / (m : Int), cells, by rw [upd_same]; rfl, by rw [upd_ne h3]; exact hc2, h3, by omega, by omega, h6⟩
          · skip
            refine ⟨_, rfl, _, _, rfl, rfl, (by show (0 : Int) < 2147483549; decide), _, rfl, _, _, rfl, rfl, _, _, rfl, rfl, .inl ⟨by decide, by decide⟩, _, _, rfl, rfl, _, _, rfl, rfl, ⟨by decide, by decide, by omega⟩, _, _, rfl, rfl, (by show (0 : Int) < 2147483629; decide), ?_⟩
            refine ⟨_, rfl, _, rfl, _, _, rfl, rfl, .inl ⟨by decide, by decide⟩, _, _, rfl, rfl, _, _, rfl, rfl, _, _, rfl, rfl, ⟨by decide, by decide, by omega⟩, _, _, rfl, rfl, (by show (0 : Int) < 2147483647; decide), ?_⟩
            refine ⟨_, rfl, _, rfl, _, _, rfl, rfl, (by show (0 : Int) < 999983; decide), _, _, rfl, rfl, .inl ⟨by omega, by omega⟩, _, _, rfl, rfl, _, rfl, _, _, rfl, rfl, _, _, rfl, rfl, ⟨by decide, by decide, by omega⟩, _, _, rfl, rfl, (by show (0 : Int) < 2147483549; decide), ?_⟩
            refine ⟨_, rfl, _, _, rfl, rfl, ⟨by decide, by decide⟩, _, rfl, _, _, rfl, rfl, hm30.1, ?_⟩
            exact pick_end (Q := Q) hm0 fun r hrm => k r _ hrm ((kA.put (.inl List.mem_cons_self)).trans (Kept.of g0)) ⟨at_ + 1, turn + 1, rest, cells, htp2, hc2, h3, by omega, by omega, h6⟩
        · skip
          refine ⟨_, rfl, _, _, rfl, rfl, (by show (0 : Int) < 2147483549; decide), _, rfl, _, _, rfl, rfl, _, _, rfl, rfl, .inl ⟨by decide, by decide⟩, _, _, rfl, rfl, _, _, rfl, rfl, ⟨by decide, by decide, by omega⟩, _, _, rfl, rfl, (by show (0 : Int) < 2147483629; decide), ?_⟩
          refine ⟨_, rfl, _, rfl, _, _, rfl, rfl, .inl ⟨by decide, by decide⟩, _, _, rfl, rfl, _, _, rfl, rfl, _, _, rfl, rfl, ⟨by decide, by decide, by omega⟩, _, _, rfl, rfl, (by show (0 : Int) < 2147483647; decide), ?_⟩
          refine ⟨_, rfl, _, rfl, _, _, rfl, rfl, (by show (0 : Int) < 999983; decide), _, _, rfl, rfl, .inl ⟨by omega, by omega⟩, _, _, rfl, rfl, _, rfl, _, _, rfl, rfl, _, _, rfl, rfl, ⟨by decide, by decide, by omega⟩, _, _, rfl, rfl, (by show (0 : Int) < 2147483549; decide), ?_⟩
          refine ⟨_, rfl, _, _, rfl, rfl, ⟨by decide, by decide⟩, _, rfl, _, _, rfl, rfl, hm30.1, ?_⟩
          exact pick_end (Q := Q) hm0 fun r hrm => k r _ hrm ((kA.put (.inl List.mem_cons_self)).trans (Kept.of g0)) ⟨at_ + 1, turn + 1, rest, cells, htp2, hc2, h3, by omega, by omega, h6⟩
      · rw [decide_eq_false hce]
        refine iteT ?_
        have hclen : 0 < cells.length := List.length_pos_iff.mpr hce
        obtain ⟨ix, hix, eix⟩ := mod_nat (a := (at_ : Int)) (m := (cells.map V.int).length) (by rw [List.length_map]; exact hclen)
        rw [List.length_map] at hix
        obtain ⟨c0, hc0⟩ : ∃ c0, cells[ix]? = some c0 := ⟨_, List.getElem?_eq_getElem hix⟩
        have hc0' : (cells.map V.int)[ix]? = some (.int c0) := by rw [List.getElem?_map, hc0]; rfl
        refine ⟨_, rfl, _, rfl, _, rfl, cl, _, rfl, .inl (SqL.of hc2), _, _, rfl, rfl, (by show (0 : Int) < ((cells.map V.int).length : Int); rw [List.length_map]; omega), cl, _, _, _, rfl, rfl, SqL.of hc2, (by rw [eix]; exact atI_nat hc0'), ?_⟩
        refine ⟨_, rfl, _, _, rfl, rfl, ⟨by decide, by decide, by decide⟩, _, _, rfl, rfl, _, rfl, ?_⟩
        refine ite2 (fun c1 => ?_) (fun c1 => ?_)
        · refine ⟨_, rfl, _, rfl, cl, _, rfl, .inl (SqL.of hc2), _, _, rfl, rfl, _, rfl, ?_⟩
          refine ite2 (fun c2 => ?_) (fun c2 => ?_)
          · have e_ := mod_nat (a := c0) hm0
            refine ⟨_, rfl, _, rfl, _, _, rfl, rfl, hm30, _, rfl, tp, _, 2, 2, rfl, rfl, htp2, rfl, ?_⟩
            refine ⟨_, rfl, _, rfl, _, _, rfl, rfl, hm30.1, ?_⟩
            exact pick_end (Q := Q) hm0 fun r hrm => k r _ hrm (((kA.put (.inl List.mem_cons_self)).trans (Kept.of g0)).put (.inl List.mem_cons_self)) ⟨(at_ + 1), turn + 1, c0 / (m : Int), cells, by rw [upd_same]; rfl, by rw [upd_ne h3]; exact hc2, h3, by omega, by omega, h6⟩
          · skip
            refine ⟨_, rfl, _, _, rfl, rfl, (by show (0 : Int) < 2147483549; decide), _, rfl, _, _, rfl, rfl, _, _, rfl, rfl, .inl ⟨by decide, by decide⟩, _, _, rfl, rfl, _, _, rfl, rfl, ⟨by decide, by decide, by omega⟩, _, _, rfl, rfl, (by show (0 : Int) < 2147483629; decide), ?_⟩
            refine ⟨_, rfl, _, rfl, _, _, rfl, rfl, .inl ⟨by decide, by decide⟩, _, _, rfl, rfl, _, _, rfl, rfl, _, _, rfl, rfl, ⟨by decide, by decide, by omega⟩, _, _, rfl, rfl, (by show (0 : Int) < 2147483647; decide), ?_⟩
            refine ⟨_, rfl, _, rfl, _, _, rfl, rfl, (by show (0 : Int) < 999983; decide), _, _, rfl, rfl, .inl ⟨by omega, by omega⟩, _, _, rfl, rfl, _, rfl, _, _, rfl, rfl, _, _, rfl, rfl, ⟨by decide, by decide, by omega⟩, _, _, rfl, rfl, (by show (0 : Int) < 2147483549; decide), ?_⟩
            refine ⟨_, rfl, _, _, rfl, rfl, ⟨by decide, by decide⟩, _, rfl, _, _, rfl, rfl, hm30.1, ?_⟩
            exact pick_end (Q := Q) hm0 fun r hrm => k r _ hrm ((kA.put (.inl List.mem_cons_self)).trans (Kept.of g0)) ⟨at_ + 1, turn + 1, rest, cells, htp2, hc2, h3, by omega, by omega, h6⟩
        · skip
          refine ⟨_, rfl, _, _, rfl, rfl, (by show (0 : Int) < 2147483549; decide), _, rfl, _, _, rfl, rfl, _, _, rfl, rfl, .inl ⟨by decide, by decide⟩, _, _, rfl, rfl, _, _, rfl, rfl, ⟨by decide, by decide, by omega⟩, _, _, rfl, rfl, (by show (0 : Int) < 2147483629; decide), ?_⟩
          refine ⟨_, rfl, _, rfl, _, _, rfl, rfl, .inl ⟨by decide, by decide⟩, _, _, rfl, rfl, _, _, rfl, rfl, _, _, rfl, rfl, ⟨by decide, by decide, by omega⟩, _, _, rfl, rfl, (by show (0 : Int) < 2147483647; decide), ?_⟩
          refine ⟨_, rfl, _, rfl, _, _, rfl, rfl, (by show (0 : Int) < 999983; decide), _, _, rfl, rfl, .inl ⟨by omega, by omega⟩, _, _, rfl, rfl, _, rfl, _, _, rfl, rfl, _, _, rfl, rfl, ⟨by decide, by decide, by omega⟩, _, _, rfl, rfl, (by show (0 : Int) < 2147483549; decide), ?_⟩
          refine ⟨_, rfl, _, _, rfl, rfl, ⟨by decide, by decide⟩, _, rfl, _, _, rfl, rfl, hm30.1, ?_⟩
          exact pick_end (Q := Q) hm0 fun r hrm => k r _ hrm ((kA.put (.inl List.mem_cons_self)).trans (Kept.of g0)) ⟨at_ + 1, turn + 1, rest, cells, htp2, hc2, h3, by omega, by omega, h6⟩
end
end K70

end
section
set_option maxRecDepth 100000
set_option maxHeartbeats 4000000
/-! _law_words, _law_rows. -/
namespace K70
open PySem PySem.Spec PyProof.Rows L2 K70M
theorem k1at {tp a : Addr} {H H' : Hp} {o : HO} (k : Kept [tp] H H') (h : H a = some o) (n : a ≠ tp) : H' a = some o := k a o h fun z => n (List.mem_singleton.mp z)
theorem tap_tup {H : Hp} {tp cl a : Addr} {n : Nat} {xs : List V} (t : TapAt H tp cl n) (h : H a = some (.tup xs)) : a ≠ tp := by
  obtain ⟨_, _, _, _, h1, _⟩ := t
  exact ne_of h h1 (by intro z; cases z)
theorem tap_strs {H : Hp} {tp cl a : Addr} {n : Nat} {ss : List Str} (t : TapAt H tp cl n) (h : H a = some (.lst (ss.map V.str))) : a ≠ tp := by
  obtain ⟨_, _, _, _, h1, _⟩ := t
  rintro rfl
  rw [h1] at h
  cases ss with
  | nil => cases h
  | cons s r => cases h
/-- the words: forms, shades -/
def WordsAt (H : Hp) (wd : Addr) (fs ss : List Str) : Prop := ∃ fl sl, H wd = some (.tup [.ref fl, .ref sl]) ∧ H fl = some (.lst (fs.map V.str)) ∧ H sl = some (.lst (ss.map V.str))
structure WordsOk (fs ss : List Str) : Prop where
  f0 : 0 < fs.length
  f1 : fs.length ≤ 8
  s0 : 0 < ss.length
  s1 : ss.length ≤ 8
  fo : ∀ s ∈ fs, PyData.strOk s = true
  so : ∀ s ∈ ss, PyData.strOk s = true
theorem WordsAt.mono {H H' : Hp} {wd : Addr} {fs ss : List Str} (s : Same H H') (h : WordsAt H wd fs ss) : WordsAt H' wd fs ss := by
  obtain ⟨fl, sl, h1, h2, h3⟩ := h
  exact ⟨fl, sl, s _ _ h1, s _ _ h2, s _ _ h3⟩
theorem WordsAt.kept {H H' : Hp} {tp cl wd : Addr} {n : Nat} {fs ss : List Str} (t : TapAt H tp cl n) (k : Kept [tp] H H') (h : WordsAt H wd fs ss) : WordsAt H' wd fs ss := by
  obtain ⟨fl, sl, h1, h2, h3⟩ := h
  exact ⟨fl, sl, k1at k h1 (tap_tup t h1), k1at k h2 (tap_strs t h2), k1at k h3 (tap_strs t h3)⟩
def spWords : Sp := fun vs H Q _ => ∃ (tp cl : Addr) (n : Nat), vs = [.ref tp] ∧ n ≤ 900000 ∧ TapAt H tp cl n ∧ ∀ (wd : Addr) (fs ss : List Str) (H' : Hp), Kept [tp] H H' → TapAt H' tp cl (n + 20) → WordsAt H' wd fs ss → WordsOk fs ss → Q (.ref wd) H'
def RowOk (r : Row) : Prop := PyData.strOk r.1.1 = true ∧ PyData.strOk r.1.2 = true
theorem RowAt.kept {H H' : Hp} {tp cl a : Addr} {n : Nat} {r : Row} (t : TapAt H tp cl n) (k : Kept [tp] H H') (h : RowAt H a r) : RowAt H' a r := k1at k h (tap_tup t h)
theorem RowsAt.kept {H H' : Hp} {tp cl a : Addr} {n : Nat} {rs : List Row} (t : TapAt H tp cl n) (k : Kept [tp] H H') (h : RowsAt H a rs) : RowsAt H' a rs := by
  obtain ⟨as, h1, h2⟩ := h
  exact ⟨as, k1at k h1 (tap_tup t h1), Paired_mono (fun a r hr => RowAt.kept t k hr) h2⟩
def spRows : Sp := fun vs H Q _ => ∃ (tp cl wd : Addr) (many most n : Nat) (fs ss : List Str), vs = [.ref tp, .ref wd, .int (many : Int), .int (most : Int)] ∧ n ≤ 900000 ∧ TapAt H tp cl n ∧ WordsAt H wd fs ss ∧ WordsOk fs ss ∧ many ≤ 10 ∧ 0 < most ∧ most ≤ 100 ∧
  ∀ (t : Addr) (rows : List Row) (H' : Hp), Kept [tp] H H' → TapAt H' tp cl (n + 3 * many) → RowsAt H' t rows → rows.length = many → (∀ r ∈ rows, 1 ≤ r.2 ∧ r.2 ≤ (most : Int) ∧ RowOk r) → Q (.ref t) H'
theorem perm_ok {ys ss : List Str} (h : ys.Perm ss) (o : ∀ s ∈ ss, PyData.strOk s = true) : ∀ s ∈ ys, PyData.strOk s = true := fun s hs => o s (h.mem_iff.mp hs)
/-- pops by picks: what is left, what is made -/
theorem erase_strs : ∀ {ss : List Str} {k : Nat}, (ss.map V.str).eraseIdx k = (ss.eraseIdx k).map V.str
  | [], _ => rfl
  | _ :: _, 0 => rfl
  | s :: r, k + 1 => by
    show V.str s :: (r.map V.str).eraseIdx k = V.str s :: (r.eraseIdx k).map V.str
    rw [erase_strs]
section
variable {P : Program} {w : World} {K : PySem.W.Frag} {mg : Str → Option Value} {base : Heap}
theorem ok_words {f : Addr} {fd : FuncData} (F : Fun K "_law_words" "_law_words" s_Lwords f fd) (B : BT mg) (pi : Cl P w K mg base CX0 1 "_law_pick" ["_law_tap_here", "_law_many"] [] spPick) : FnOk P w K mg base CX0 2 f fd ["_law_tap_here"] spWords := by
  refine F.ok sc_Lwords (fun vs H Q E h => ?_) (fun cdv A outer s H vs Q E hr h => ?_)
  · obtain ⟨_, _, _, rfl, _⟩ := h
    rfl
  · obtain ⟨tp, cl, n, rfl, hn, hT, kk⟩ := h
    have nd := sc_Lwords.nd
    refine ⟨_, pss_cons (ps_asg (pe_tup (pa_cons (pe_lst (pa_cons pe_str (pa_cons pe_str (pa_cons pe_str (pa_cons pe_str pa_nil))))) (pa_cons (pe_lst (pa_cons pe_str (pa_cons pe_str (pa_cons pe_str (pa_cons pe_str (pa_cons pe_str pa_nil)))))) pa_nil))) (pg_tup rfl (pgs_cons (pg_name (i := 1) nd rfl (Or.inr rfl)) (pgs_cons (pg_name (i := 2) nd rfl (Or.inr rfl)) pgs_nil))))
      (pss_cons (ps_setLc (i := 3) (own := [("_law_k", 5)]) (g := gName 5) (tt := tYes) rfl nd rfl rfl (sw_true rfl rfl rfl (by decide +kernel)) (pi_range1 rfl B.range (pa_cons (pe_op op_add pe_int (pe_k pi hr rfl pass0 (pa_cons (pv 0) (pa_cons pe_int pa_nil)))) pa_nil))
          (blkOk_by (N := ["_law_tap_here", "_law_forms", "_law_shades", "_law_some_here", "_law_many", "_law_k"]) (sc := defScope s_Lwords) (by decide +kernel))
          (fun _ _ _ _ _ => pg_name (i := 5) nd rfl (Or.inl rfl)) (fun _ _ _ _ _ => pts_nil)
          (te := tBM K "list" rPopAt (tVar 1) (tCons (tCall spPick [] E0 (tCons (tVar 0) (tCons (tCB (fun xs H Q => ∃ p ys, xs = [.ref p] ∧ (SqL K H p ys ∨ SqT K H p ys) ∧ Q (.int ys.length) H) (tCons (tVar 1) tNil)) tNil))) tNil))
          (fun _ _ _ _ _ => pe_bm PySem.F.plainAttrs_list PySem.F.slot_list_pop PySem.F.type_list_pop mt_popAt (pv 1) (pa_cons (pe_k pi hr rfl pass0 (pa_cons (pv 0) (pa_cons (pe_callB call_len_seq (by rfl) B.len PySem.boot_len (pa_cons (pv 1) pa_nil)) pa_nil))) pa_nil)))
      (pss_cons (ps_set (i := 4) nd rfl (Or.inl rfl) (pe_op op_add pe_int (pe_k pi hr rfl pass0 (pa_cons (pv 0) (pa_cons pe_int pa_nil)))))
      (pss_one (ps_ret (pe_tup (pa_cons (pe_callB cr_sortedS (by rfl) B.sorted (by decide +kernel) (pa_cons (pv 3) pa_nil)) (pa_cons (pe_callB cr_sortedS (by rfl) B.sorted (by decide +kernel) (pa_cons
          (pe_lc (own := [("_law_k", 5)]) (g := gName 5) (tt := tYes) rfl nd (pi_range1 rfl B.range (pa_cons (pv 4) pa_nil))
            (blkOk_by (N := ["_law_tap_here", "_law_forms", "_law_shades", "_law_some_here", "_law_many", "_law_k"]) (sc := defScope s_Lwords) (by decide +kernel))
            (fun _ _ _ _ _ => pg_name (i := 5) nd rfl (Or.inl rfl)) (fun _ _ _ _ _ => pts_nil)
            (te := tBM K "list" rPopAt (tVar 2) (tCons (tCall spPick [] E0 (tCons (tVar 0) (tCons (tCB (fun xs H Q => ∃ p ys, xs = [.ref p] ∧ (SqL K H p ys ∨ SqT K H p ys) ∧ Q (.int ys.length) H) (tCons (tVar 2) tNil)) tNil))) tNil))
            (fun _ _ _ _ _ => pe_bm PySem.F.plainAttrs_list PySem.F.slot_list_pop PySem.F.type_list_pop mt_popAt (pv 2) (pa_cons (pe_k pi hr rfl pass0 (pa_cons (pv 0) (pa_cons (pe_callB call_len_seq (by rfl) B.len PySem.boot_len (pa_cons (pv 2) pa_nil)) pa_nil))) pa_nil))) pa_nil)) pa_nil))))))), ?_⟩
    refine ⟨(by show 4 ≤ sizeLine; decide), fun fo hfo => ?_⟩
    have s1 := same_new (o := .lst ([Str.ofString "brick", Str.ofString "br", Str.ofString "plate", Str.ofString "x"].map V.str)) hfo
    refine ⟨(by show 5 ≤ sizeLine; decide), fun so hso => ?_⟩
    have s2 := same_new (o := .lst ([Str.ofString "red", Str.ofString "re", Str.ofString "blue", Str.ofString "z", Str.ofString "zz"].map V.str)) hso
    have hsoH : H so = none := s1.free hso
    refine ⟨(by show 2 ≤ sizeLine; decide), fun t ht => ?_⟩
    have s3 := same_new (o := .tup [.ref fo, .ref so]) ht
    have nfs : fo ≠ so := ne_of_none upd_same hso
    refine ⟨t, _, rfl, SqT.of upd_same, rfl, _, _, rfl, _, _, rfl, rfl, ?_⟩
    have sA := (s1.trans s2).trans s3
    have TA := hT.mono sA
    have nfo := hT.new (H' := H) hfo
    have nso := hT.new (H' := H) hsoH
    have hfoA := s3 _ _ (s2 _ _ (upd_same (H := H) (a := fo) (o := .lst ([Str.ofString "brick", Str.ofString "br", Str.ofString "plate", Str.ofString "x"].map V.str))))
    have hsoA := s3 _ _ (upd_same (a := so) (H := upd H fo (.lst ([Str.ofString "brick", Str.ofString "br", Str.ofString "plate", Str.ofString "x"].map V.str))) (o := .lst ([Str.ofString "red", Str.ofString "re", Str.ofString "blue", Str.ofString "z", Str.ofString "zz"].map V.str)))
    refine ⟨_, rfl, tp, cl, 2, n, rfl, by decide, by decide, by omega, TA, fun r1 H2 hr1 k2 T2 => ?_⟩
    refine ⟨_, _, rfl, rfl, _, rfl, by omega, by omega, fun D hD => ?_⟩
    have hfo2 := k1at k2 hfoA nfo.1
    have hso2 := k1at k2 hsoA nso.1
    have kH2 := (Kept.of sA).trans k2
    have hDH : H D = none := by
      cases q : H D with
      | none => rfl
      | some o =>
        by_cases z : D = tp
        · obtain ⟨_, _, _, _, g1, _⟩ := T2
          rw [z, g1] at hD
          cases hD
        · rw [kH2 D o q fun y => z (List.mem_singleton.mp y)] at hD
          cases hD
    have nD := hT.new (H' := H) hDH
    have nDfo : D ≠ fo := (ne_of_none hfo2 hD).symm
    have nDso : D ≠ so := (ne_of_none hso2 hD).symm
    refine lc_range (lo := 0) (fun i H3 => ∃ (fs' rs : List Str), Kept [tp] H H3 ∧ TapAt H3 tp cl (n + 1 + i) ∧ H3 fo = some (.lst (fs'.map V.str)) ∧ fs'.length = 4 - i ∧ H3 D = some (.lst (rs.map V.str)) ∧ rs.length = i ∧ (∀ s ∈ fs', PyData.strOk s = true) ∧ (∀ s ∈ rs, PyData.strOk s = true) ∧ H3 so = some (.lst ([Str.ofString "red", Str.ofString "re", Str.ofString "blue", Str.ofString "z", Str.ofString "zz"].map V.str)))
      ⟨_, [], kH2.put (.inr hDH), T2.put nD.1 nD.2, by rw [upd_ne nDfo.symm]; exact hfo2, rfl, upd_same, rfl, by decide +kernel, (fun s hs => by cases hs), by rw [upd_ne nDso.symm]; exact hso2⟩ ?_ ?_
    · rintro i H3 hi ⟨fs', rs, k3, T3, hfo3, hfl, hD3, hrl, hfok, hrok, hso3⟩
      have hib : i < 3 := by omega
      refine ⟨rfl, _, rfl, .inl ⟨rfl, _, SqL.of hfo3⟩, _, rfl, _, rfl, fo, _, rfl, .inl (SqL.of hfo3), tp, cl, (fs'.map V.str).length, n + 1 + i, rfl, by rw [List.length_map]; omega, by rw [List.length_map]; omega, by omega, T3, fun r3 H4 hr3 k4 T4 => ?_⟩
      have hfo4 := k1at k4 hfo3 nfo.1
      rw [List.length_map] at hr3
      refine ⟨fo, _, (r3 : Int), r3, .str fs'[r3], rfl, rfl, hfo4, by omega, by omega, (ixN_seq (ixN_nat (by rw [List.length_map]; exact hr3))).1, by rw [List.getElem?_map, List.getElem?_eq_getElem hr3]; rfl, ?_⟩
      rw [erase_strs]
      have hD4 := k1at k4 hD3 nD.1
      have nDf : D ≠ fo := nDfo
      refine ⟨rs.map V.str, by rw [upd_ne nDf]; exact hD4, by rw [List.length_map, sizeLine_eq]; omega, fs'.eraseIdx r3, rs ++ [fs'[r3]], ((k3.trans k4).put (.inr hfo)).put (.inr hDH), (T4.put nfo.1 nfo.2).put nD.1 nD.2, by rw [upd_ne nDf.symm, upd_same], by rw [List.length_eraseIdx, if_pos hr3]; omega, by rw [upd_same, List.map_append]; rfl, by rw [List.length_append]; show rs.length + 1 = i + 1; omega, fun s hs => hfok s (List.mem_of_mem_eraseIdx hs), fun s hs => ?_, by rw [upd_ne nDso.symm, upd_ne nfs.symm]; exact k1at k4 hso3 nso.1⟩
      rcases List.mem_append.mp hs with z | z
      · exact hrok s z
      · rw [List.mem_singleton.mp z]; exact hfok _ (List.getElem_mem hr3)
    · rintro H3 ⟨fs', rs, k3, T3, hfo3, hfl, hD3, hrl, hfok, hrok, hso3⟩
      -- many
      refine ⟨_, rfl, tp, cl, 2, n + 1 + (2 + (r1 : Int)).toNat, rfl, by decide, by decide, by omega, T3, fun r2 H4 hr2 k4 T4 => ?_⟩
      have hD4 := k1at k4 hD3 nD.1
      have hso4 := k1at k4 hso3 nso.1
      have k34 := k3.trans k4
      refine ⟨_, _, rfl, rfl, _, rfl, D, rs, rfl, SqL.of hD4, by omega, fun ys l1 hperm _ hl1 => ?_⟩
      have s5 := same_new (o := .lst (ys.map V.str)) hl1
      have k35 := k34.trans (Kept.of s5)
      have T5 := T4.mono s5
      have hl1H : H l1 = none := by
        cases q : H l1 with
        | none => rfl
        | some o =>
          by_cases z : l1 = tp
          · obtain ⟨_, _, _, _, g1, _⟩ := T4
            rw [z, g1] at hl1
            cases hl1
          · rw [k34 l1 o q fun y => z (List.mem_singleton.mp y)] at hl1
            cases hl1
      have nl1 := hT.new (H' := H) hl1H
      have nl1so : l1 ≠ so := (ne_of_none hso4 hl1).symm
      have hl15 : (upd H4 l1 (.lst (ys.map V.str))) l1 = some (.lst (ys.map V.str)) := upd_same
      have hso5 := s5 _ _ hso4
      refine ⟨_, rfl, _, rfl, by omega, by omega, fun D2 hD2 => ?_⟩
      have hD2H : H D2 = none := by
        cases q : H D2 with
        | none => rfl
        | some o =>
          by_cases z : D2 = tp
          · obtain ⟨_, _, _, _, g1, _⟩ := T5
            rw [z, g1] at hD2
            cases hD2
          · rw [k35 D2 o q fun y => z (List.mem_singleton.mp y)] at hD2
            cases hD2
      have nD2 := hT.new (H' := H) hD2H
      have nD2so : D2 ≠ so := (ne_of_none hso5 hD2).symm
      have nD2l1 : D2 ≠ l1 := (ne_of_none hl15 hD2).symm
      refine lc_range (lo := 0) (fun i H3 => ∃ (fs' rs : List Str), Kept [tp] H H3 ∧ TapAt H3 tp cl (n + 10 + i) ∧ H3 so = some (.lst (fs'.map V.str)) ∧ fs'.length = 5 - i ∧ H3 D2 = some (.lst (rs.map V.str)) ∧ rs.length = i ∧ (∀ s ∈ fs', PyData.strOk s = true) ∧ (∀ s ∈ rs, PyData.strOk s = true) ∧ H3 l1 = some (.lst (ys.map V.str)))
        ⟨_, [], k35.put (.inr hD2H), ((T5.le (by omega)).put nD2.1 nD2.2), by rw [upd_ne nD2so.symm]; exact hso5, rfl, upd_same, rfl, by decide +kernel, (fun s hs => by cases hs), by rw [upd_ne nD2l1.symm]; exact hl15⟩ ?_ ?_
      · rintro i H3 hi ⟨fs', rs, k3, T3, hfo3, hfl, hD3, hrl, hfok, hrok, hl13⟩
        have hib : i < 4 := by omega
        refine ⟨rfl, _, rfl, .inl ⟨rfl, _, SqL.of hfo3⟩, _, rfl, _, rfl, so, _, rfl, .inl (SqL.of hfo3), tp, cl, (fs'.map V.str).length, n + 10 + i, rfl, by rw [List.length_map]; omega, by rw [List.length_map]; omega, by omega, T3, fun r3 H4 hr3 k4 T4 => ?_⟩
        have hfo4 := k1at k4 hfo3 nso.1
        rw [List.length_map] at hr3
        refine ⟨so, _, (r3 : Int), r3, .str fs'[r3], rfl, rfl, hfo4, by omega, by omega, (ixN_seq (ixN_nat (by rw [List.length_map]; exact hr3))).1, by rw [List.getElem?_map, List.getElem?_eq_getElem hr3]; rfl, ?_⟩
        rw [erase_strs]
        have hD4 := k1at k4 hD3 nD2.1
        have nDf : D2 ≠ so := nD2so
        refine ⟨rs.map V.str, by rw [upd_ne nDf]; exact hD4, by rw [List.length_map, sizeLine_eq]; omega, fs'.eraseIdx r3, rs ++ [fs'[r3]], ((k3.trans k4).put (.inr hsoH)).put (.inr hD2H), (T4.put nso.1 nso.2).put nD2.1 nD2.2, by rw [upd_ne nDf.symm, upd_same], by rw [List.length_eraseIdx, if_pos hr3]; omega, by rw [upd_same, List.map_append]; rfl, by rw [List.length_append]; show rs.length + 1 = i + 1; omega, fun s hs => hfok s (List.mem_of_mem_eraseIdx hs), fun s hs => ?_, by rw [upd_ne nD2l1.symm, upd_ne nl1so]; exact k1at k4 hl13 nl1.1⟩
        rcases List.mem_append.mp hs with z | z
        · exact hrok s z
        · rw [List.mem_singleton.mp z]; exact hfok _ (List.getElem_mem hr3)
      · rintro H6 ⟨fs2, rs2, k6, T6, hso6, hfl2, hD6, hrl2, hfok2, hrok2, hl16⟩
        refine ⟨D2, rs2, rfl, SqL.of hD6, by omega, fun ys2 l2 hperm2 _ hl2 => ?_⟩
        have s7 := same_new (o := .lst (ys2.map V.str)) hl2
        refine ⟨(by show 2 ≤ sizeLine; decide), fun wd hwd => ?_⟩
        have s8 := same_new (o := .tup [.ref l1, .ref l2]) hwd
        have s78 := s7.trans s8
        have e1 := hperm.length_eq
        have e2 := hperm2.length_eq
        exact kk wd ys ys2 _ (k6.trans (Kept.of s78)) ((T6.mono s78).le (by omega)) ⟨l1, l2, upd_same, s78 _ _ hl16, s8 _ _ upd_same⟩ ⟨by omega, by omega, by omega, by omega, perm_ok hperm hrok, perm_ok hperm2 hrok2⟩
end
end K70

end
section
set_option maxRecDepth 100000
set_option maxHeartbeats 4000000
/-! _law_rows, _law_some, _law_wants, _law_sheet. -/
namespace K70
open PySem PySem.Spec PyProof.Rows L2 K70M
theorem kfree {H H' : Hp} {tp cl D : Addr} {n : Nat} (k : Kept [tp] H H') (t : TapAt H' tp cl n) (h : H' D = none) : H D = none := by
  cases q : H D with
  | none => rfl
  | some o =>
    by_cases z : D = tp
    · obtain ⟨_, _, _, _, g1, _⟩ := t
      rw [z, g1] at h
      cases h
    · rw [k D o q fun y => z (List.mem_singleton.mp y)] at h
      cases h
/-- a tuple of strings and ints at hand stays, a list made here aside -/
theorem lst_tup {H : Hp} {D a : Addr} {o : HO} {xs ys : List V} (hD : H D = some (.lst xs)) (h : H a = some (.tup ys)) : upd H D o a = some (.tup ys) := by
  rw [upd_ne (ne_of h hD (by intro z; cases z))]
  exact h
theorem WantAt.kept {H H' : Hp} {tp cl a : Addr} {n : Nat} {r : Want} (t : TapAt H tp cl n) (k : Kept [tp] H H') (h : WantAt H a r) : WantAt H' a r := by
  obtain ⟨ta, h1, h2, h3⟩ := h
  exact ⟨ta, k1at k h1 (tap_tup t h1), k1at k h2 (tap_tup t h2), h3⟩
theorem WantsAt.kept {H H' : Hp} {tp cl a : Addr} {n : Nat} {rs : List Want} (t : TapAt H tp cl n) (k : Kept [tp] H H') (h : WantsAt H a rs) : WantsAt H' a rs := by
  obtain ⟨as, h1, h2⟩ := h
  exact ⟨as, k1at k h1 (tap_tup t h1), Paired_mono (fun a r hr => WantAt.kept t k hr) h2⟩
theorem WantAt.keep {H : Hp} {D a : Addr} {o : HO} {xs : List V} {r : Want} (hD : H D = some (.lst xs)) (h : WantAt H a r) : WantAt (upd H D o) a r := by
  obtain ⟨ta, h1, h2, h3⟩ := h
  exact ⟨ta, lst_tup hD h1, lst_tup hD h2, h3⟩
theorem WantsAt.keep {H : Hp} {D a : Addr} {o : HO} {xs : List V} {rs : List Want} (hD : H D = some (.lst xs)) (h : WantsAt H a rs) : WantsAt (upd H D o) a rs := by
  obtain ⟨as, h1, h2⟩ := h
  exact ⟨as, lst_tup hD h1, Paired_mono (fun a r hr => WantAt.keep hD hr) h2⟩
def spSome : Sp := fun vs H Q _ => ∃ (tp cl sl : Addr) (n : Nat) (ss : List Str), vs = [.ref tp, .ref sl] ∧ n ≤ 900000 ∧ TapAt H tp cl n ∧ H sl = some (.lst (ss.map V.str)) ∧ 0 < ss.length ∧ ss.length ≤ 8 ∧ (∀ s ∈ ss, PyData.strOk s = true) ∧
  ∀ (t : Addr) (ts : List Str) (H' : Hp), Kept [tp] H H' → TapAt H' tp cl (n + 10) → H' t = some (.tup (ts.map V.str)) → ts.length ≤ 8 → (∀ s ∈ ts, PyData.strOk s = true) → Q (.ref t) H'
def WantGen (most : Nat) (w : Want) : Prop := w.2.1.length ≤ 8 ∧ 1 ≤ w.2.2 ∧ w.2.2 ≤ (most : Int)
def spGenWants : Sp := fun vs H Q _ => ∃ (tp cl wd : Addr) (many most n : Nat) (fs ss : List Str), vs = [.ref tp, .ref wd, .int (many : Int), .int (most : Int)] ∧ n ≤ 800000 ∧ TapAt H tp cl n ∧ WordsAt H wd fs ss ∧ WordsOk fs ss ∧ many ≤ 10 ∧ 0 < most ∧ most ≤ 100 ∧
  ∀ (t : Addr) (ws : List Want) (H' : Hp), Kept [tp] H H' → TapAt H' tp cl (n + 12 * many) → WantsAt H' t ws → ws.length = many → (∀ w ∈ ws, WantGen most w) → Q (.ref t) H'
def spSheet : Sp := fun vs H Q _ => ∃ (tp cl wa : Addr) (n : Nat) (ws : List Want), vs = [.ref tp, .ref wa] ∧ n ≤ 900000 ∧ TapAt H tp cl n ∧ WantsAt H wa ws ∧ ws.length ≤ 10 ∧
  ∀ (t : Addr) (wss : List (List Want)) (H' : Hp), Kept [tp] H H' → TapAt H' tp cl (n + ws.length) → TupOf SRowAt H' t wss → wss.flatten = ws → Q (.ref t) H'
section
variable {P : Program} {w : World} {K : PySem.W.Frag} {mg : Str → Option Value} {base : Heap}
theorem ok_rows {f : Addr} {fd : FuncData} (F : Fun K "_law_rows" "_law_rows" s_Lrows f fd) (B : BT mg) (pi : Cl P w K mg base CX0 1 "_law_pick" ["_law_tap_here", "_law_many"] [] spPick) : FnOk P w K mg base CX0 2 f fd ["_law_tap_here", "_law_words_here", "_law_many", "_law_most_now"] spRows := by
  refine F.ok sc_Lrows (fun vs H Q E h => ?_) (fun cdv A outer s H vs Q E hr h => ?_)
  · obtain ⟨_, _, _, _, _, _, _, _, rfl, _⟩ := h
    rfl
  · obtain ⟨tp, cl, wd, many, most, n, fs, ss, rfl, hn, hT, hW, hok, hmany, hm0, hm1, kk⟩ := h
    have nd := sc_Lrows.nd
    refine ⟨_, pss_cons (ps_asg (pv 1) (pg_tup rfl (pgs_cons (pg_name (i := 4) nd rfl (Or.inl rfl)) (pgs_cons (pg_name (i := 5) nd rfl (Or.inl rfl)) pgs_nil))))
      (pss_cons (ps_set (i := 6) nd rfl (Or.inl rfl) (pe_lst pa_nil))
      (pss_cons (ps_for PassesOwn.never rfl (pi_range1 rfl B.range (pa_cons (pv 2) pa_nil)) (pg_name (i := 7) nd rfl (Or.inl rfl))
        (pss_cons (ps_set (i := 8) nd rfl (Or.inl rfl) (pe_tup (pa_cons (pe_ix ix_list (pv 4) (pe_k pi hr rfl pass0 (pa_cons (pv 0) (pa_cons (pe_callB call_len_seq (by rfl) B.len PySem.boot_len (pa_cons (pv 4) pa_nil)) pa_nil))) (fun _ _ => rfl)) (pa_cons (pe_ix ix_list (pv 5) (pe_k pi hr rfl pass0 (pa_cons (pv 0) (pa_cons (pe_callB call_len_seq (by rfl) B.len PySem.boot_len (pa_cons (pv 5) pa_nil)) pa_nil))) (fun _ _ => rfl)) pa_nil))))
        (pss_one (ps_expr (pe_bm PySem.F.plainAttrs_list PySem.F.slot_list_append PySem.F.type_list_append mt_append (pv 6) (pa_cons (pe_op op_catA (pv 8) (pe_tup (pa_cons (pe_op op_add pe_int (pe_k pi hr rfl pass0 (pa_cons (pv 0) (pa_cons (pv 3) pa_nil)))) pa_nil))) pa_nil))))))
      (pss_one (ps_ret (pe_callTy call_tuple_of (by rfl) B.tuple (by decide +kernel) (pa_cons (pv 6) pa_nil)))))), ?_⟩
    obtain ⟨fl, sl, hw1, hw2, hw3⟩ := id hW
    have nfl := tap_strs hT hw2
    have nsl := tap_strs hT hw3
    refine ⟨_, rfl, wd, _, rfl, SqT.of hw1, rfl, _, _, rfl, _, _, rfl, rfl, ?_⟩
    refine ⟨(by show 0 ≤ sizeLine; decide), fun fo hfo => ?_⟩
    have s1 := same_new (o := .lst []) hfo
    have nfo := hT.new (H' := H) hfo
    refine ⟨_, rfl, (many : Int), rfl, by omega, by omega, ?_⟩
    refine for_range (lo := 0) (n := many) (fun i σ H2 => ∃ (as : List Addr) (rows : List Row) (a b : Option V), σ = [some (.ref tp), some (.ref wd), some (.int (many : Int)), some (.int (most : Int)), some (.ref fl), some (.ref sl), some (.ref fo), a, b] ∧ Kept [tp] H H2 ∧ TapAt H2 tp cl (n + 3 * i) ∧ H2 fo = some (.lst (as.map V.ref)) ∧ Paired (RowAt H2) as rows ∧ rows.length = i ∧ ∀ r ∈ rows, 1 ≤ r.2 ∧ r.2 ≤ (most : Int) ∧ RowOk r)
      ⟨[], [], none, none, rfl, Kept.of s1, hT.mono s1, upd_same, .nil, rfl, (fun r hr => by cases hr)⟩ ?_ ?_
    · rintro i σ H2 hi ⟨as, rows, a, b, rfl, k2, T2, hf2, hP2, hl2, hr2⟩
      have hfl2 := k1at k2 hw2 nfl
      refine ⟨_, rfl, _, rfl, _, rfl, fl, _, rfl, .inl (SqL.of hfl2), tp, cl, (fs.map V.str).length, n + 3 * i, rfl, by rw [List.length_map]; exact hok.f0, by rw [List.length_map]; have := hok.f1; omega, by omega, T2, fun r1 H3 hr1 k3 T3 => ?_⟩
      rw [List.length_map] at hr1
      have k23 := k2.trans k3
      refine ⟨fl, _, (r1 : Int), .str fs[r1], rfl, rfl, SqL.of (k1at k23 hw2 nfl), atI_nat (by rw [List.getElem?_map, List.getElem?_eq_getElem hr1]; rfl), ?_⟩
      refine ⟨_, rfl, _, rfl, _, rfl, sl, _, rfl, .inl (SqL.of (k1at k23 hw3 nsl)), tp, cl, (ss.map V.str).length, n + 3 * i + 1, rfl, by rw [List.length_map]; exact hok.s0, by rw [List.length_map]; have := hok.s1; omega, by omega, T3, fun r2 H4 hr2' k4 T4 => ?_⟩
      rw [List.length_map] at hr2'
      have k24 := k23.trans k4
      refine ⟨sl, _, (r2 : Int), .str ss[r2], rfl, rfl, SqL.of (k1at k24 hw3 nsl), atI_nat (by rw [List.getElem?_map, List.getElem?_eq_getElem hr2']; rfl), (by show 2 ≤ sizeLine; decide), fun p hp => ?_⟩
      have s5 := same_new (o := .tup [.str fs[r1], .str ss[r2]]) hp
      have k25 := k24.trans (Kept.of s5)
      have hf5 := s5 _ _ (k1at k4 (k1at k3 hf2 nfo.1) nfo.1)
      refine ⟨_, rfl, .inl ⟨rfl, _, SqL.of hf5⟩, _, rfl, _, rfl, _, rfl, tp, cl, most, n + 3 * i + 1 + 1, rfl, hm0, by omega, by omega, T4.mono s5, fun r3 H6 hr3 k6 T6 => ?_⟩
      refine ⟨_, _, rfl, rfl, (by show 1 ≤ sizeLine; decide), fun q hq => ?_⟩
      have s7 := same_new (o := .tup [.int (1 + (r3 : Int))]) hq
      have hpp : (upd H4 p (.tup [.str fs[r1], .str ss[r2]])) p = some (.tup [.str fs[r1], .str ss[r2]]) := upd_same
      have hp6 := k1at k6 hpp (tap_tup (T4.mono s5) hpp)
      refine cat_vs (s7 _ _ hp6) upd_same (by show 2 + 1 ≤ 1000000; decide) fun r H8 s8 hr8 => ?_
      have k28 := ((k25.trans k6).trans (Kept.of s7)).trans (Kept.of s8)
      have hf8 := s8 _ _ (s7 _ _ (k1at k6 hf5 nfo.1))
      have T8 := (T6.mono s7).mono s8
      refine ⟨fo, _, _, rfl, rfl, hf8, by rw [List.length_map, hP2.length, sizeLine_eq]; omega, ?_⟩
      refine ⟨as ++ [r], rows ++ [((fs[r1], ss[r2]), 1 + (r3 : Int))], _, _, rfl, k28.put (.inr hfo), (T8.le (by omega)).put nfo.1 nfo.2, by rw [upd_same, List.map_append]; rfl, ?_, by rw [List.length_append]; show rows.length + 1 = i + 1; omega, fun x hx => ?_⟩
      · refine Paired_snoc (Paired_mono (fun a x hx => ?_) hP2) (lst_tup hf8 hr8)
        have h1 : RowAt H4 a x := RowAt.kept T3 k4 (RowAt.kept T2 k3 hx)
        have h2 := RowAt.kept (T4.mono s5) k6 (RowAt.mono _ _ _ _ s5 h1)
        exact lst_tup hf8 (s8 _ _ (s7 _ _ h2))
      · rcases List.mem_append.mp hx with z | z
        · exact hr2 x z
        · rw [List.mem_singleton.mp z]
          exact ⟨by show 1 ≤ 1 + (r3 : Int); omega, by show 1 + (r3 : Int) ≤ _; omega, hok.fo _ (List.getElem_mem hr1), hok.so _ (List.getElem_mem hr2')⟩
    · rintro σ H2 ⟨as, rows, a, b, rfl, k2, T2, hf2, hP2, hl2, hr2⟩
      refine ⟨_, rfl, fo, _, rfl, .inl ⟨SqL.of hf2, fun t ht => ?_⟩⟩
      have s3 := same_new (o := .tup (as.map V.ref)) ht
      exact kk t rows _ (k2.trans (Kept.of s3)) (T2.mono s3) ⟨as, upd_same, Paired_mono (fun a x hx => RowAt.mono _ _ _ _ s3 hx) hP2⟩ hl2 hr2
theorem ok_some {f : Addr} {fd : FuncData} (F : Fun K "_law_some" "_law_some" s_Lsome f fd) (B : BT mg) (pi : Cl P w K mg base CX0 1 "_law_pick" ["_law_tap_here", "_law_many"] [] spPick) : FnOk P w K mg base CX0 2 f fd ["_law_tap_here", "_law_shades"] spSome := by
  refine F.ok sc_Lsome (fun vs H Q E h => ?_) (fun cdv A outer s H vs Q E hr h => ?_)
  · obtain ⟨_, _, _, _, _, rfl, _⟩ := h
    rfl
  · obtain ⟨tp, cl, sl, n, ss, rfl, hn, hT, hS, hs0, hs1, hso, kk⟩ := h
    have nd := sc_Lsome.nd
    refine ⟨_, pss_cons (ps_set (i := 2) nd rfl (Or.inr rfl) (pe_k pi hr rfl pass0 (pa_cons (pv 0) (pa_cons pe_int pa_nil))))
      (pss_cons (ps_if (pt_cmpR op_eq (pv 2) pe_int (nomark _)) (pss_one (ps_ret (pe_tup pa_nil))) pss_nil)
      (pss_cons (ps_set (i := 3) nd rfl (Or.inr rfl) (pe_lst (pa_cons (pe_ix ix_list (pv 1) (pe_k pi hr rfl pass0 (pa_cons (pv 0) (pa_cons (pe_callB call_len_seq (by rfl) B.len PySem.boot_len (pa_cons (pv 1) pa_nil)) pa_nil))) (fun _ _ => rfl)) pa_nil)))
      (pss_one (ps_ret (pe_callTy call_tuple_of (by rfl) B.tuple (by decide +kernel) (pa_cons
        (pe_lc (own := [("_law_shade", 4)]) (g := gName 4) rfl nd (pi_list (pv 1))
          (blkOk_by (N := ["_law_tap_here", "_law_shades", "_law_way", "_law_some_here", "_law_shade"]) (sc := defScope s_Lsome) (by decide +kernel))
          (fun _ _ _ _ _ => pg_name (i := 4) nd rfl (Or.inl rfl))
          (fun _ _ _ _ _ => pts_one (PW.pt (pw_or (pt_cmpR (op_inK K) (pv 4) (pv 3) rfl) (pw_or1 (PW.pt (pw_and (pt_cmpR op_gt (pv 2) pe_int (nomark _)) (pw_and1 (pt_cmpR op_eq (pe_k (E := E0) pi hr rfl pass0 (pa_cons (pv 0) (pa_cons pe_int pa_nil))) pe_int (nomark _)))))))))
          (fun _ _ _ _ _ => pv 4)) pa_nil)))))), ?_⟩
    have nsl := tap_strs hT hS
    refine ⟨_, rfl, tp, cl, 4, n, rfl, by decide, by decide, by omega, hT, fun way H1 hway k1 T1 => ?_⟩
    refine ⟨_, rfl, rfl, _, rfl, ?_⟩
    refine ite2 (fun _ => ?_) (fun _ => ?_)
    · refine ⟨(by show 0 ≤ sizeLine; decide), fun t ht => ?_⟩
      have s2 := same_new (o := .tup []) ht
      exact kk t [] _ (k1.trans (Kept.of s2)) ((T1.mono s2).le (by omega)) upd_same (Nat.zero_le _) (fun s hs => by cases hs)
    · refine ⟨_, rfl, _, rfl, _, rfl, sl, _, rfl, .inl (SqL.of (k1at k1 hS nsl)), tp, cl, (ss.map V.str).length, n + 1, rfl, by rw [List.length_map]; exact hs0, by rw [List.length_map]; omega, by omega, T1, fun r1 H2 hr1 k2 T2 => ?_⟩
      rw [List.length_map] at hr1
      have k12 := k1.trans k2
      refine ⟨sl, _, (r1 : Int), .str ss[r1], rfl, rfl, SqL.of (k1at k12 hS nsl), atI_nat (by rw [List.getElem?_map, List.getElem?_eq_getElem hr1]; rfl), (by show 1 ≤ sizeLine; decide), fun so hsoN => ?_⟩
      have s3 := same_new (o := .lst [.str ss[r1]]) hsoN
      have k13 := k12.trans (Kept.of s3)
      have T3 := T2.mono s3
      have nso := hT.new (H' := H) (kfree k12 T2 hsoN)
      have hso3 : (upd H2 so (.lst [.str ss[r1]])) so = some (.lst [.str ss[r1]]) := upd_same
      refine ⟨_, rfl, sl, rfl, ⟨_, SqL.of (k1at k13 hS nsl)⟩, fun D hD => ?_⟩
      have hDH := kfree k13 T3 hD
      have nD := hT.new (H' := H) hDH
      have nDs : so ≠ D := ne_of_none hso3 hD
      have nDl : sl ≠ D := ne_of_none hS hDH
      refine lc_list (K := K) (a := sl) (xs := ss.map V.str) (fun i H4 => ∃ ts : List Str, Kept [tp] H H4 ∧ TapAt H4 tp cl (n + 2 + i) ∧ H4 D = some (.lst (ts.map V.str)) ∧ ts.length ≤ i ∧ (∀ s ∈ ts, PyData.strOk s = true) ∧ H4 so = some (.lst [.str ss[r1]]))
        ⟨[], k13.put (.inr hDH), T3.put nD.1 nD.2, upd_same, Nat.le_refl _, (fun s hs => by cases hs), by rw [upd_ne nDs]; exact hso3⟩ (fun i H4 _ ⟨_, k4, _⟩ => SqL.of (k1at k4 hS nsl)) ?_ ?_
      · rintro i y H4 hi ⟨ts, k4, T4, hD4, htl, hto, hso4⟩
        rw [List.getElem?_map, Option.map_eq_some_iff] at hi
        obtain ⟨sh, hsh, rfl⟩ := hi
        have hil : i < ss.length := (List.getElem?_eq_some_iff.mp hsh).1
        have hshok := hso sh (List.mem_of_getElem? hsh)
        refine ⟨rfl, _, rfl, _, rfl, so, _, rfl, .inl (SqL.of hso4), rfl, rfl, _, rfl, ?_⟩
        refine ite2 (fun _ => ?_) (fun _ => ?_)
        · refine ⟨_, rfl, _, hD4, by rw [List.length_map, sizeLine_eq]; omega, ts ++ [sh], k4.put (.inr hDH), (T4.le (by omega)).put nD.1 nD.2, by rw [upd_same, List.map_append]; rfl, by rw [List.length_append]; show ts.length + 1 ≤ i + 1; omega, fun s hs => ?_, by rw [upd_ne nDs]; exact hso4⟩
          rcases List.mem_append.mp hs with z | z
          · exact hto s z
          · rw [List.mem_singleton.mp z]; exact hshok
        · refine ⟨_, rfl, _, _, rfl, rfl, _, rfl, ?_⟩
          refine ite2 (fun _ => ?_) (fun _ => ?_)
          · refine ⟨_, rfl, tp, cl, 2, n + 2 + i, rfl, by decide, by decide, by omega, T4, fun r2 H5 hr2 k5 T5 => ?_⟩
            refine ⟨rfl, _, rfl, ?_⟩
            have k45 := k4.trans k5
            refine ite2 (fun _ => ?_) (fun _ => ?_)
            · refine ⟨_, rfl, _, k1at k5 hD4 nD.1, by rw [List.length_map, sizeLine_eq]; omega, ts ++ [sh], k45.put (.inr hDH), (T5.le (by omega)).put nD.1 nD.2, by rw [upd_same, List.map_append]; rfl, by rw [List.length_append]; show ts.length + 1 ≤ i + 1; omega, fun s hs => ?_, by rw [upd_ne nDs]; exact k1at k5 hso4 nso.1⟩
              rcases List.mem_append.mp hs with z | z
              · exact hto s z
              · rw [List.mem_singleton.mp z]; exact hshok
            · exact ⟨ts, k45, T5.le (by omega), k1at k5 hD4 nD.1, by omega, hto, k1at k5 hso4 nso.1⟩
          · exact ⟨ts, k4, T4.le (by omega), hD4, by omega, hto, hso4⟩
      · rintro H4 ⟨ts, k4, T4, hD4, htl, hto, hso4⟩
        rw [List.length_map] at htl T4
        refine ⟨D, _, rfl, .inl ⟨SqL.of hD4, fun t ht => ?_⟩⟩
        have s5 := same_new (o := .tup (ts.map V.str)) ht
        exact kk t ts _ (k4.trans (Kept.of s5)) ((T4.mono s5).le (by omega)) upd_same (by omega) hto
end
end K70

end
section
set_option maxRecDepth 100000
set_option maxHeartbeats 4000000
/-! _law_wants, _law_sheet. -/
namespace K70
open PySem PySem.Spec PyProof.Rows L2 K70M
theorem SRowAt.kept {H H' : Hp} {tp cl a : Addr} {n : Nat} {ws : List Want} (t : TapAt H tp cl n) (k : Kept [tp] H H') (h : SRowAt H a ws) : SRowAt H' a ws := by
  obtain ⟨ta, h1, h2⟩ := h
  exact ⟨ta, k1at k h1 (tap_tup t h1), WantsAt.kept t k h2⟩
theorem SRowAt.keep {H : Hp} {D a : Addr} {o : HO} {xs : List V} {ws : List Want} (hD : H D = some (.lst xs)) (h : SRowAt H a ws) : SRowAt (upd H D o) a ws := by
  obtain ⟨ta, h1, h2⟩ := h
  exact ⟨ta, lst_tup hD h1, WantsAt.keep hD h2⟩
section
variable {P : Program} {w : World} {K : PySem.W.Frag} {mg : Str → Option Value} {base : Heap}
theorem ok_wants {f : Addr} {fd : FuncData} (F : Fun K "_law_wants" "_law_wants" s_Lwants f fd) (B : BT mg) (pi : Cl P w K mg base CX0 1 "_law_pick" ["_law_tap_here", "_law_many"] [] spPick) (so : Cl P w K mg base CX0 2 "_law_some" ["_law_tap_here", "_law_shades"] [] spSome) : FnOk P w K mg base CX0 3 f fd ["_law_tap_here", "_law_words_here", "_law_many", "_law_most_now"] spGenWants := by
  refine F.ok sc_Lwants (fun vs H Q E h => ?_) (fun cdv A outer s H vs Q E hr h => ?_)
  · obtain ⟨_, _, _, _, _, _, _, _, rfl, _⟩ := h
    rfl
  · obtain ⟨tp, cl, wd, many, most, n, fs, ss, rfl, hn, hT, hW, hok, hmany, hm0, hm1, kk⟩ := h
    have nd := sc_Lwants.nd
    have hr1 : Room 1 _ := hr.mono (by decide)
    refine ⟨_, pss_cons (ps_asg (pv 1) (pg_tup rfl (pgs_cons (pg_name (i := 4) nd rfl (Or.inl rfl)) (pgs_cons (pg_name (i := 5) nd rfl (Or.inl rfl)) pgs_nil))))
      (pss_cons (ps_set (i := 6) nd rfl (Or.inl rfl) (pe_lst pa_nil))
      (pss_cons (ps_for PassesOwn.never rfl (pi_range1 rfl B.range (pa_cons (pv 2) pa_nil)) (pg_name (i := 7) nd rfl (Or.inl rfl))
        (pss_cons (ps_set (i := 8) nd rfl (Or.inl rfl) (pe_ix ix_list (pv 4) (pe_k pi hr1 rfl pass0 (pa_cons (pv 0) (pa_cons (pe_callB call_len_seq (by rfl) B.len PySem.boot_len (pa_cons (pv 4) pa_nil)) pa_nil))) (fun _ _ => rfl)))
        (pss_one (ps_expr (pe_bm PySem.F.plainAttrs_list PySem.F.slot_list_append PySem.F.type_list_append mt_append (pv 6) (pa_cons (pe_tup (pa_cons (pv 8) (pa_cons (pe_k so hr rfl pass0 (pa_cons (pv 0) (pa_cons (pv 5) pa_nil))) (pa_cons (pe_op op_add pe_int (pe_k pi hr1 rfl pass0 (pa_cons (pv 0) (pa_cons (pv 3) pa_nil)))) pa_nil)))) pa_nil))))))
      (pss_one (ps_ret (pe_callTy call_tuple_of (by rfl) B.tuple (by decide +kernel) (pa_cons (pv 6) pa_nil)))))), ?_⟩
    obtain ⟨fl, sl, hw1, hw2, hw3⟩ := id hW
    have nfl := tap_strs hT hw2
    have nsl := tap_strs hT hw3
    refine ⟨_, rfl, wd, _, rfl, SqT.of hw1, rfl, _, _, rfl, _, _, rfl, rfl, ?_⟩
    refine ⟨(by show 0 ≤ sizeLine; decide), fun fo hfo => ?_⟩
    have s1 := same_new (o := .lst []) hfo
    have nfo := hT.new (H' := H) hfo
    refine ⟨_, rfl, (many : Int), rfl, by omega, by omega, ?_⟩
    refine for_range (lo := 0) (n := many) (fun i σ H2 => ∃ (as : List Addr) (ws : List Want) (a b : Option V), σ = [some (.ref tp), some (.ref wd), some (.int (many : Int)), some (.int (most : Int)), some (.ref fl), some (.ref sl), some (.ref fo), a, b] ∧ Kept [tp] H H2 ∧ TapAt H2 tp cl (n + 12 * i) ∧ H2 fo = some (.lst (as.map V.ref)) ∧ Paired (WantAt H2) as ws ∧ ws.length = i ∧ ∀ r ∈ ws, WantGen most r)
      ⟨[], [], none, none, rfl, Kept.of s1, hT.mono s1, upd_same, .nil, rfl, (fun r hr => by cases hr)⟩ ?_ ?_
    · rintro i σ H2 hi ⟨as, ws, a, b, rfl, k2, T2, hf2, hP2, hl2, hr2⟩
      have hfl2 := k1at k2 hw2 nfl
      refine ⟨_, rfl, _, rfl, _, rfl, fl, _, rfl, .inl (SqL.of hfl2), tp, cl, (fs.map V.str).length, n + 12 * i, rfl, by rw [List.length_map]; exact hok.f0, by rw [List.length_map]; have := hok.f1; omega, by omega, T2, fun r1 H3 hr1 k3 T3 => ?_⟩
      rw [List.length_map] at hr1
      have k23 := k2.trans k3
      refine ⟨fl, _, (r1 : Int), .str fs[r1], rfl, rfl, SqL.of (k1at k23 hw2 nfl), atI_nat (by rw [List.getElem?_map, List.getElem?_eq_getElem hr1]; rfl), ?_⟩
      have hf3 := k1at k3 hf2 nfo.1
      refine ⟨_, rfl, .inl ⟨rfl, _, SqL.of hf3⟩, _, rfl, _, rfl, _, rfl, tp, cl, sl, n + 12 * i + 1, ss, rfl, by omega, T3, k1at k23 hw3 nsl, hok.s0, hok.s1, hok.so, fun t ts H4 k4 T4 ht htl hto => ?_⟩
      refine ⟨_, rfl, _, rfl, tp, cl, most, n + 12 * i + 1 + 10, rfl, hm0, by omega, by omega, T4, fun r3 H5 hr3 k5 T5 => ?_⟩
      refine ⟨_, _, rfl, rfl, (by show 3 ≤ sizeLine; decide), fun p hp => ?_⟩
      have s6 := same_new (o := .tup [.str fs[r1], .ref t, .int (1 + (r3 : Int))]) hp
      have k46 := (k4.trans k5).trans (Kept.of s6)
      have ht6 := s6 _ _ (k1at k5 ht (tap_tup T4 ht))
      have hf6 := s6 _ _ (k1at k5 (k1at k4 hf3 nfo.1) nfo.1)
      refine ⟨fo, _, _, rfl, rfl, hf6, by rw [List.length_map, hP2.length, sizeLine_eq]; omega, ?_⟩
      refine ⟨as ++ [p], ws ++ [(fs[r1], ts, 1 + (r3 : Int))], _, _, rfl, (k23.trans k46).put (.inr hfo), ((T5.mono s6).le (by omega)).put nfo.1 nfo.2, by rw [upd_same, List.map_append]; rfl, ?_, by rw [List.length_append]; show ws.length + 1 = i + 1; omega, fun x hx => ?_⟩
      · refine Paired_snoc (Paired_mono (fun a x hx => ?_) hP2) ⟨t, lst_tup hf6 upd_same, lst_tup hf6 ht6, hok.fo _ (List.getElem_mem hr1), hto⟩
        have h1 := WantAt.kept T4 k5 (WantAt.kept T3 k4 (WantAt.kept T2 k3 hx))
        exact WantAt.keep hf6 (WantAt.mono _ _ _ _ s6 h1)
      · rcases List.mem_append.mp hx with z | z
        · exact hr2 x z
        · rw [List.mem_singleton.mp z]
          exact ⟨htl, by show 1 ≤ 1 + (r3 : Int); omega, by show 1 + (r3 : Int) ≤ _; omega⟩
    · rintro σ H2 ⟨as, ws, a, b, rfl, k2, T2, hf2, hP2, hl2, hr2⟩
      refine ⟨_, rfl, fo, _, rfl, .inl ⟨SqL.of hf2, fun t ht => ?_⟩⟩
      have s3 := same_new (o := .tup (as.map V.ref)) ht
      exact kk t ws _ (k2.trans (Kept.of s3)) (T2.mono s3) ⟨as, upd_same, Paired_mono (fun a x hx => WantAt.mono _ _ _ _ s3 hx) hP2⟩ hl2 hr2
theorem ok_sheet {f : Addr} {fd : FuncData} (F : Fun K "_law_sheet" "_law_sheet" s_Lsheet f fd) (B : BT mg) (pi : Cl P w K mg base CX0 1 "_law_pick" ["_law_tap_here", "_law_many"] [] spPick) : FnOk P w K mg base CX0 2 f fd ["_law_tap_here", "_law_wants_here"] spSheet := by
  refine F.ok sc_Lsheet (fun vs H Q E h => ?_) (fun cdv A outer s H vs Q E hr h => ?_)
  · obtain ⟨_, _, _, _, _, rfl, _⟩ := h
    rfl
  · obtain ⟨tp, cl, wa, n, ws, rfl, hn, hT, hW, hwl, kk⟩ := h
    have nd := sc_Lsheet.nd
    refine ⟨_, pss_cons (ps_par (i := 2) (j := 3) (by rfl) nd rfl rfl (by decide) rfl rfl (pa_cons (pe_lst pa_nil) (pa_cons (pe_lst pa_nil) pa_nil)) (by rfl))
      (pss_cons (ps_for PassesOwn.never rfl (pi_tup (pv 1)) (pg_name (i := 4) nd rfl (Or.inl rfl))
        (pss_cons (ps_expr (pe_bm PySem.F.plainAttrs_list PySem.F.slot_list_append PySem.F.type_list_append mt_append (pv 3) (pa_cons (pv 4) pa_nil)))
        (pss_one (ps_if (PW.pt (pw_or (pt_cmpR op_eq (pe_k pi hr rfl pass0 (pa_cons (pv 0) (pa_cons pe_int pa_nil))) pe_int (nomark _)) (pw_or1 (pt_cmpR op_eq (pe_callB call_len_seq (by rfl) B.len PySem.boot_len (pa_cons (pv 3) pa_nil)) pe_int (nomark _)))))
          (pss_cons (ps_expr (pe_bm PySem.F.plainAttrs_list PySem.F.slot_list_append PySem.F.type_list_append mt_append (pv 2) (pa_cons (pe_tup (pa_cons (pe_callTy call_tuple_of (by rfl) B.tuple (by decide +kernel) (pa_cons (pv 3) pa_nil)) pa_nil)) pa_nil)))
          (pss_one (ps_set (i := 3) nd rfl (Or.inl rfl) (pe_lst pa_nil)))) pss_nil))))
      (pss_cons (ps_expr (pe_bm PySem.F.plainAttrs_list PySem.F.slot_list_append PySem.F.type_list_append mt_append (pv 2) (pa_cons (pe_tup (pa_cons (pe_callTy call_tuple_of (by rfl) B.tuple (by decide +kernel) (pa_cons (pv 3) pa_nil)) pa_nil)) pa_nil)))
      (pss_one (ps_ret (pe_callTy call_tuple_of (by rfl) B.tuple (by decide +kernel) (pa_cons (pv 2) pa_nil)))))), ?_⟩
    obtain ⟨was, hWT, hWP⟩ := id hW
    refine ⟨(by show 0 ≤ sizeLine; decide), fun ro hro => ?_⟩
    have s1 := same_new (o := .lst []) hro
    refine ⟨(by show 0 ≤ sizeLine; decide), fun oo hoo => ?_⟩
    have s2 := s1.trans (same_new (o := .lst []) hoo)
    have nro := hT.new (H' := H) hro
    have hooH := s1.free hoo
    have noo := hT.new (H' := H) hooH
    have nroo : ro ≠ oo := ne_of_none upd_same hoo
    have nwa := tap_tup hT hWT
    -- the end of a row: tuple(own), in a tuple, appended
    refine ⟨_, _, rfl, ?_⟩
    refine ⟨_, rfl, wa, rfl, ⟨_, SqT.of (s2 _ _ hWT)⟩, for_tup (K := K) (a := wa) (xs := was.map V.ref) (fun i σ H2 => ∃ (oo : Addr) (ras oas : List Addr) (wss : List (List Want)) (own : List Want) (a : Option V), σ = [some (.ref tp), some (.ref wa), some (.ref ro), some (.ref oo), a] ∧ Kept [tp] H H2 ∧ TapAt H2 tp cl (n + i) ∧ H oo = none ∧ oo ≠ ro ∧ H2 ro = some (.lst (ras.map V.ref)) ∧ Paired (SRowAt H2) ras wss ∧ H2 oo = some (.lst (oas.map V.ref)) ∧ Paired (WantAt H2) oas own ∧ wss.flatten ++ own = ws.take i ∧ wss.length ≤ i)
      ⟨oo, [], [], [], [], none, rfl, Kept.of s2, hT.mono s2, hooH, nroo.symm, by rw [upd_ne nroo]; exact upd_same, .nil, upd_same, .nil, rfl, Nat.le_refl _⟩ (fun i σ H2 _ ⟨_, _, _, _, _, _, _, k2, _⟩ => SqT.of (k1at k2 hWT nwa)) ?_ ?_⟩
    · rintro i y σ H2 hi ⟨oo, ras, oas, wss, own, a, rfl, k2, T2, hooN, noro, hr2, hrP, ho2, hoP, he, hwsl⟩
      obtain ⟨wad, wt, g1, g2, rfl, g3⟩ := pget hWP hi
      have hil : i < ws.length := (List.getElem?_eq_some_iff.mp g2).1
      have noo := hT.new (H' := H) hooN
      have g3 := WantAt.kept hT k2 g3
      have hol : own.length ≤ 10 := by
        have e1 := congrArg List.length he
        rw [List.length_append, List.length_take] at e1
        omega
      refine ⟨_, rfl, .inl ⟨rfl, _, SqL.of ho2⟩, _, rfl, oo, _, _, rfl, rfl, ho2, by rw [List.length_map, hoP.length, sizeLine_eq]; omega, ?_⟩
      have T3 := T2.put (o := .lst (oas.map V.ref ++ [.ref wad])) noo.1 noo.2
      have k3 := k2.put (o := .lst (oas.map V.ref ++ [.ref wad])) (.inr hooN)
      have hr3 : (upd H2 oo (.lst (oas.map V.ref ++ [.ref wad]))) ro = some (.lst (ras.map V.ref)) := by rw [upd_ne noro.symm]; exact hr2
      have ho3 : (upd H2 oo (.lst (oas.map V.ref ++ [.ref wad]))) oo = some (.lst ((oas ++ [wad]).map V.ref)) := by rw [upd_same, List.map_append]; rfl
      have hrP3 : Paired (SRowAt (upd H2 oo (.lst (oas.map V.ref ++ [.ref wad])))) ras wss := Paired_mono (fun a x hx => SRowAt.keep ho2 hx) hrP
      have hoP3 : Paired (WantAt (upd H2 oo (.lst (oas.map V.ref ++ [.ref wad])))) (oas ++ [wad]) (own ++ [wt]) := Paired_snoc (Paired_mono (fun a x hx => WantAt.keep ho2 hx) hoP) (WantAt.keep ho2 g3)
      refine ⟨_, rfl, tp, cl, 2, n + i, rfl, by decide, by decide, by omega, T3, fun r1 H4 hr1 k4 T4 => ?_⟩
      have k24 := k3.trans k4
      have hr4 := k1at k4 hr3 nro.1
      have ho4 := k1at k4 ho3 noo.1
      have hrP4 : Paired (SRowAt H4) ras wss := Paired_mono (fun a x hx => SRowAt.kept T3 k4 hx) hrP3
      have hoP4 : Paired (WantAt H4) (oas ++ [wad]) (own ++ [wt]) := Paired_mono (fun a x hx => WantAt.kept T3 k4 hx) hoP3
      have he4 : wss.flatten ++ (own ++ [wt]) = ws.take (i + 1) := by rw [← List.append_assoc, he, take_snoc g2]
      have rowend : ∀ {Q' : VK}, (∀ (t2 : Addr) (H6 : Hp), Same H4 H6 → H6 ro = some (.lst (ras.map V.ref)) → SRowAt H6 t2 (own ++ [wt]) → Q' (.ref t2) H6) → True := fun _ => trivial
      have skipit : ∃ (oo' : Addr) (ras' oas' : List Addr) (wss' : List (List Want)) (own' : List Want) (a' : Option V), [some (V.ref tp), some (.ref wa), some (.ref ro), some (.ref oo), some (.ref wad)] = [some (V.ref tp), some (.ref wa), some (.ref ro), some (.ref oo'), a'] ∧ Kept [tp] H H4 ∧ TapAt H4 tp cl (n + (i + 1)) ∧ H oo' = none ∧ oo' ≠ ro ∧ H4 ro = some (.lst (ras'.map V.ref)) ∧ Paired (SRowAt H4) ras' wss' ∧ H4 oo' = some (.lst (oas'.map V.ref)) ∧ Paired (WantAt H4) oas' own' ∧ wss'.flatten ++ own' = ws.take (i + 1) ∧ wss'.length ≤ i + 1 :=
        ⟨oo, ras, oas ++ [wad], wss, own ++ [wt], _, rfl, k24, T4, hooN, noro, hr4, hrP4, ho4, hoP4, he4, by omega⟩
      refine ⟨rfl, _, rfl, ?_⟩
      refine ite2 (fun _ => ?_) (fun _ => ?_)
      · refine ⟨_, rfl, .inl ⟨rfl, _, SqL.of hr4⟩, _, rfl, oo, _, rfl, .inl ⟨SqL.of ho4, fun t1 ht1 => ?_⟩⟩
        have s5 := same_new (o := .tup ((oas ++ [wad]).map V.ref)) ht1
        refine ⟨(by show 1 ≤ sizeLine; decide), fun t2 ht2 => ?_⟩
        have s6 := same_new (o := .tup [.ref t1]) ht2
        have s56 := s5.trans s6
        have hr6 := s56 _ _ hr4
        refine ⟨ro, _, _, rfl, rfl, hr6, by rw [List.length_map, hrP4.length, sizeLine_eq]; omega, ?_⟩
        have hr7 : (upd (upd (upd H4 t1 (.tup ((oas ++ [wad]).map V.ref))) t2 (.tup [.ref t1])) ro (.lst (ras.map V.ref ++ [.ref t2]))) ro = some (.lst ((ras ++ [t2]).map V.ref)) := by rw [upd_same, List.map_append]; rfl
        have k7 := (k24.trans (Kept.of s56)).put (o := .lst (ras.map V.ref ++ [.ref t2])) (.inr hro)
        have T7 := (T4.mono s56).put (o := .lst (ras.map V.ref ++ [.ref t2])) nro.1 nro.2
        refine ⟨(by show 0 ≤ sizeLine; decide), fun o2 ho2' => ?_⟩
        have s8 := same_new (o := .lst []) ho2'
        have hnew : SRowAt (upd (upd H4 t1 (.tup ((oas ++ [wad]).map V.ref))) t2 (.tup [.ref t1])) t2 (own ++ [wt]) := ⟨t1, upd_same, oas ++ [wad], s6 _ _ upd_same, Paired_mono (fun a x hx => WantAt.mono _ _ _ _ s56 hx) hoP4⟩
        exact ⟨o2, ras ++ [t2], [], wss ++ [own ++ [wt]], [], _, rfl, k7.trans (Kept.of s8), T7.mono s8, kfree k7 T7 ho2', (ne_of_none hr7 ho2').symm, s8 _ _ hr7, Paired_snoc (Paired_mono (fun a x hx => SRowAt.mono _ _ _ _ s8 (SRowAt.keep hr6 (SRowAt.mono _ _ _ _ s56 hx))) hrP4) (SRowAt.mono _ _ _ _ s8 (SRowAt.keep hr6 hnew)), upd_same, .nil, by rw [List.flatten_append, List.append_nil]; simpa using he4, by rw [List.length_append]; show wss.length + 1 ≤ i + 1; omega⟩
      · refine ⟨_, rfl, oo, _, rfl, .inl (SqL.of ho4), rfl, _, rfl, ?_⟩
        refine ite2 (fun _ => ?_) (fun _ => ?_)
        · refine ⟨_, rfl, .inl ⟨rfl, _, SqL.of hr4⟩, _, rfl, oo, _, rfl, .inl ⟨SqL.of ho4, fun t1 ht1 => ?_⟩⟩
          have s5 := same_new (o := .tup ((oas ++ [wad]).map V.ref)) ht1
          refine ⟨(by show 1 ≤ sizeLine; decide), fun t2 ht2 => ?_⟩
          have s6 := same_new (o := .tup [.ref t1]) ht2
          have s56 := s5.trans s6
          have hr6 := s56 _ _ hr4
          refine ⟨ro, _, _, rfl, rfl, hr6, by rw [List.length_map, hrP4.length, sizeLine_eq]; omega, ?_⟩
          have hr7 : (upd (upd (upd H4 t1 (.tup ((oas ++ [wad]).map V.ref))) t2 (.tup [.ref t1])) ro (.lst (ras.map V.ref ++ [.ref t2]))) ro = some (.lst ((ras ++ [t2]).map V.ref)) := by rw [upd_same, List.map_append]; rfl
          have k7 := (k24.trans (Kept.of s56)).put (o := .lst (ras.map V.ref ++ [.ref t2])) (.inr hro)
          have T7 := (T4.mono s56).put (o := .lst (ras.map V.ref ++ [.ref t2])) nro.1 nro.2
          refine ⟨(by show 0 ≤ sizeLine; decide), fun o2 ho2' => ?_⟩
          have s8 := same_new (o := .lst []) ho2'
          have hnew : SRowAt (upd (upd H4 t1 (.tup ((oas ++ [wad]).map V.ref))) t2 (.tup [.ref t1])) t2 (own ++ [wt]) := ⟨t1, upd_same, oas ++ [wad], s6 _ _ upd_same, Paired_mono (fun a x hx => WantAt.mono _ _ _ _ s56 hx) hoP4⟩
          exact ⟨o2, ras ++ [t2], [], wss ++ [own ++ [wt]], [], _, rfl, k7.trans (Kept.of s8), T7.mono s8, kfree k7 T7 ho2', (ne_of_none hr7 ho2').symm, s8 _ _ hr7, Paired_snoc (Paired_mono (fun a x hx => SRowAt.mono _ _ _ _ s8 (SRowAt.keep hr6 (SRowAt.mono _ _ _ _ s56 hx))) hrP4) (SRowAt.mono _ _ _ _ s8 (SRowAt.keep hr6 hnew)), upd_same, .nil, by rw [List.flatten_append, List.append_nil]; simpa using he4, by rw [List.length_append]; show wss.length + 1 ≤ i + 1; omega⟩
        · exact skipit
    · rintro σ H4 ⟨oo, ras, oas, wss, own, a, rfl, k24, T4, hooN, noro, hr4, hrP4, ho4, hoP4, he, hwsl⟩
      rw [List.length_map, hWP.length] at he hwsl T4
      rw [List.take_length] at he
      refine ⟨_, rfl, .inl ⟨rfl, _, SqL.of hr4⟩, _, rfl, oo, _, rfl, .inl ⟨SqL.of ho4, fun t1 ht1 => ?_⟩⟩
      have s5 := same_new (o := .tup (oas.map V.ref)) ht1
      refine ⟨(by show 1 ≤ sizeLine; decide), fun t2 ht2 => ?_⟩
      have s6 := same_new (o := .tup [.ref t1]) ht2
      have s56 := s5.trans s6
      have hr6 := s56 _ _ hr4
      refine ⟨ro, _, _, rfl, rfl, hr6, by rw [List.length_map, hrP4.length, sizeLine_eq]; omega, ?_⟩
      have hr7 : (upd (upd (upd H4 t1 (.tup (oas.map V.ref))) t2 (.tup [.ref t1])) ro (.lst (ras.map V.ref ++ [.ref t2]))) ro = some (.lst ((ras ++ [t2]).map V.ref)) := by rw [upd_same, List.map_append]; rfl
      refine ⟨_, rfl, ro, _, rfl, .inl ⟨SqL.of hr7, fun t ht => ?_⟩⟩
      have s8 := same_new (o := .tup ((ras ++ [t2]).map V.ref)) ht
      have hnew : SRowAt (upd (upd H4 t1 (.tup (oas.map V.ref))) t2 (.tup [.ref t1])) t2 own := ⟨t1, upd_same, oas, s6 _ _ upd_same, Paired_mono (fun a x hx => WantAt.mono _ _ _ _ s56 hx) hoP4⟩
      refine kk t (wss ++ [own]) _ (((k24.trans (Kept.of s56)).put (.inr hro)).trans (Kept.of s8)) ((((T4.mono s56).put nro.1 nro.2).mono s8)) ⟨ras ++ [t2], upd_same, Paired_snoc (Paired_mono (fun a x hx => SRowAt.mono _ _ _ _ s8 (SRowAt.keep hr6 (SRowAt.mono _ _ _ _ s56 hx))) hrP4) (SRowAt.mono _ _ _ _ s8 (SRowAt.keep hr6 hnew))⟩ (by rw [List.flatten_append]; simpa using he)
end
end K70

end
section
set_option maxRecDepth 100000
set_option maxHeartbeats 4000000
/-! The law's own helpers, weakly: has, wanted, joined, sums. -/
namespace K70
open PySem PySem.Spec PyProof.Rows L2 K70M
def spLHas : Sp := fun vs H Q _ => ∃ (t : Addr) (rows : List Row) (f : Str) (v : V) (o : Option (List Str)), vs = [.ref t, .str f, v] ∧ RowsAt H t rows ∧ rows.length ≤ 1000 ∧ PlV H v o ∧ ∀ (x : Int) (H' : Hp), Same H H' → Q (.int x) H'
def spLWanted : Sp := fun vs H Q _ => ∃ (t : Addr) (ws : List Want) (f : Str) (v : V) (o : Option (List Str)), vs = [.ref t, .str f, v] ∧ WantsAt H t ws ∧ (∀ w ∈ ws, w.2.1.length ≤ 16) ∧ PlV H v o ∧ ∀ (x : Int) (H' : Hp), Same H H' → Q (.int x) H'
def spJoined : Sp := fun vs H Q _ => ∃ (a b : Addr) (xs ys : List Str), vs = [.ref a, .ref b] ∧ H a = some (.tup (xs.map V.str)) ∧ H b = some (.tup (ys.map V.str)) ∧ xs.length + ys.length < 64 ∧ ∀ (t : Addr) (zs : List Str) (H' : Hp), Same H H' → H' t = some (.tup (zs.map V.str)) → zs.length ≤ xs.length + ys.length → Q (.ref t) H'
def spLSums : Sp := fun vs H Q _ => ∃ (parts total : Nat), vs = [.int (parts : Int), .int (total : Int)] ∧ parts ≤ 4 ∧ total ≤ 8 ∧ ∀ (la : Addr) (ls : List (List Int)) (H' : Hp), Same H H' → LstOf IntsAt H' la ls → (∀ l ∈ ls, l.length = parts ∧ N0 l ∧ l.sum = (total : Int)) → (total = 0 → ls ≠ []) → Q (.ref la) H'
/-- keys that are texts -/
def TK (kvs : List (Key × V)) (n : Nat) : Prop := ∃ ks : List Str, kvs.map (·.1) = ks.map (fun s => (Sum.inr s : Key)) ∧ ks.length ≤ n
theorem TK.put {kvs : List (Key × V)} {n : Nat} {s : Str} {v : V} (h : TK kvs n) : TK (putK kvs (Sum.inr s) v) (n + 1) := by
  obtain ⟨ks, e, hl⟩ := h
  unfold putK
  by_cases q : (kvs.any fun kv => decide (kv.1 = (Sum.inr s : Key))) = true
  · rw [if_pos q]
    refine ⟨ks, ?_, by omega⟩
    rw [← e, List.map_map]
    refine List.map_congr_left fun kv _ => ?_
    show (if kv.1 = (Sum.inr s : Key) then (kv.1, v) else kv).1 = kv.1
    split <;> rfl
  · rw [if_neg q]
    refine ⟨ks ++ [s], ?_, by rw [List.length_append]; show ks.length + 1 ≤ n + 1; omega⟩
    rw [List.map_append, List.map_append, e]
    rfl
theorem TK.merge : ∀ {ws : List Str} {kvs : List (Key × V)} {n : Nat}, TK kvs n → TK (mergeK kvs (ws.map fun s => ((Sum.inr s : Key), V.bl true))) (n + ws.length)
  | [], _, _, h => h
  | s :: r, kvs, n, h => by
    have h1 := TK.merge (ws := r) (h.put (s := s) (v := V.bl true))
    obtain ⟨ks, e, hl⟩ := h1
    exact ⟨ks, e, by rw [List.length_cons]; omega⟩
/-- (word, True) -/
def WTAt (H : Hp) (a : Addr) (s : Str) : Prop := H a = some (.tup [.str s, .bl true])
theorem wt_pairs {K : PySem.W.Frag} {H : Hp} : ∀ {bs : List Addr} {ss : List Str}, Paired (WTAt H) bs ss → Paired (fun p (kv : Key × V) => SqT K H p [kV kv.1, kv.2]) bs (ss.map fun s => ((Sum.inr s : Key), V.bl true))
  | _, _, .nil => .nil
  | _, _, .cons r t => .cons (SqT.of r) (wt_pairs t)
section
variable {P : Program} {w : World} {K : PySem.W.Frag} {mg : Str → Option Value} {base : Heap}
theorem ok_Lhas {f : Addr} {fd : FuncData} (F : Fun K "_law_has" "_law_has" s_Lhas f fd) (B : BT mg) : FnOk P w K mg base CX0 1 f fd ["_law_rows_here", "_law_form", "_law_shades"] spLHas := by
  refine F.ok sc_Lhas (fun vs H Q E h => ?_) (fun cdv A outer s H vs Q E hr h => ?_)
  · obtain ⟨_, _, _, _, _, rfl, _⟩ := h
    rfl
  · obtain ⟨t, rows, fm, v, o, rfl, hR, hl, ho, kk⟩ := h
    have nd := sc_Lhas.nd
    refine ⟨_, pss_one (ps_ret (pe_callB (cr_sum rfl) (by rfl) B.sum (by decide +kernel) (pa_cons
      (pe_lc (own := [("_law_own", 3), ("_law_shade", 4), ("_law_many", 5)]) (g := gTup K 3 (gCons (gName 3) (gCons (gName 4) (gCons (gName 5) gNil)))) rfl nd (pi_tup (pv 0))
        (blkOk_by (N := ["_law_rows_here", "_law_form", "_law_shades", "_law_own", "_law_shade", "_law_many"]) (sc := defScope s_Lhas) (by decide +kernel))
        (fun _ _ _ _ _ => pg_tup rfl (pgs_cons (pg_name (i := 3) nd rfl (Or.inl rfl)) (pgs_cons (pg_name (i := 4) nd rfl (Or.inl rfl)) (pgs_cons (pg_name (i := 5) nd rfl (Or.inl rfl)) pgs_nil))))
        (fun _ _ _ _ _ => pts_one (PW.pt (pw_and (pt_cmpR op_eq (pv 3) (pv 1) (nomark _)) (pw_and1 (PW.pt (pw_or (pt_cmpR op_isN (pv 2) pe_non (nomark _)) (pw_or1 (pt_cmpR (op_inK K) (pv 4) (pv 2) rfl))))))))
        (fun _ _ _ _ _ => pv 5)) pa_nil))), ?_⟩
    obtain ⟨as, hT, hP⟩ := id hR
    refine ⟨_, rfl, t, rfl, ⟨_, SqT.of hT⟩, fun D hD => ?_⟩
    refine lc_tup (K := K) (a := t) (xs := as.map V.ref) (fun i H2 => Same H H2 ∧ ∃ ns : List Int, H2 D = some (.lst (ns.map V.int)) ∧ ns.length ≤ i)
      ⟨same_new hD, [], upd_same, Nat.le_refl _⟩ (fun i H2 _ ⟨s2, _⟩ => SqT.of (s2 _ _ hT)) ?_ ?_
    · rintro i y H2 hi ⟨s2, ns, hns, hnl⟩
      obtain ⟨ra, row, g1, g2, rfl, g3⟩ := pget hP hi
      have hil : i < rows.length := (List.getElem?_eq_some_iff.mp g2).1
      have hrow : H2 ra = some (.tup [.str row.1.1, .str row.1.2, .int row.2]) := s2 _ _ g3
      refine ⟨ra, _, rfl, SqT.of hrow, rfl, _, _, rfl, _, _, rfl, _, _, rfl, rfl, rfl, ?_⟩
      have yes : ∃ acc : List V, H2 D = some (.lst acc) ∧ acc.length < sizeLine ∧ Same H (upd H2 D (.lst (acc ++ [.int row.2]))) ∧ ∃ ns' : List Int, upd H2 D (.lst (acc ++ [.int row.2])) D = some (.lst (ns'.map V.int)) ∧ ns'.length ≤ i + 1 :=
        ⟨_, hns, by rw [List.length_map, sizeLine_eq]; omega, same_put s2 hD, ns ++ [row.2], by rw [upd_same, List.map_append]; rfl, by rw [List.length_append]; show ns.length + 1 ≤ i + 1; omega⟩
      refine ⟨_, rfl, _, rfl, rfl, _, rfl, ?_⟩
      refine ite2 (fun _ => ?_) (fun _ => ?_)
      · refine ⟨_, rfl, rfl, _, rfl, ?_⟩
        cases o with
        | none =>
          obtain rfl : v = .non := ho
          exact ⟨_, rfl, yes⟩
        | some ss =>
          obtain ⟨st, rfl, hst⟩ := ho
          refine iteF ?_
          refine ⟨_, rfl, _, rfl, st, _, rfl, .inr (SqT.of (s2 _ _ hst)), rfl, strs_flat ss, _, rfl, ?_⟩
          refine ite2 (fun _ => ?_) (fun _ => ?_)
          · exact ⟨_, rfl, yes⟩
          · exact ⟨s2, ns, hns, by omega⟩
      · exact ⟨s2, ns, hns, by omega⟩
    · rintro H2 ⟨s2, ns, hns, hnl⟩
      exact ⟨D, ns, rfl, SqL.of hns, kk _ H2 s2⟩
theorem ok_Lwanted {f : Addr} {fd : FuncData} (F : Fun K "_law_wanted" "_law_wanted" s_Lwanted f fd) (B : BT mg) : FnOk P w K mg base CX0 1 f fd ["_law_wants_here", "_law_form", "_law_shades"] spLWanted := by
  refine F.ok sc_Lwanted (fun vs H Q E h => ?_) (fun cdv A outer s H vs Q E hr h => ?_)
  · obtain ⟨_, _, _, _, _, rfl, _⟩ := h
    rfl
  · obtain ⟨t, ws, fm, v, o, rfl, hW, hsl, ho, kk⟩ := h
    have nd := sc_Lwanted.nd
    refine ⟨_, pss_cons (ps_set (i := 3) nd rfl (Or.inl rfl) pe_int)
      (pss_cons (ps_for PassesOwn.never rfl (pi_tup (pv 0)) (pg_tup rfl (pgs_cons (pg_name (i := 4) nd rfl (Or.inl rfl)) (pgs_cons (pg_name (i := 5) nd rfl (Or.inl rfl)) (pgs_cons (pg_name (i := 6) nd rfl (Or.inl rfl)) pgs_nil))))
        (pss_cons (ps_set (i := 7) nd rfl (Or.inl rfl) (pe_ifExp (pt_cmpR op_isN (pv 2) pe_non (nomark _)) (pe_lst pa_nil)
          (pe_lc (own := [("_law_one", 8)]) (g := gName 8) rfl nd (pi_tup (pv 5))
            (blkOk_by (N := ["_law_wants_here", "_law_form", "_law_shades", "_law_found", "_law_own", "_law_some_here", "_law_many", "_law_strange", "_law_one"]) (sc := defScope s_Lwanted) (by decide +kernel))
            (fun _ _ _ _ _ => pg_name (i := 8) nd rfl (Or.inl rfl)) (fun _ _ _ _ _ => pts_one (pt_cmpR (op_notInK K) (pv 8) (pv 2) rfl)) (fun _ _ _ _ _ => pv 8))))
        (pss_one (ps_if (PW.pt (pw_and (pt_cmpR op_eq (pv 4) (pv 1) (nomark _)) (pw_and (pt_cmpR (op_eqD hr.units) (pv 7) (pe_lst pa_nil) (nomark _)) (pw_and1 (PW.pt (pw_or (pt_cmpR op_isN (pv 2) pe_non (nomark _)) (pw_or1 (pt_cmpR (op_neD hr.units) (pv 5) (pe_tup pa_nil) (nomark _)))))))))
          (pss_one (ps_set (i := 3) nd rfl (Or.inl rfl) (pe_op op_add (pv 3) (pv 6)))) pss_nil))))
      (pss_one (ps_ret (pv 3)))), ?_⟩
    obtain ⟨as, hT, hP⟩ := id hW
    refine ⟨_, rfl, t, rfl, ⟨_, SqT.of hT⟩, for_tup (K := K) (a := t) (xs := as.map V.ref) (fun i σ H2 => ∃ (x : Int) (a b c d e : Option V), σ = [some (.ref t), some (.str fm), some v, some (.int x), a, b, c, d, e] ∧ Same H H2)
      ⟨0, none, none, none, none, none, rfl, Same.refl _⟩ (fun i σ H2 _ ⟨_, _, _, _, _, _, _, s2⟩ => SqT.of (s2 _ _ hT)) ?_ ?_⟩
    · rintro i y σ H2 hi ⟨x, a, b, c, d, e, rfl, s2⟩
      obtain ⟨ra, wt, g1, g2, rfl, g3⟩ := pget hP hi
      obtain ⟨ta, hw1, hw2, hw3⟩ := WantAt.mono _ _ _ _ s2 g3
      have hwl := hsl wt (List.mem_of_getElem? g2)
      refine ⟨ra, _, rfl, SqT.of hw1, rfl, _, _, rfl, _, _, rfl, _, _, rfl, rfl, ?_⟩
      refine ⟨_, rfl, rfl, _, rfl, ?_⟩
      cases o with
      | none =>
        obtain rfl : v = .non := ho
        refine iteT ?_
        refine ⟨(by show 0 ≤ sizeLine; decide), fun st hst => ?_⟩
        have s3 := same_new (o := .lst []) hst
        refine ⟨_, rfl, _, rfl, rfl, _, rfl, ?_⟩
        refine ite2 (fun _ => ?_) (fun _ => ?_)
        · refine ⟨_, rfl, (by show 0 ≤ sizeLine; decide), fun z hz => ?_⟩
          have s4 := same_new (o := .lst []) hz
          refine ⟨_, _, .lst (SqL.of (s4 _ _ upd_same)) .nil, .lst (SqL.of upd_same) .nil, rfl, rfl, _, rfl, ?_⟩
          refine iteT ?_
          refine ⟨_, rfl, rfl, _, rfl, ?_⟩
          refine iteT ?_
          exact ⟨_, rfl, _, rfl, _, _, rfl, rfl, _, _, _, _, _, _, rfl, (s2.trans s3).trans s4⟩
        · exact ⟨_, _, _, _, _, _, rfl, s2.trans s3⟩
      | some ss =>
        obtain ⟨sta, rfl, hsta⟩ := ho
        refine iteF ?_
        refine ⟨_, rfl, ta, rfl, ⟨_, SqT.of hw2⟩, fun D hD => ?_⟩
        refine lc_tup (K := K) (a := ta) (xs := wt.2.1.map V.str) (fun j H3 => Same H2 H3 ∧ ∃ ns : List Str, H3 D = some (.lst (ns.map V.str)) ∧ ns.length ≤ j ∧ ∀ s ∈ ns, PyData.strOk s = true)
          ⟨same_new hD, [], upd_same, Nat.le_refl _, (fun s hs => by cases hs)⟩ (fun j H3 _ ⟨s3, _⟩ => SqT.of (s3 _ _ hw2)) ?_ ?_
        · rintro j y H3 hj ⟨s3, ns, hns, hnl, hno⟩
          rw [List.getElem?_map, Option.map_eq_some_iff] at hj
          obtain ⟨sh, hsh, rfl⟩ := hj
          have hjl : j < wt.2.1.length := (List.getElem?_eq_some_iff.mp hsh).1
          refine ⟨rfl, _, rfl, _, rfl, sta, _, rfl, .inr (SqT.of ((s2.trans s3) _ _ hsta)), rfl, strs_flat ss, _, rfl, ?_⟩
          refine ite2 (fun _ => ?_) (fun _ => ?_)
          · refine ⟨_, rfl, _, hns, by rw [List.length_map, sizeLine_eq]; omega, same_put s3 hD, ns ++ [sh], by rw [upd_same, List.map_append]; rfl, by rw [List.length_append]; show ns.length + 1 ≤ j + 1; omega, fun s hs => ?_⟩
            rcases List.mem_append.mp hs with z | z
            · exact hno s z
            · rw [List.mem_singleton.mp z]; exact hw3.2 _ (List.mem_of_getElem? hsh)
          · exact ⟨s3, ns, hns, by omega, hno⟩
        · rintro H3 ⟨s3, ns, hns, hnl, hno⟩
          refine ⟨_, rfl, _, rfl, rfl, _, rfl, ?_⟩
          refine ite2 (fun _ => ?_) (fun _ => ?_)
          · refine ⟨_, rfl, (by show 0 ≤ sizeLine; decide), fun z hz => ?_⟩
            have s4 := same_new (o := .lst []) hz
            refine ⟨_, _, .lst (SqL.of (s4 _ _ hns)) (strs_dp ns), .lst (SqL.of upd_same) .nil, shaped_strsL hno, rfl, _, rfl, ?_⟩
            refine ite2 (fun _ => ?_) (fun _ => ?_)
            · refine ⟨_, rfl, rfl, _, rfl, ?_⟩
              refine iteF ?_
              refine ⟨_, rfl, (by show 0 ≤ sizeLine; decide), fun z2 hz2 => ?_⟩
              have s5 := same_new (o := .tup []) hz2
              refine ⟨_, _, .tup (SqT.of (s5 _ _ (s4 _ _ (s3 _ _ hw2)))) (strs_dp wt.2.1), .tup (SqT.of upd_same) .nil, shaped_strs hw3.2, rfl, _, rfl, ?_⟩
              refine ite2 (fun _ => ?_) (fun _ => ?_)
              · exact ⟨_, rfl, _, rfl, _, _, rfl, rfl, _, _, _, _, _, _, rfl, ((s2.trans s3).trans s4).trans s5⟩
              · exact ⟨_, _, _, _, _, _, rfl, ((s2.trans s3).trans s4).trans s5⟩
            · exact ⟨_, _, _, _, _, _, rfl, (s2.trans s3).trans s4⟩
          · exact ⟨_, _, _, _, _, _, rfl, s2.trans s3⟩
    · rintro σ H2 ⟨x, a, b, c, d, e, rfl, s2⟩
      exact ⟨_, rfl, kk x H2 s2⟩
theorem ok_joined {f : Addr} {fd : FuncData} (F : Fun K "_law_joined" "_law_joined" s_Ljoined f fd) (B : BT mg) : FnOk P w K mg base CX0 1 f fd ["_law_one", "_law_other"] spJoined := by
  refine F.ok sc_Ljoined (fun vs H Q E h => ?_) (fun cdv A outer s H vs Q E hr h => ?_)
  · obtain ⟨_, _, _, _, rfl, _⟩ := h
    rfl
  · obtain ⟨a, b, xs, ys, rfl, ha, hb, hl, kk⟩ := h
    have nd := sc_Ljoined.nd
    refine ⟨_, pss_one (ps_ret (pe_callTy call_tuple_of (by rfl) B.tuple (by decide +kernel) (pa_cons (pe_callB (call_sortedD rfl) (by rfl) B.sorted (by decide +kernel) (pa_cons (pe_callTy (call_dictP rfl) (by rfl) B.dict (by decide +kernel) (pa_cons
      (pe_lc (own := [("_law_word", 2)]) (g := gName 2) (tt := tYes) rfl nd (pi_tup (pe_op op_catA (pv 0) (pv 1)))
        (blkOk_by (N := ["_law_one", "_law_other", "_law_word"]) (sc := defScope s_Ljoined) (by decide +kernel))
        (fun _ _ _ _ _ => pg_name (i := 2) nd rfl (Or.inl rfl)) (fun _ _ _ _ _ => pts_nil) (fun _ _ _ _ _ => pe_tup (pa_cons (pv 2) (pa_cons pe_bl pa_nil)))) pa_nil)) pa_nil)) pa_nil))), ?_⟩
    refine ⟨_, rfl, _, rfl, cat_vs ha hb (by rw [List.length_map, List.length_map]; omega) fun r H1 s1 hr1 => ?_⟩
    rw [← List.map_append] at hr1
    refine ⟨r, rfl, ⟨_, SqT.of hr1⟩, fun D hD => ?_⟩
    refine lc_tup (K := K) (a := r) (xs := (xs ++ ys).map V.str) (fun i H2 => Same H1 H2 ∧ ∃ bs : List Addr, H2 D = some (.lst (bs.map V.ref)) ∧ Paired (WTAt H2) bs ((xs ++ ys).take i))
      ⟨same_new hD, [], upd_same, .nil⟩ (fun i H2 _ ⟨s2, _⟩ => SqT.of (s2 _ _ hr1)) ?_ ?_
    · rintro i y H2 hi ⟨s2, bs, hbs, hP⟩
      rw [List.getElem?_map, Option.map_eq_some_iff] at hi
      obtain ⟨sh, hsh, rfl⟩ := hi
      have hil : i < (xs ++ ys).length := (List.getElem?_eq_some_iff.mp hsh).1
      rw [List.length_append] at hil
      refine ⟨rfl, _, rfl, (by show 2 ≤ sizeLine; decide), fun p hp => ?_⟩
      have s3 := same_new (o := .tup [.str sh, .bl true]) hp
      refine ⟨_, s3 _ _ hbs, by rw [List.length_map, hP.length, List.length_take, sizeLine_eq]; omega, same_put (s2.trans s3) hD, bs ++ [p], by rw [upd_same, List.map_append]; rfl, ?_⟩
      rw [take_snoc hsh]
      exact Paired_snoc (Paired_mono (fun a x hx => lst_tup (s3 _ _ hbs) (s3 _ _ hx)) hP) (lst_tup (s3 _ _ hbs) upd_same)
    · rintro H2 ⟨s2, bs, hbs, hP⟩
      rw [List.length_map, List.take_length] at hP
      have hkv := wt_pairs (K := K) hP
      refine ⟨D, bs, _, rfl, SqL.of hbs, hkv, fun d hd => ?_⟩
      have s3 := same_new (o := .dK (mergeK [] ((xs ++ ys).map fun s => ((Sum.inr s : Key), V.bl true)))) hd
      obtain ⟨ks, e1, e2⟩ := TK.merge (ws := xs ++ ys) (kvs := []) (n := 0) ⟨[], rfl, Nat.le_refl _⟩
      rw [Nat.zero_add, List.length_append] at e2
      refine ⟨d, _, ks, rfl, .inl upd_same, e1, by omega, fun zs p hperm _ hp => ?_⟩
      have s4 := same_new (o := .lst (zs.map V.str)) hp
      refine ⟨p, _, rfl, .inl ⟨SqL.of upd_same, fun t ht => ?_⟩⟩
      exact kk t zs _ ((((s1.trans s2).trans s3).trans s4).trans (same_new ht)) upd_same (by rw [hperm.length_eq]; omega)
end
end K70

end
section
set_option maxRecDepth 100000
set_option maxHeartbeats 4000000
/-! _law_sums, _law_places. -/
namespace K70
open PySem PySem.Spec PyProof.Rows L2 K70M
theorem cr_sumTK2 {X : Cx} (K : PySem.W.Frag) (hc : X.calm = true) (h : X.K = K := by rfl) : CallR X (.builtin "sum") (rSumT K) := h ▸ cr_sumT hc
theorem rep_snoc (k : Nat) : List.replicate k (0 : Int) ++ [0] = List.replicate (k + 1) 0 := by rw [List.replicate_succ']
theorem sum_rep (k : Nat) : (List.replicate k (0 : Int)).sum = 0 := by
  induction k with
  | zero => rfl
  | succ k ih => rw [List.replicate_succ, List.sum_cons, ih]; rfl
structure LS (total k : Nat) (rows : List (List Int)) : Prop where
  snd : ∀ l ∈ rows, l.length = k ∧ N0 l ∧ l.sum ≤ (total : Int)
  zer : List.replicate k (0 : Int) ∈ rows
  len : rows.length ≤ 9 ^ k
section
variable {P : Program} {w : World} {K : PySem.W.Frag} {mg : Str → Option Value} {base : Heap}
theorem ok_Lsums {f : Addr} {fd : FuncData} (F : Fun K "_law_sums" "_law_sums" s_Lsums f fd) (B : BT mg) : FnOk P w K mg base CX0 1 f fd ["_law_parts", "_law_total"] spLSums := by
  refine F.ok sc_Lsums (fun vs H Q E h => ?_) (fun cdv A outer s H vs Q E hr h => ?_)
  · obtain ⟨_, _, rfl, _⟩ := h
    rfl
  · obtain ⟨parts, total, rfl, hp4, ht, kk⟩ := h
    have nd := sc_Lsums.nd
    refine ⟨_, pss_cons (ps_set (i := 2) nd rfl (Or.inl rfl) (pe_lst (pa_cons (pe_tup pa_nil) pa_nil)))
      (pss_cons (ps_for PassesOwn.never rfl (pi_range1 rfl B.range (pa_cons (pv 0) pa_nil)) (pg_name (i := 3) nd rfl (Or.inl rfl))
        (pss_cons (ps_set (i := 4) nd rfl (Or.inl rfl) (pe_lst pa_nil))
        (pss_cons (ps_for PassesOwn.never rfl (pi_list (pv 2)) (pg_name (i := 5) nd rfl (Or.inr rfl))
          (pss_one (ps_expr (pe_bm PySem.F.plainAttrs_list PySem.F.slot_list_extend PySem.F.type_list_extend mt_extend (pv 4) (pa_cons
            (pe_lc (own := [("_law_number", 6)]) (g := gName 6) (tt := tYes) rfl nd (pi_range1 rfl B.range (pa_cons (pe_op op_add (pe_op op_sub (pv 1) (pe_callB (cr_sumT rfl) (by rfl) B.sum (by decide +kernel) (pa_cons (pv 5) pa_nil))) pe_int) pa_nil))
              (blkOk_by (N := ["_law_parts", "_law_total", "_law_rows_here", "_law_k", "_law_longer", "_law_row", "_law_number"]) (sc := defScope s_Lsums) (by decide +kernel))
              (fun _ _ _ _ _ => pg_name (i := 6) nd rfl (Or.inl rfl)) (fun _ _ _ _ _ => pts_nil)
              (fun _ _ _ _ _ => pe_op (op_catK K) (pv 5) (pe_tup (pa_cons (pv 6) pa_nil)))) pa_nil)))))
        (pss_one (ps_set (i := 2) nd rfl (Or.inl rfl) (pv 4))))))
      (pss_one (ps_ret (pe_lc (own := [("_law_row", 5)]) (g := gName 5) rfl nd (pi_list (pv 2))
        (blkOk_by (N := ["_law_parts", "_law_total", "_law_rows_here", "_law_k", "_law_longer", "_law_row", "_law_number"]) (sc := defScope s_Lsums) (by decide +kernel))
        (fun _ _ _ _ _ => pg_name (i := 5) nd rfl (Or.inl rfl))
        (fun _ _ _ _ _ => pts_one (pt_cmpR op_eq (pe_callB (cr_sumTK2 K rfl) (by rfl) B.sum (by decide +kernel) (pa_cons (pv 5) pa_nil)) (pv 1) (nomark _))) (fun _ _ _ _ _ => pv 5))))), ?_⟩
    refine ⟨(by show 0 ≤ sizeLine; decide), fun t0 ht0 => ?_⟩
    have s1 := same_new (o := .tup []) ht0
    refine ⟨(by show 1 ≤ sizeLine; decide), fun l0 hl0 => ?_⟩
    have sl := same_new (o := .lst [.ref t0]) hl0
    refine ⟨_, rfl, (parts : Int), rfl, by omega, by omega, ?_⟩
    refine for_range (lo := 0) (n := parts) (fun k σ H2 => ∃ (ra : Addr) (rows : List (List Int)) (a b c d : Option V), σ = [some (.int (parts : Int)), some (.int (total : Int)), some (.ref ra), a, b, c, d] ∧ Same H H2 ∧ LstOf IntsAt H2 ra rows ∧ LS total k rows)
      ⟨l0, [[]], none, none, none, none, rfl, s1.trans sl, ⟨[t0], upd_same, .cons (sl _ _ upd_same) .nil⟩, ⟨fun l hl => by
        rw [List.mem_singleton.mp hl]
        exact ⟨rfl, (fun x hx => by cases hx), by simp⟩, List.mem_cons_self, Nat.le_refl _⟩⟩ ?_ ?_
    · rintro k σ H2 hk ⟨ra, rows, a, b, c, d, rfl, s2, ⟨ras, hra, hrP⟩, S⟩
      have hpl : 9 ^ k ≤ 729 := by
        have h1 : (9 : Nat) ^ k ≤ 9 ^ 3 := Nat.pow_le_pow_right (by decide) (by omega)
        have h2 : (9 : Nat) ^ 3 = 729 := by decide
        omega
      have hrl := S.len
      refine ⟨(by show 0 ≤ sizeLine; decide), fun lg hlg => ?_⟩
      have s3 := same_new (o := .lst []) hlg
      refine ⟨_, rfl, ra, rfl, ⟨_, SqL.of (s3 _ _ hra)⟩, for_list (K := K) (a := ra) (xs := ras.map V.ref) (fun i σ H4 => ∃ (c d : Option V) (new : List (List Int)), σ = [some (.int (parts : Int)), some (.int (total : Int)), some (.ref ra), some (.int (0 + (k : Int))), some (.ref lg), c, d] ∧ Same H2 H4 ∧ LstOf IntsAt H4 lg new ∧ (∀ l ∈ new, l.length = k + 1 ∧ N0 l ∧ l.sum ≤ (total : Int)) ∧ (List.replicate k (0 : Int) ∈ rows.take i → List.replicate (k + 1) (0 : Int) ∈ new) ∧ new.length ≤ 9 * i)
        ⟨c, d, [], rfl, s3, ⟨[], upd_same, .nil⟩, (fun l hl => by cases hl), (fun z => by cases z), Nat.le_refl _⟩ (fun i σ H4 _ ⟨_, _, _, _, s4, _⟩ => SqL.of (s4 _ _ hra)) ?_ ?_⟩
      · rintro i y σ H4 hi ⟨c, d, new, rfl, s4, ⟨las, hla, hlP⟩, hn1, hn2, hn3⟩
        obtain ⟨ea, l, g1, g2, rfl, g3⟩ := pget hrP hi
        have hil : i < rows.length := (List.getElem?_eq_some_iff.mp g2).1
        have he : H4 ea = some (.tup (l.map V.int)) := s4 _ _ g3
        obtain ⟨q1, q2, q3⟩ := S.snd l (List.mem_of_getElem? g2)
        have q4 := N0.sum q2
        refine ⟨_, rfl, .inl ⟨rfl, _, SqL.of hla⟩, _, rfl, _, rfl, ea, l, rfl, SqT.of he, _, _, rfl, rfl, _, _, rfl, rfl, _, rfl, by omega, by omega, fun D hD => ?_⟩
        refine lc_range (lo := 0) (fun j H5 => Same H4 H5 ∧ ∃ (bs : List Addr) (made : List (List Int)), H5 D = some (.lst (bs.map V.ref)) ∧ Paired (IntsAt H5) bs made ∧ made.length = j ∧ (∀ m ∈ made, m.length = k + 1 ∧ N0 m ∧ m.sum ≤ (total : Int)) ∧ (0 < j → l ++ [0] ∈ made))
          ⟨same_new hD, [], [], upd_same, .nil, rfl, (fun m hm => by cases hm), (fun z => by omega)⟩ ?_ ?_
        · rintro j H5 hj ⟨s5, bs, made, hb5, hbP, hml, hmm, hmz⟩
          have hj9 : (j : Int) ≤ (total : Int) - l.sum := by omega
          refine ⟨rfl, _, rfl, _, rfl, (by show 1 ≤ sizeLine; decide), fun p1 hp1 => ?_⟩
          have g1' := same_new (o := .tup [.int (0 + (j : Int))]) hp1
          refine cat_vs (g1' _ _ (s5 _ _ he)) upd_same (by rw [List.length_map, q1]; show k + 1 ≤ _; omega) fun r H6 s6 hr => ?_
          have s56 := g1'.trans s6
          refine ⟨bs.map V.ref, s56 _ _ hb5, by rw [List.length_map, hbP.length, sizeLine_eq]; omega, same_put (s5.trans s56) hD, bs ++ [r], made ++ [l ++ [0 + (j : Int)]], by rw [upd_same, List.map_append]; rfl, Paired_snoc (Paired_mono (fun a x hx => IntsAt.keep (s56 _ _ hb5) (IntsAt.mono _ _ _ _ s56 hx)) hbP) (IntsAt.keep (s56 _ _ hb5) (by show H6 r = _; rw [hr, List.map_append]; rfl)), by rw [List.length_append]; show made.length + 1 = j + 1; omega, fun m hm => ?_, fun _ => ?_⟩
          · rcases List.mem_append.mp hm with z | z
            · exact hmm m z
            · rw [List.mem_singleton.mp z]
              refine ⟨by rw [List.length_append, q1]; rfl, fun x hx => ?_, by rw [sum_snoc]; omega⟩
              rcases List.mem_append.mp hx with z | z
              · exact q2 x z
              · rw [List.mem_singleton.mp z]; omega
          · by_cases z : 0 < j
            · exact List.mem_append_left _ (hmz z)
            · have : j = 0 := by omega
              subst this
              exact List.mem_append_right _ List.mem_cons_self
        · rintro H5 ⟨s5, bs, made, hb5, hbP, hml, hmm, hmz⟩
          refine ⟨lg, D, _, _, rfl, rfl, s5 _ _ hla, hb5, by rw [List.length_map, List.length_map, hlP.length, hbP.length, sizeLine_eq]; omega, ?_⟩
          refine ⟨_, _, new ++ made, rfl, same_put (s4.trans s5) hlg, ⟨las ++ bs, by rw [upd_same, List.map_append], Paired_mono (fun a x hx => IntsAt.keep (s5 _ _ hla) hx) (Paired_app hbP (Paired_mono (fun a x hx => IntsAt.mono _ _ _ _ s5 hx) hlP))⟩, fun m hm => ?_, fun hz => ?_, by rw [List.length_append]; omega⟩
          · rcases List.mem_append.mp hm with z | z
            · exact hn1 m z
            · exact hmm m z
          · rw [take_snoc g2] at hz
            rcases List.mem_append.mp hz with z | z
            · exact List.mem_append_left _ (hn2 z)
            · refine List.mem_append_right _ ?_
              rw [← rep_snoc, List.mem_singleton.mp z]
              exact hmz (by omega)
      · rintro σ H4 ⟨c, d, new, rfl, s4, hnew, hn1, hn2, hn3⟩
        rw [List.length_map, hrP.length] at hn2 hn3
        rw [List.take_length] at hn2
        exact ⟨_, rfl, lg, new, _, _, _, _, rfl, s2.trans s4, hnew, hn1, hn2 S.zer, by rw [Nat.pow_succ]; omega⟩
    · rintro σ H2 ⟨ra, rows, a, b, c, d, rfl, s2, ⟨ras, hra, hrP⟩, S⟩
      have hrl : rows.length ≤ 6561 := by
        have h0 := S.len
        have h1 : (9 : Nat) ^ parts ≤ 9 ^ 4 := Nat.pow_le_pow_right (by decide) (by omega)
        have h2 : (9 : Nat) ^ 4 = 6561 := by decide
        omega
      refine ⟨_, rfl, ra, rfl, ⟨_, SqL.of hra⟩, fun D hD => ?_⟩
      refine lc_list (K := K) (a := ra) (xs := ras.map V.ref) (fun i H3 => Same H2 H3 ∧ ∃ (bs : List Addr) (ls : List (List Int)), H3 D = some (.lst (bs.map V.ref)) ∧ Paired (IntsAt H3) bs ls ∧ ls.length ≤ i ∧ (∀ l ∈ ls, l.length = parts ∧ N0 l ∧ l.sum = (total : Int)) ∧ (total = 0 → List.replicate parts (0 : Int) ∈ rows.take i → ls ≠ []))
        ⟨same_new hD, [], [], upd_same, .nil, Nat.le_refl _, (fun l hl => by cases hl), (fun _ z => by cases z)⟩ (fun i H3 _ ⟨s3, _⟩ => SqL.of (s3 _ _ hra)) ?_ ?_
      · rintro i y H3 hi ⟨s3, bs, ls, hb, hP, hl, hm, hz⟩
        obtain ⟨ea, l, g1, g2, rfl, g3⟩ := pget hrP hi
        have hil : i < rows.length := (List.getElem?_eq_some_iff.mp g2).1
        have he : H3 ea = some (.tup (l.map V.int)) := s3 _ _ g3
        obtain ⟨q1, q2, q3⟩ := S.snd l (List.mem_of_getElem? g2)
        refine ⟨rfl, _, rfl, ea, l, rfl, SqT.of he, _, rfl, rfl, _, rfl, ?_⟩
        refine ite2 (fun z => ?_) (fun z => ?_)
        · have z : l.sum = (total : Int) := by simpa using z
          refine ⟨_, rfl, _, hb, by rw [List.length_map, hP.length, sizeLine_eq]; omega, same_put s3 hD, bs ++ [ea], ls ++ [l], by rw [upd_same, List.map_append]; rfl, Paired_snoc (Paired_mono (fun a r hr => IntsAt.keep hb hr) hP) (IntsAt.keep hb he), by rw [List.length_append]; show ls.length + 1 ≤ i + 1; omega, fun m hm' => ?_, fun _ _ => by simp⟩
          rcases List.mem_append.mp hm' with y | y
          · exact hm m y
          · rw [List.mem_singleton.mp y]; exact ⟨q1, q2, z⟩
        · have z : ¬ l.sum = (total : Int) := by simpa using z
          refine ⟨s3, bs, ls, hb, hP, by omega, hm, fun h0 hin => ?_⟩
          rw [take_snoc g2] at hin
          rcases List.mem_append.mp hin with y | y
          · exact hz h0 y
          · exfalso
            apply z
            rw [← List.mem_singleton.mp y, sum_rep, h0]
            rfl
      · rintro H3 ⟨s3, bs, ls, hb, hP, hl, hm, hz⟩
        rw [List.length_map, hrP.length, List.take_length] at hz
        exact kk D ls H3 (s2.trans s3) ⟨bs, hb, hP⟩ hm fun h0 => hz h0 S.zer
end
end K70

end
section
set_option maxRecDepth 100000
set_option maxHeartbeats 4000000
/-! _law_places. -/
namespace K70
open PySem PySem.Spec PyProof.Rows L2 K70M
def StrsAt (H : Hp) (a : Addr) (ss : List Str) : Prop := H a = some (.tup (ss.map V.str))
theorem StrsAt.mono : Mono StrsAt := fun H H' a b s h => s _ _ h
theorem cut_refs {β : Type} {R : Addr → β → Prop} {as : List Addr} {bs : List β} (h : Paired R as bs) (lo hi : Option Int) : ∃ (as' : List Addr) (bs' : List β), cutV (as.map V.ref) lo hi = as'.map V.ref ∧ Paired R as' bs' ∧ (∀ b ∈ bs', b ∈ bs) ∧ bs'.length ≤ bs.length := by
  refine ⟨(as.drop (HT.sIx (as.map V.ref).length 0 lo)).take (HT.sIx (as.map V.ref).length (as.map V.ref).length hi - HT.sIx (as.map V.ref).length 0 lo), _, ?_, Paired_take _ (Paired_drop _ h), fun b hb => List.mem_of_mem_drop (List.mem_of_mem_take hb), by rw [List.length_take, List.length_drop]; omega⟩
  unfold cutV
  rw [List.map_take, List.map_drop]
theorem ndo_tup {P : Program} {w : World} {d : Addr} {xs : List (Addr × PlaceK)} {ys : List V} : NDO P w d xs ≠ .tup ys := fun z => by cases z
theorem ndo_lst {P : Program} {w : World} {d : Addr} {xs : List (Addr × PlaceK)} {ys : List V} : NDO P w d xs ≠ .lst ys := fun z => by cases z
theorem nd_tup {P : Program} {w : World} {H : Hp} {d a : Addr} {o : HO} {xs : List (Addr × PlaceK)} {ys : List V} (hd : H d = some (NDO P w d xs)) (h : H a = some (.tup ys)) : upd H d o a = some (.tup ys) := by
  rw [upd_ne (ne_of h hd fun z => ndo_tup z.symm)]
  exact h
theorem nd_lst {P : Program} {w : World} {H : Hp} {d a : Addr} {o : HO} {xs : List (Addr × PlaceK)} {ys : List V} (hd : H d = some (NDO P w d xs)) (h : H a = some (.lst ys)) : upd H d o a = some (.lst ys) := by
  rw [upd_ne (ne_of h hd fun z => ndo_lst z.symm)]
  exact h
theorem nd_place {P : Program} {w : World} {H : Hp} {d a : Addr} {o : HO} {xs : List (Addr × PlaceK)} {k : PlaceK} (hd : H d = some (NDO P w d xs)) (h : PlaceAt H a k) : PlaceAt (upd H d o) a k := by
  obtain ⟨f, p⟩ := k
  cases p with
  | none => exact nd_tup hd h
  | some ss =>
    obtain ⟨t, h1, h2⟩ : ∃ t, H a = some (.tup [.str f, .ref t]) ∧ H t = some (.tup (ss.map V.str)) := h
    exact ⟨t, nd_tup hd h1, nd_tup hd h2⟩
def spPlaces : Sp := fun vs H Q _ => ∃ (t : Addr) (ws : List Want), vs = [.ref t] ∧ WantsAt H t ws ∧ ws.length ≤ 7 ∧ (∀ w ∈ ws, w.2.1.length ≤ 8) ∧ ∀ (la : Addr) (ps : List PlaceK) (H' : Hp), Same H H' → LstOf PlaceAt H' la ps → ps.length ≤ 2000 → (ws = [] → ps = []) → Q (.ref la) H'
/-- the dict as it grows -/
structure FD (P : Program) (w : World) (H : Hp) (d : Addr) (xs : List (Addr × PlaceK)) : Prop where
  d : H d = some (NDO P w d xs)
  p : ∀ x ∈ xs, PlaceAt H x.1 x.2
theorem FD.mono {P : Program} {w : World} {H H' : Hp} {d : Addr} {xs : List (Addr × PlaceK)} (h : FD P w H d xs) (s : Same H H') : FD P w H' d xs := ⟨s _ _ h.d, fun x hx => PlaceAt.mono _ _ _ _ s (h.p x hx)⟩
theorem FD.put {P : Program} {w : World} {H : Hp} {d a : Addr} {xs xs' : List (Addr × PlaceK)} {k : PlaceK} (h : FD P w H d xs) (hk : PlaceAt H a k) (hx : xs' = xs ∨ xs' = xs ++ [(a, k)]) : FD P w (upd H d (NDO P w d xs')) d xs' := ⟨upd_same, fun x hm => nd_place h.d (by
  rcases hx with z | z
  · rw [z] at hm
    exact h.p x hm
  · rw [z] at hm
    rcases List.mem_append.mp hm with y | y
    · exact h.p x y
    · rw [List.mem_singleton.mp y]; exact hk)⟩
section
variable {P : Program} {w : World} {K : PySem.W.Frag} {mg : Str → Option Value} {base : Heap}
theorem ok_places {f : Addr} {fd : FuncData} (F : Fun K "_law_places" "_law_places" s_Lplaces f fd) (B : BT mg) (jo : Cl P w K mg base CX0 1 "_law_joined" ["_law_one", "_law_other"] [] spJoined) : FnOk P w K mg base CX0 2 f fd ["_law_wants_here"] spPlaces := by
  refine F.ok sc_Lplaces (fun vs H Q E h => ?_) (fun cdv A outer s H vs Q E hr h => ?_)
  · obtain ⟨_, _, rfl, _⟩ := h
    rfl
  · obtain ⟨t, ws, rfl, hW, hwl, hws, kk⟩ := h
    have nd := sc_Lplaces.nd
    refine ⟨_, pss_cons (ps_set (i := 1) nd rfl (Or.inl rfl) pe_dnewN)
      (pss_cons (ps_for PassesOwn.never rfl (pi_list (pe_callB (call_sortedD rfl) (by rfl) B.sorted (by decide +kernel) (pa_cons (pe_callTy (call_dictP rfl) (by rfl) B.dict (by decide +kernel) (pa_cons
            (pe_lc (own := [("_law_want", 7)]) (g := gName 7) (tt := tYes) rfl nd (pi_tup (pv 0))
              (blkOk_by (N := ["_law_wants_here", "_law_found", "_law_form", "_law_sets", "_law_own", "_law_some_here", "_law_many", "_law_want", "_law_one_set"]) (sc := defScope s_Lplaces) (by decide +kernel))
              (fun _ _ _ _ _ => pg_name (i := 7) nd rfl (Or.inl rfl)) (fun _ _ _ _ _ => pts_nil) (fun _ _ _ _ _ => pe_tup (pa_cons (pe_ix (ix_tupK K) (pv 7) pe_int (fun _ _ => rfl)) (pa_cons pe_bl pa_nil)))) pa_nil)) pa_nil)))
          (pg_name (i := 2) nd rfl (Or.inl rfl))
        (pss_cons (ps_nput hr.units (pv 1) (pe_tup (pa_cons (pv 2) (pa_cons pe_non pa_nil))) pe_bl)
        (pss_cons (ps_set (i := 3) nd rfl (Or.inl rfl) (pe_lst (pa_cons (pe_tup pa_nil) pa_nil)))
        (pss_cons (ps_for PassesOwn.never rfl (pi_tup (pv 0)) (pg_tup rfl (pgs_cons (pg_name (i := 4) nd rfl (Or.inl rfl)) (pgs_cons (pg_name (i := 5) nd rfl (Or.inr rfl)) (pgs_cons (pg_name (i := 6) nd rfl (Or.inl rfl)) pgs_nil))))
          (pss_one (ps_if (PW.pt (pw_and (pt_cmpR op_eq (pv 4) (pv 2) (nomark _)) (pw_and1 (pt_cmpR (op_neD hr.units) (pv 5) (pe_tup pa_nil) (nomark _)))))
            (pss_one (ps_set (i := 3) nd rfl (Or.inl rfl) (pe_op op_cat (pv 3)
              (pe_lc (own := [("_law_one_set", 8)]) (g := gName 8) (tt := tYes) rfl nd (pi_list (pv 3))
                (blkOk_by (N := ["_law_wants_here", "_law_found", "_law_form", "_law_sets", "_law_own", "_law_some_here", "_law_many", "_law_want", "_law_one_set"]) (sc := defScope s_Lplaces) (by decide +kernel))
                (fun _ _ _ _ _ => pg_name (i := 8) nd rfl (Or.inl rfl)) (fun _ _ _ _ _ => pts_nil) (fun _ _ _ _ _ => pe_k jo hr rfl pass0 (pa_cons (pv 8) (pa_cons (pv 5) pa_nil))))))) pss_nil)))
        (pss_one (ps_for PassesOwn.never rfl (pi_list (pe_slice sl_list (pv 3) (po_some pe_int) po_none)) (pg_name (i := 5) nd rfl (Or.inr rfl))
          (pss_one (ps_nput hr.units (pv 1) (pe_tup (pa_cons (pv 2) (pa_cons (pv 5) pa_nil))) pe_bl))))))))
      (pss_one (ps_ret (pe_callTy (cr_listN rfl) (by rfl) B.list (by decide +kernel) (pa_cons (pv 1) pa_nil))))), ?_⟩
    intro d hd hsys
    have s1 := same_new (o := NDO P w d []) hd
    obtain ⟨as, hT, hP⟩ := id hW
    refine ⟨_, rfl, t, rfl, ⟨_, SqT.of (s1 _ _ hT)⟩, fun D hD => ?_⟩
    refine lc_tup (K := K) (a := t) (xs := as.map V.ref) (fun i H2 => Same (upd H d (NDO P w d [])) H2 ∧ ∃ bs : List Addr, H2 D = some (.lst (bs.map V.ref)) ∧ Paired (WTAt H2) bs ((ws.take i).map (·.1)))
      ⟨same_new hD, [], upd_same, .nil⟩ (fun i H2 _ ⟨s2, _⟩ => SqT.of (s2 _ _ (s1 _ _ hT))) ?_ ?_
    · rintro i y H2 hi ⟨s2, bs, hbs, hbP⟩
      obtain ⟨ra, wt, g1, g2, rfl, g3⟩ := pget hP hi
      have hil : i < ws.length := (List.getElem?_eq_some_iff.mp g2).1
      obtain ⟨ta, hw1, hw2, hw3⟩ := WantAt.mono _ _ _ _ (s1.trans s2) g3
      refine ⟨rfl, _, rfl, ra, _, 0, _, rfl, rfl, SqT.of hw1, rfl, (by show 2 ≤ sizeLine; decide), fun p hp => ?_⟩
      have s3 := same_new (o := .tup [.str wt.1, .bl true]) hp
      refine ⟨_, s3 _ _ hbs, by rw [List.length_map, hbP.length, List.length_map, List.length_take, sizeLine_eq]; omega, same_put (s2.trans s3) hD, bs ++ [p], by rw [upd_same, List.map_append]; rfl, ?_⟩
      rw [take_snoc g2, List.map_append]
      exact Paired_snoc (Paired_mono (fun a x hx => lst_tup (s3 _ _ hbs) (s3 _ _ hx)) hbP) (lst_tup (s3 _ _ hbs) upd_same)
    · rintro H2 ⟨s2, bs, hbs, hbP⟩
      rw [List.length_map, hP.length, List.take_length] at hbP
      have hkv := wt_pairs (K := K) hbP
      refine ⟨D, bs, _, rfl, SqL.of hbs, hkv, fun d2 hd2 => ?_⟩
      have s3 := same_new (o := .dK (mergeK [] ((ws.map (·.1)).map fun s => ((Sum.inr s : Key), V.bl true)))) hd2
      obtain ⟨ks, e1, e2⟩ := TK.merge (ws := ws.map (·.1)) (kvs := []) (n := 0) ⟨[], rfl, Nat.le_refl _⟩
      rw [Nat.zero_add, List.length_map] at e2
      refine ⟨d2, _, ks, rfl, .inl upd_same, e1, by omega, fun zs p hperm _ hp => ?_⟩
      have s4 := same_new (o := .lst (zs.map V.str)) hp
      have hzl := hperm.length_eq
      have sA := (s2.trans s3).trans s4
      have FD0 : FD P w (upd (upd H2 d2 (.dK (mergeK [] ((ws.map (·.1)).map fun s => ((Sum.inr s : Key), V.bl true))))) p (.lst (zs.map V.str))) d [] := ⟨sA _ _ upd_same, fun x hx => by cases hx⟩
      refine ⟨p, rfl, ⟨_, SqL.of upd_same⟩, for_list (K := K) (a := p) (xs := zs.map V.str) (fun i σ H5 => ∃ (xs : List (Addr × PlaceK)) (a b c e g : Option V), σ = [some (.ref t), some (.ref d), a, b, c, e, g, none, none] ∧ Same H H5 ∧ FD P w H5 d xs ∧ H5 p = some (.lst (zs.map V.str)) ∧ xs.length ≤ 200 * i)
        ⟨[], none, none, none, none, none, rfl, s1.trans sA, FD0, upd_same, Nat.le_refl _⟩ (fun i σ H5 _ ⟨_, _, _, _, _, _, _, _, _, z, _⟩ => SqL.of z) ?_ ?_⟩
      · rintro i y σ H5 hi ⟨xs, a, b, c, e, g, rfl, s5, F5, hp5, hxl⟩
        rw [List.getElem?_map, Option.map_eq_some_iff] at hi
        obtain ⟨fm, hfm, rfl⟩ := hi
        have hil : i < zs.length := (List.getElem?_eq_some_iff.mp hfm).1
        refine ⟨_, rfl, _, rfl, (by show 2 ≤ sizeLine; decide), fun q hq => ?_⟩
        have s6 := same_new (o := .tup [.str fm, .non]) hq
        have F6 := F5.mono s6
        refine ⟨d, q, xs, (fm, none), rfl, rfl, rfl, F6.d, upd_same, F6.p, by rw [sizeLine_eq]; omega, fun xs' hx' => ?_⟩
        generalize hN : upd (upd H5 q (.tup [.str fm, .non])) d (NDO _ _ d xs') = H7
        have F7 : FD P w H7 d xs' := by
          rw [← hN]
          exact F6.put (k := (fm, none)) upd_same hx'
        have s7 : Same H H7 := by
          rw [← hN]
          exact same_put (s5.trans s6) hd
        have hp7 : H7 p = some (.lst (zs.map V.str)) := by
          rw [← hN]
          exact nd_lst F6.d (s6 _ _ hp5)
        have hxl' : xs'.length ≤ 200 * i + 1 := by
          rcases hx' with z | z
          · rw [z]; omega
          · rw [z, List.length_append]; show xs.length + 1 ≤ _; omega
        refine ⟨(by show 0 ≤ sizeLine; decide), fun z hz => ?_⟩
        have g1 := same_new (o := .tup []) hz
        refine ⟨(by show 1 ≤ sizeLine; decide), fun l0 hl0 => ?_⟩
        have g2 := same_new (o := .lst [.ref z]) hl0
        have g12 := g1.trans g2
        -- the sets
        refine ⟨_, rfl, t, rfl, ⟨_, SqT.of (g12 _ _ (s7 _ _ hT))⟩, for_tup (K := K) (a := t) (xs := as.map V.ref) (fun j σ H8 => ∃ (sl : Addr) (sas : List Addr) (sets : List (List Str)) (c e g : Option V), σ = [some (.ref t), some (.ref d), some (.str fm), some (.ref sl), c, e, g, none, none] ∧ Same H7 H8 ∧ H8 sl = some (.lst (sas.map V.ref)) ∧ Paired (StrsAt H8) sas sets ∧ sets.length ≤ 2 ^ j ∧ ∀ s ∈ sets, s.length ≤ 8 * j)
          ⟨l0, [z], [[]], _, _, _, rfl, g12, upd_same, .cons (g2 _ _ upd_same) .nil, Nat.le_refl _, (fun s hs => by rw [List.mem_singleton.mp hs]; exact Nat.le_refl _)⟩ (fun j σ H8 _ ⟨_, _, _, _, _, _, _, s8, _⟩ => SqT.of (s8 _ _ (s7 _ _ hT))) ?_ ?_⟩
        · rintro j y σ H8 hj ⟨sl, sas, sets, c, e, g, rfl, s8, hsl, hsP, hs2, hs8⟩
          obtain ⟨ra, wt, r1, r2, rfl, r3⟩ := pget hP hj
          have hjl : j < ws.length := (List.getElem?_eq_some_iff.mp r2).1
          have s78 := s7.trans s8
          obtain ⟨ta, hw1, hw2, hw3⟩ := WantAt.mono _ _ _ _ s78 r3
          have hwsl := hws wt (List.mem_of_getElem? r2)
          have hpow : 2 ^ j ≤ 64 := by
            have h1 : (2 : Nat) ^ j ≤ 2 ^ 6 := Nat.pow_le_pow_right (by decide) (by omega)
            have h2 : (2 : Nat) ^ 6 = 64 := by decide
            omega
          refine ⟨ra, _, rfl, SqT.of hw1, rfl, _, _, rfl, _, _, rfl, _, _, rfl, rfl, ?_⟩
          refine ⟨_, rfl, _, rfl, rfl, _, rfl, ?_⟩
          refine ite2 (fun _ => ?_) (fun _ => ?_)
          · refine ⟨_, rfl, (by show 0 ≤ sizeLine; decide), fun z2 hz2 => ?_⟩
            have g3 := same_new (o := .tup []) hz2
            refine ⟨_, _, .tup (SqT.of (g3 _ _ hw2)) (strs_dp wt.2.1), .tup (SqT.of upd_same) .nil, shaped_strs hw3.2, rfl, _, rfl, ?_⟩
            refine ite2 (fun _ => ?_) (fun _ => ?_)
            · refine ⟨_, rfl, _, rfl, sl, rfl, ⟨_, SqL.of (g3 _ _ hsl)⟩, fun D2 hD2 => ?_⟩
              refine lc_list (K := K) (a := sl) (xs := sas.map V.ref) (fun i2 H9 => Same (upd H8 z2 (.tup [])) H9 ∧ ∃ (bs : List Addr) (made : List (List Str)), H9 D2 = some (.lst (bs.map V.ref)) ∧ Paired (StrsAt H9) bs made ∧ made.length = i2 ∧ ∀ s ∈ made, s.length ≤ 8 * (j + 1))
                ⟨same_new hD2, [], [], upd_same, .nil, rfl, (fun s hs => by cases hs)⟩ (fun i2 H9 _ ⟨s9, _⟩ => SqL.of (s9 _ _ (g3 _ _ hsl))) ?_ ?_
              · rintro i2 y2 H9 hi2 ⟨s9, bs, made, hb9, hbP9, hml, hmm⟩
                obtain ⟨oa, os, q1, q2, rfl, q3⟩ := pget hsP hi2
                have hol := hs8 os (List.mem_of_getElem? q2)
                have hi2l : i2 < sets.length := (List.getElem?_eq_some_iff.mp q2).1
                refine ⟨rfl, _, rfl, _, rfl, oa, ta, os, wt.2.1, rfl, s9 _ _ (g3 _ _ q3), s9 _ _ (g3 _ _ hw2), by omega, fun tt zz H10 s10 htt hzz => ?_⟩
                refine ⟨_, s10 _ _ hb9, by rw [List.length_map, hbP9.length, sizeLine_eq]; omega, same_put (s9.trans s10) hD2, bs ++ [tt], made ++ [zz], by rw [upd_same, List.map_append]; rfl, Paired_snoc (Paired_mono (fun a x hx => lst_tup (s10 _ _ hb9) (s10 _ _ hx)) hbP9) (lst_tup (s10 _ _ hb9) htt), by rw [List.length_append]; show made.length + 1 = i2 + 1; omega, fun s hs => ?_⟩
                rcases List.mem_append.mp hs with y | y
                · exact hmm s y
                · rw [List.mem_singleton.mp y]; omega
              · rintro H9 ⟨s9, bs, made, hb9, hbP9, hml, hmm⟩
                rw [List.length_map, hsP.length] at hml
                refine ⟨sl, D2, _, _, rfl, rfl, s9 _ _ (g3 _ _ hsl), hb9, by rw [List.length_map, List.length_map, hsP.length, hbP9.length, sizeLine_eq]; omega, fun nl hnl => ?_⟩
                have s10 := same_new (o := .lst (sas.map V.ref ++ bs.map V.ref)) hnl
                have s810 := (g3.trans s9).trans s10
                refine ⟨nl, sas ++ bs, sets ++ made, _, _, _, rfl, s8.trans s810, by rw [upd_same, List.map_append], Paired_app (Paired_mono (fun a x hx => s10 _ _ hx) hbP9) (Paired_mono (fun a x hx => s810 _ _ hx) hsP), by rw [List.length_append, Nat.pow_succ]; omega, fun s hs => ?_⟩
                rcases List.mem_append.mp hs with y | y
                · have := hs8 s y; omega
                · exact hmm s y
            · exact ⟨sl, sas, sets, _, _, _, rfl, s8.trans g3, g3 _ _ hsl, Paired_mono (fun a x hx => g3 _ _ hx) hsP, by rw [Nat.pow_succ]; omega, fun s hs => by have := hs8 s hs; omega⟩
          · exact ⟨sl, sas, sets, _, _, _, rfl, s8, hsl, hsP, by rw [Nat.pow_succ]; omega, fun s hs => by have := hs8 s hs; omega⟩
        · rintro σ H8 ⟨sl, sas, sets, c, e, g, rfl, s8, hsl, hsP, hs2, hs8⟩
          rw [List.length_map, hP.length] at hs2 hs8
          have hpow : 2 ^ ws.length ≤ 128 := by
            have h1 : (2 : Nat) ^ ws.length ≤ 2 ^ 7 := Nat.pow_le_pow_right (by decide) (by omega)
            have h2 : (2 : Nat) ^ 7 = 128 := by decide
            omega
          have F8 := F7.mono s8
          have hp8 := s8 _ _ hp7
          refine ⟨_, rfl, _, rfl, sl, _, rfl, SqL.of hsl, fun cl hcl => ?_⟩
          obtain ⟨cas, cbs, ce, cP, cin, clen⟩ := cut_refs hsP (some 1) none
          rw [ce]
          have s9 := same_new (o := .lst (cas.map V.ref)) hcl
          refine ⟨cl, rfl, ⟨_, SqL.of upd_same⟩, for_list (K := K) (a := cl) (xs := cas.map V.ref) (fun j σ H10 => ∃ (xs : List (Addr × PlaceK)) (c e g : Option V), σ = [some (.ref t), some (.ref d), some (.str fm), some (.ref sl), c, e, g, none, none] ∧ Same H H10 ∧ FD P w H10 d xs ∧ H10 p = some (.lst (zs.map V.str)) ∧ H10 cl = some (.lst (cas.map V.ref)) ∧ Paired (StrsAt H10) cas cbs ∧ xs.length ≤ 200 * i + 1 + j)
            ⟨xs', c, e, g, rfl, (s7.trans s8).trans s9, F8.mono s9, s9 _ _ hp8, upd_same, Paired_mono (fun a x hx => s9 _ _ hx) cP, hxl'⟩ (fun j σ H10 _ ⟨_, _, _, _, _, _, _, _, z, _⟩ => SqL.of z) ?_ ?_⟩
          · rintro j y σ H10 hj ⟨xs, c, e, g, rfl, s10, F10, hp10, hcl10, hcP10, hxl10⟩
            obtain ⟨oa, os, q1, q2, rfl, q3⟩ := pget hcP10 hj
            have hjl : j < cbs.length := (List.getElem?_eq_some_iff.mp q2).1
            refine ⟨_, rfl, _, rfl, _, rfl, (by show 2 ≤ sizeLine; decide), fun q hq => ?_⟩
            have s11 := same_new (o := .tup [.str fm, .ref oa]) hq
            have F11 := F10.mono s11
            have hpl : PlaceAt (upd H10 q (.tup [.str fm, .ref oa])) q (fm, some os) := ⟨oa, upd_same, s11 _ _ q3⟩
            refine ⟨d, q, xs, (fm, some os), rfl, rfl, rfl, F11.d, hpl, F11.p, by rw [sizeLine_eq]; omega, fun xs2 hx2 => ?_⟩
            refine ⟨xs2, _, _, _, rfl, same_put (s10.trans s11) hd, F11.put hpl hx2, nd_lst F11.d (s11 _ _ hp10), nd_lst F11.d (s11 _ _ hcl10), Paired_mono (fun a x hx => nd_tup F11.d (s11 _ _ hx)) hcP10, ?_⟩
            rcases hx2 with z | z
            · rw [z]; omega
            · rw [z, List.length_append]; show xs.length + 1 ≤ _; omega
          · rintro σ H10 ⟨xs, c, e, g, rfl, s10, F10, hp10, hcl10, hcP10, hxl10⟩
            rw [List.length_map, hcP10.length] at hxl10
            exact ⟨xs, _, _, _, _, _, rfl, s10, F10, hp10, by omega⟩
      · rintro σ H5 ⟨xs, a, b, c, e, g, rfl, s5, F5, hp5, hxl⟩
        rw [List.length_map] at hxl
        refine ⟨_, rfl, d, xs, rfl, hsys, F5.d, by rw [sizeLine_eq]; omega, fun la hla => ?_⟩
        have s6 := same_new (o := .lst (xs.map fun x => V.ref x.1)) hla
        have hps : ∀ l : List (Addr × PlaceK), (∀ x ∈ l, PlaceAt H5 x.1 x.2) → Paired (PlaceAt H5) (l.map (·.1)) (l.map (·.2)) := fun l => by
          induction l with
          | nil => intro _; exact .nil
          | cons x r ih => intro h; exact .cons (h x List.mem_cons_self) (ih fun y hy => h y (List.mem_cons_of_mem _ hy))
        refine kk la (xs.map (·.2)) _ (s5.trans s6) ⟨xs.map (·.1), by rw [upd_same, List.map_map]; rfl, Paired_mono (fun a x hx => PlaceAt.mono _ _ _ _ s6 hx) (hps xs F5.p)⟩ (by rw [List.length_map]; omega) fun e0 => ?_
        have : zs.length = 0 := by rw [hzl]; rw [e0] at e2; have := Nat.le_zero.mp e2; omega
        have : xs.length = 0 := by omega
        rw [List.length_eq_zero_iff.mp this]
        rfl
end
end K70

end
section
set_option maxRecDepth 100000
set_option maxHeartbeats 4000000
/-! _law_tables, _law_never, _law_fewest. -/
namespace K70
open PySem PySem.Spec PyProof.Rows L2 K70M
abbrev Tab := Int × List Int
def TabAt (H : Hp) (a : Addr) (t : Tab) : Prop := ∃ l, H a = some (.tup [.int t.1, .ref l]) ∧ H l = some (.lst (t.2.map V.int))
theorem TabAt.mono : Mono TabAt := fun H H' a b s ⟨l, h1, h2⟩ => ⟨l, s _ _ h1, s _ _ h2⟩
/-- .. the inner list another than fo -/
def TabN (fo : Addr) (H : Hp) (a : Addr) (t : Tab) : Prop := ∃ l, l ≠ fo ∧ H a = some (.tup [.int t.1, .ref l]) ∧ H l = some (.lst (t.2.map V.int))
theorem TabN.mono {fo : Addr} : Mono (TabN fo) := fun H H' a b s ⟨l, h0, h1, h2⟩ => ⟨l, h0, s _ _ h1, s _ _ h2⟩
theorem TabN.keep {fo : Addr} {H : Hp} {a : Addr} {t : Tab} {o : HO} {xs : List V} (hf : H fo = some (.lst xs)) (h : TabN fo H a t) : TabN fo (upd H fo o) a t := by
  obtain ⟨l, h0, h1, h2⟩ := h
  exact ⟨l, h0, lst_tup hf h1, by rw [upd_ne h0]; exact h2⟩
abbrev KitsAt := LstOf RowsAt
structure Scn (H : Hp) (r k wa : Addr) (rows : List Row) (ks : List (List Row)) (ws : List Want) : Prop where
  r : RowsAt H r rows
  rl : rows.length ≤ 1000
  k : KitsAt H k ks
  kl : ks.length ≤ 4
  kr : ∀ x ∈ ks, x.length ≤ 1000
  w : WantsAt H wa ws
  wl : ws.length ≤ 7
  ws : ∀ w ∈ ws, w.2.1.length ≤ 8
theorem Scn.mono {H H' : Hp} {r k wa : Addr} {rows : List Row} {ks : List (List Row)} {ws : List Want} (h : Scn H r k wa rows ks ws) (s : Same H H') : Scn H' r k wa rows ks ws := ⟨RowsAt.mono _ _ _ _ s h.r, h.rl, LstOf.mono RowsAt.mono s h.k, h.kl, h.kr, WantsAt.mono _ _ _ _ s h.w, h.wl, h.ws⟩
def spTables : Sp := fun vs H Q _ => ∃ (r k wa : Addr) (rows : List Row) (ks : List (List Row)) (ws : List Want), vs = [.ref r, .ref k, .ref wa] ∧ Scn H r k wa rows ks ws ∧ ∀ (la : Addr) (tabs : List Tab) (H' : Hp), Same H H' → LstOf TabAt H' la tabs → (∀ t ∈ tabs, t.2.length = ks.length) → tabs.length ≤ 2000 → (ws = [] → tabs = []) → Q (.ref la) H'
def spLNever : Sp := fun vs H Q _ => ∃ (r k wa : Addr) (rows : List Row) (ks : List (List Row)) (ws : List Want), vs = [.ref r, .ref k, .ref wa] ∧ Scn H r k wa rows ks ws ∧ ∀ (b : Bool) (H' : Hp), Same H H' → (ws = [] → b = false) → Q (.bl b) H'
def spLFewest : Sp := fun vs H Q _ => ∃ (r k wa : Addr) (rows : List Row) (ks : List (List Row)) (ws : List Want), vs = [.ref r, .ref k, .ref wa, .int 8] ∧ Scn H r k wa rows ks ws ∧ (∀ (x : Int) (H' : Hp), Same H H' → Q (.int x) H') ∧ (∀ (H' : Hp), Same H H' → ws ≠ [] → Q .non H')
section
variable {P : Program} {w : World} {K : PySem.W.Frag} {mg : Str → Option Value} {base : Heap}
theorem ok_tables {f : Addr} {fd : FuncData} (F : Fun K "_law_tables" "_law_tables" s_Ltables f fd) (B : BT mg) (pl : Cl P w K mg base CX0 2 "_law_places" ["_law_wants_here"] [] spPlaces) (wa : Cl P w K mg base CX0 1 "_law_wanted" ["_law_wants_here", "_law_form", "_law_shades"] [] spLWanted) (ha : Cl P w K mg base CX0 1 "_law_has" ["_law_rows_here", "_law_form", "_law_shades"] [] spLHas) :
    FnOk P w K mg base CX0 3 f fd ["_law_rows_here", "_law_kits", "_law_wants_here"] spTables := by
  refine F.ok sc_Ltables (fun vs H Q E h => ?_) (fun cdv A outer s H vs Q E hr h => ?_)
  · obtain ⟨_, _, _, _, _, _, rfl, _⟩ := h
    rfl
  · obtain ⟨r, k, wad, rows, ks, ws, rfl, S, kk⟩ := h
    have nd := sc_Ltables.nd
    have hr1 : Room 1 _ := hr.mono (by decide)
    refine ⟨_, pss_cons (ps_set (i := 3) nd rfl (Or.inl rfl) (pe_lst pa_nil))
      (pss_cons (ps_for PassesOwn.never rfl (pi_list (pe_k pl hr rfl pass0 (pa_cons (pv 2) pa_nil))) (pg_tup rfl (pgs_cons (pg_name (i := 4) nd rfl (Or.inr rfl)) (pgs_cons (pg_name (i := 5) nd rfl (Or.inr rfl)) pgs_nil)))
        (pss_cons (ps_set (i := 6) nd rfl (Or.inl rfl) (pe_op op_sub (pe_k wa hr1 rfl pass0 (pa_cons (pv 2) (pa_cons (pv 4) (pa_cons (pv 5) pa_nil)))) (pe_k ha hr1 rfl pass0 (pa_cons (pv 0) (pa_cons (pv 4) (pa_cons (pv 5) pa_nil))))))
        (pss_one (ps_if (pt_cmpR op_gt (pv 6) pe_int (nomark _))
          (pss_one (ps_expr (pe_bm PySem.F.plainAttrs_list PySem.F.slot_list_append PySem.F.type_list_append mt_append (pv 3) (pa_cons (pe_tup (pa_cons (pv 6) (pa_cons
            (pe_lc (own := [("_law_kit", 7)]) (g := gName 7) (tt := tYes) rfl nd (pi_list (pv 1))
              (blkOk_by (N := ["_law_rows_here", "_law_kits", "_law_wants_here", "_law_found", "_law_form", "_law_shades", "_law_lack", "_law_kit"]) (sc := defScope s_Ltables) (by decide +kernel))
              (fun _ _ _ _ _ => pg_name (i := 7) nd rfl (Or.inl rfl)) (fun _ _ _ _ _ => pts_nil) (fun _ _ _ _ _ => pe_k ha hr1 rfl pass0 (pa_cons (pv 7) (pa_cons (pv 4) (pa_cons (pv 5) pa_nil))))) pa_nil))) pa_nil)))) pss_nil))))
      (pss_one (ps_ret (pv 3)))), ?_⟩
    refine ⟨(by show 0 ≤ sizeLine; decide), fun fo hfo => ?_⟩
    have s1 := same_new (o := .lst []) hfo
    refine ⟨_, rfl, wad, ws, rfl, WantsAt.mono _ _ _ _ s1 S.w, S.wl, S.ws, fun la ps H2 s2 hla hpl hz => ?_⟩
    obtain ⟨las, hL, hP⟩ := hla
    have s12 := s1.trans s2
    have hf2 := s2 _ _ (upd_same (H := H) (a := fo) (o := .lst []))
    refine ⟨la, rfl, ⟨_, SqL.of hL⟩, for_list (K := K) (a := la) (xs := las.map V.ref) (fun i σ H3 => ∃ (as : List Addr) (tabs : List Tab) (a b c : Option V), σ = [some (.ref r), some (.ref k), some (.ref wad), some (.ref fo), a, b, c, none] ∧ Same H H3 ∧ H3 la = some (.lst (las.map V.ref)) ∧ Paired (PlaceAt H3) las ps ∧ H3 fo = some (.lst (as.map V.ref)) ∧ Paired (TabN fo H3) as tabs ∧ (∀ t ∈ tabs, t.2.length = ks.length) ∧ tabs.length ≤ i)
      ⟨[], [], none, none, none, rfl, s12, hL, hP, hf2, .nil, (fun t ht => by cases ht), Nat.le_refl _⟩ (fun i σ H3 _ ⟨_, _, _, _, _, _, _, z, _⟩ => SqL.of z) ?_ ?_⟩
    · rintro i y σ H3 hi ⟨as, tabs, a, b, c, rfl, s3, hL3, hP3, hf3, hT3, ht1, ht2⟩
      obtain ⟨pa, plc, g1, g2, rfl, g3⟩ := pget hP3 hi
      have hil : i < ps.length := (List.getElem?_eq_some_iff.mp g2).1
      obtain ⟨v, hpa, hv⟩ := g3.tup
      have nlf : la ≠ fo := by
        rintro rfl
        rw [hf2] at hL
        have e1 : ([] : List V) = las.map V.ref := by
          have := Option.some.inj hL
          cases las with
          | nil => rfl
          | cons x r => cases this
        have e2 : las = [] := List.map_eq_nil_iff.mp e1.symm
        have e3 : ps.length = 0 := by rw [← hP.length, e2]; rfl
        omega
      refine ⟨pa, _, rfl, SqT.of hpa, rfl, _, _, rfl, _, _, rfl, rfl, ?_⟩
      refine ⟨_, rfl, _, rfl, _, rfl, wad, ws, plc.1, v, plc.2, rfl, WantsAt.mono _ _ _ _ s3 S.w, (fun w hw => by have := S.ws w hw; omega), hv, fun x H4 s4 => ?_⟩
      have s34 := s3.trans s4
      refine ⟨_, rfl, _, rfl, _, rfl, r, rows, plc.1, v, plc.2, rfl, RowsAt.mono _ _ _ _ s34 S.r, S.rl, hv.mono s4, fun x2 H5 s5 => ?_⟩
      have s45 := s4.trans s5
      have s35 := s3.trans s45
      refine ⟨_, _, rfl, rfl, ?_⟩
      refine ⟨_, rfl, _, _, rfl, rfl, _, rfl, ?_⟩
      refine ite2 (fun _ => ?_) (fun _ => ?_)
      · have hf5 := s45 _ _ hf3
        obtain ⟨kas, hK, hKP⟩ := LstOf.mono RowsAt.mono s35 S.k
        refine ⟨_, rfl, .inl ⟨rfl, _, SqL.of hf5⟩, _, rfl, _, rfl, k, rfl, ⟨_, SqL.of hK⟩, fun D hD => ?_⟩
        refine lc_list (K := K) (a := k) (xs := kas.map V.ref) (fun j H6 => Same H5 H6 ∧ ∃ ns : List Int, H6 D = some (.lst (ns.map V.int)) ∧ ns.length = j)
          ⟨same_new hD, [], upd_same, rfl⟩ (fun j H6 _ ⟨s6, _⟩ => SqL.of (s6 _ _ hK)) ?_ ?_
        · rintro j y H6 hj ⟨s6, ns, hns, hnl⟩
          obtain ⟨kad, kr, q1, q2, rfl, q3⟩ := pget hKP hj
          have hjl : j < ks.length := (List.getElem?_eq_some_iff.mp q2).1
          have hkl := S.kl
          refine ⟨rfl, _, rfl, _, rfl, _, rfl, kad, kr, plc.1, v, plc.2, rfl, RowsAt.mono _ _ _ _ s6 q3, S.kr kr (List.mem_of_getElem? q2), hv.mono (s45.trans s6), fun x3 H7 s7 => ?_⟩
          exact ⟨_, s7 _ _ hns, by rw [List.length_map, sizeLine_eq]; omega, same_put (s6.trans s7) hD, ns ++ [x3], by rw [upd_same, List.map_append]; rfl, by rw [List.length_append]; show ns.length + 1 = j + 1; omega⟩
        · rintro H6 ⟨s6, ns, hns, hnl⟩
          rw [List.length_map, hKP.length] at hnl
          refine ⟨(by show 2 ≤ sizeLine; decide), fun q hq => ?_⟩
          have s7 := same_new (o := .tup [.int (x - x2), .ref D]) hq
          have s57 := s6.trans s7
          have hf7 := s57 _ _ hf5
          have hDf : D ≠ fo := (ne_of_none hf5 hD).symm
          have s37 := s45.trans s57
          refine ⟨fo, _, _, rfl, rfl, hf7, by rw [List.length_map, hT3.length, sizeLine_eq]; omega, ?_⟩
          refine ⟨as ++ [q], tabs ++ [(x - x2, ns)], _, _, _, rfl, same_put (s3.trans s37) hfo, by rw [upd_ne nlf]; exact s37 _ _ hL3, Paired_mono (fun a x hx => PlaceAt.keep hf7 (PlaceAt.mono _ _ _ _ s37 hx)) hP3, by rw [upd_same, List.map_append]; rfl, Paired_snoc (Paired_mono (fun a x hx => TabN.keep hf7 (TabN.mono _ _ _ _ s37 hx)) hT3) (TabN.keep hf7 ⟨D, hDf, upd_same, s7 _ _ hns⟩), fun t ht => ?_, by rw [List.length_append]; show tabs.length + 1 ≤ i + 1; omega⟩
          rcases List.mem_append.mp ht with z | z
          · exact ht1 t z
          · rw [List.mem_singleton.mp z]; exact hnl
      · exact ⟨as, tabs, _, _, _, rfl, s35, s45 _ _ hL3, Paired_mono (fun a x hx => PlaceAt.mono _ _ _ _ s45 hx) hP3, s45 _ _ hf3, Paired_mono (fun a x hx => TabN.mono _ _ _ _ s45 hx) hT3, ht1, by omega⟩
    · rintro σ H3 ⟨as, tabs, a, b, c, rfl, s3, hL3, hP3, hf3, hT3, ht1, ht2⟩
      rw [List.length_map, hP3.length] at ht2
      refine ⟨_, rfl, kk fo tabs H3 s3 ⟨as, hf3, Paired_mono (fun a x ⟨l, _, h1, h2⟩ => ⟨l, h1, h2⟩) hT3⟩ ht1 (by omega) fun e0 => ?_⟩
      have := hz e0
      rw [this] at ht2
      exact List.length_eq_zero_iff.mp (Nat.le_zero.mp ht2)
theorem ok_Lnever {f : Addr} {fd : FuncData} (F : Fun K "_law_never" "_law_never" s_Lnever f fd) (B : BT mg) (ta : Cl P w K mg base CX0 3 "_law_tables" ["_law_rows_here", "_law_kits", "_law_wants_here"] [] spTables) :
    FnOk P w K mg base CX0 4 f fd ["_law_rows_here", "_law_kits", "_law_wants_here"] spLNever := by
  refine F.ok sc_Lnever (fun vs H Q E h => ?_) (fun cdv A outer s H vs Q E hr h => ?_)
  · obtain ⟨_, _, _, _, _, _, rfl, _⟩ := h
    rfl
  · obtain ⟨r, k, wad, rows, ks, ws, rfl, S, kk⟩ := h
    have nd := sc_Lnever.nd
    refine ⟨_, pss_one (ps_ret (pe_cmpR (op_neD hr.units)
      (pe_lc (own := [("_law_lack", 3), ("_law_own", 4)]) (g := gTup K 2 (gCons (gName 3) (gCons (gName 4) gNil))) (tt := tTest (tOp rEq (tCB (rSum K) (tCons (tVar 4) tNil)) (tC (.int 0)))) rfl nd (pi_list (pe_k ta hr rfl pass0 (pa_cons (pv 0) (pa_cons (pv 1) (pa_cons (pv 2) pa_nil)))))
        (blkOk_by (N := ["_law_rows_here", "_law_kits", "_law_wants_here", "_law_lack", "_law_own"]) (sc := defScope s_Lnever) (by decide +kernel))
        (fun _ _ _ _ _ => pg_tup rfl (pgs_cons (pg_name (i := 3) nd rfl (Or.inl rfl)) (pgs_cons (pg_name (i := 4) nd rfl (Or.inl rfl)) pgs_nil)))
        (fun _ _ _ _ _ => pts_one (pt_cmpR op_eq (pe_callB (cr_sum rfl) (by rfl) B.sum (by decide +kernel) (pa_cons (pv 4) pa_nil)) pe_int (nomark _))) (fun _ _ _ _ _ => pv 3))
      (pe_lst pa_nil) (nomark _))), ?_⟩
    refine ⟨_, rfl, _, rfl, _, rfl, r, k, wad, rows, ks, ws, rfl, S, fun la tabs H1 s1 hla ht1 ht2 hz => ?_⟩
    obtain ⟨las, hL, hP⟩ := hla
    refine ⟨la, rfl, ⟨_, SqL.of hL⟩, fun D hD => ?_⟩
    refine lc_list (K := K) (a := la) (xs := las.map V.ref) (fun i H2 => Same H1 H2 ∧ ∃ ns : List Int, H2 D = some (.lst (ns.map V.int)) ∧ ns.length ≤ i)
      ⟨same_new hD, [], upd_same, Nat.le_refl _⟩ (fun i H2 _ ⟨s2, _⟩ => SqL.of (s2 _ _ hL)) ?_ ?_
    · rintro i y H2 hi ⟨s2, ns, hns, hnl⟩
      obtain ⟨pa, t, g1, g2, rfl, g3⟩ := pget hP hi
      have hil : i < tabs.length := (List.getElem?_eq_some_iff.mp g2).1
      obtain ⟨l, h1, h2⟩ := TabAt.mono _ _ _ _ s2 g3
      refine ⟨pa, _, rfl, SqT.of h1, rfl, _, _, rfl, _, _, rfl, rfl, rfl, _, rfl, l, t.2, rfl, SqL.of h2, rfl, _, rfl, ?_⟩
      refine ite2 (fun _ => ?_) (fun _ => ?_)
      · exact ⟨_, rfl, _, hns, by rw [List.length_map, sizeLine_eq]; omega, same_put s2 hD, ns ++ [t.1], by rw [upd_same, List.map_append]; rfl, by rw [List.length_append]; show ns.length + 1 ≤ i + 1; omega⟩
      · exact ⟨s2, ns, hns, by omega⟩
    · rintro H2 ⟨s2, ns, hns, hnl⟩
      rw [List.length_map, hP.length] at hnl
      refine ⟨(by show 0 ≤ sizeLine; decide), fun z hz' => ?_⟩
      have s3 := same_new (o := .lst []) hz'
      refine ⟨_, _, .lst (SqL.of (s3 _ _ hns)) (ints_dp ns), .lst (SqL.of upd_same) .nil, shaped_ints ns, rfl, ?_⟩
      rw [eqv_nilI]
      refine kk _ _ ((s1.trans s2).trans s3) fun e0 => ?_
      have := hz e0
      rw [this] at hnl
      have : ns = [] := List.length_eq_zero_iff.mp (Nat.le_zero.mp hnl)
      rw [this]
      rfl
end
end K70

end
section
set_option maxRecDepth 100000
set_option maxHeartbeats 4000000
/-! _law_fewest. -/
namespace K70
open PySem PySem.Spec PyProof.Rows L2 K70M
theorem lc_zipH {K : PySem.W.Frag} {t1 t2 : Bool} {a b : Addr} {xs ys : List V} {g : TG} {tt : TT} {te : TE} {vs : List Nat} {σ : L2.St} {H : Hp} {D : Addr} {Qd : Hp → Prop} (hl : xs.length = ys.length) (Pv : Nat → Hp → Prop) (h0 : Pv 0 (upd H D (.lst []))) (hq : ∀ i H, Pv i H → SqG K t1 H a xs ∧ SqG K t2 H b ys)
    (hs : ∀ (i : Nat) (x y : V) (T : Addr) (H : Hp), xs[i]? = some x → ys[i]? = some y → Pv i H → H T = none → g (.ref T) (wipe σ vs) (upd H T (.tup [x, y])) fun σ2 H2 => wipe σ2 vs = wipe σ vs ∧ tt σ2 H2 fun c H3 =>
      if c = true then te σ2 H3 fun z H4 => ∃ acc, H4 D = some (.lst acc) ∧ acc.length < sizeLine ∧ Pv (i + 1) (upd H4 D (.lst (acc ++ [z]))) else Pv (i + 1) H3) (hd : ∀ H, Pv xs.length H → Qd H) :
    ∃ W : Nat → Nat → Hp → Prop, (∃ m, W 0 m (upd H D (.lst []))) ∧ ∀ i m H, W i m H →
      ((ItzG K t1 t2 a b).stop i H ∧ Qd H) ∨ ((ItzG K t1 t2 a b).go i H ∧ ∃ Nx : Hp → Prop, (∀ H', Nx H' → ∃ m', m' < m ∧ W (i + 1) m' H') ∧ ∀ x H', (ItzG K t1 t2 a b).yld i H x H' → g x (wipe σ vs) H' fun σ2 H2 => wipe σ2 vs = wipe σ vs ∧ tt σ2 H2 fun b H3 =>
        if b = true then te σ2 H3 fun y H4 => ∃ acc, H4 D = some (.lst acc) ∧ acc.length < sizeLine ∧ Nx (upd H4 D (.lst (acc ++ [y]))) else Nx H3) :=
  lc_zipG (Q := fun _ H => Qd H) hl Pv h0 hq hs hd
section
variable {P : Program} {w : World} {K : PySem.W.Frag} {mg : Str → Option Value} {base : Heap}
theorem ok_Lfewest {f : Addr} {fd : FuncData} (F : Fun K "_law_fewest" "_law_fewest" s_Lfewest f fd) (B : BT mg) (ta : Cl P w K mg base CX0 3 "_law_tables" ["_law_rows_here", "_law_kits", "_law_wants_here"] [] spTables) (su : Cl P w K mg base CX0 1 "_law_sums" ["_law_parts", "_law_total"] [] spLSums) :
    FnOk P w K mg base CX0 4 f fd ["_law_rows_here", "_law_kits", "_law_wants_here", "_law_most_now"] spLFewest := by
  refine F.ok sc_Lfewest (fun vs H Q E h => ?_) (fun cdv A outer s H vs Q E hr h => ?_)
  · obtain ⟨_, _, _, _, _, _, rfl, _⟩ := h
    rfl
  · obtain ⟨r, k, wad, rows, ks, ws, rfl, S, kq, kn⟩ := h
    have nd := sc_Lfewest.nd
    have hr1 : Room 1 _ := hr.mono (by decide)
    refine ⟨_, pss_cons (ps_set (i := 4) nd rfl (Or.inl rfl) (pe_k ta hr rfl pass0 (pa_cons (pv 0) (pa_cons (pv 1) (pa_cons (pv 2) pa_nil)))))
      (pss_cons (ps_for PassesOwn.never rfl (pi_range1 rfl B.range (pa_cons (pe_op op_add (pv 3) pe_int) pa_nil)) (pg_name (i := 5) nd rfl (Or.inl rfl))
        (pss_one (ps_for PassesOwn.never rfl (pi_list (pe_k su hr1 rfl pass0 (pa_cons (pe_callB call_len_seq (by rfl) B.len PySem.boot_len (pa_cons (pv 1) pa_nil)) (pa_cons (pv 5) pa_nil)))) (pg_name (i := 6) nd rfl (Or.inl rfl))
          (pss_cons (ps_set (i := 7) nd rfl (Or.inl rfl) pe_bl)
          (pss_cons (ps_for PassesOwn.never rfl (pi_list (pv 4)) (pg_tup rfl (pgs_cons (pg_name (i := 8) nd rfl (Or.inl rfl)) (pgs_cons (pg_name (i := 9) nd rfl (Or.inl rfl)) pgs_nil)))
            (pss_one (ps_set (i := 7) nd rfl (Or.inl rfl) (pe_or (pv 7) (pe_one (pe_cmpR op_lt (pe_callB (cr_sum rfl) (by rfl) B.sum (by decide +kernel) (pa_cons
              (pe_lc (own := [("_law_a", 10), ("_law_b", 11)]) (g := gTup K 2 (gCons (gName 10) (gCons (gName 11) gNil))) (tt := tYes) rfl nd (pi_zipG (by rfl) B.zip (pa_cons (pv 6) (pa_cons (pv 9) pa_nil)))
                (blkOk_by (N := ["_law_rows_here", "_law_kits", "_law_wants_here", "_law_most_now", "_law_tables_here", "_law_total", "_law_many", "_law_short", "_law_lack", "_law_own", "_law_a", "_law_b"]) (sc := defScope s_Lfewest) (by decide +kernel))
                (fun _ _ _ _ _ => pg_tup rfl (pgs_cons (pg_name (i := 10) nd rfl (Or.inl rfl)) (pgs_cons (pg_name (i := 11) nd rfl (Or.inl rfl)) pgs_nil)))
                (fun _ _ _ _ _ => pts_nil) (fun _ _ _ _ _ => pe_op op_mul (pv 10) (pv 11))) pa_nil)) (pv 8) (nomark _)))))))
          (pss_one (ps_if (pt_not (pt_val (pv 7))) (pss_one (ps_ret (pv 5))) pss_nil)))))))
      (pss_one (ps_ret pe_non))), ?_⟩
    refine ⟨_, rfl, _, rfl, _, rfl, r, k, wad, rows, ks, ws, rfl, S, fun la tabs H1 s1 hla ht1 ht2 hz => ?_⟩
    obtain ⟨las, hL, hP⟩ := hla
    obtain ⟨kas, hK, hKP⟩ := S.k
    refine ⟨_, rfl, _, _, rfl, rfl, _, rfl, by omega, by omega, ?_⟩
    refine for_range (lo := 0) (fun i σ H2 => ∃ (a b c d : Option V), σ = [some (.ref r), some (.ref k), some (.ref wad), some (.int 8), some (.ref la), a, b, c, d, σ.getD 9 none, none, none] ∧ Same H1 H2 ∧ (0 < i → ws ≠ []))
      ⟨none, none, none, none, rfl, Same.refl _, (fun z => by omega)⟩ ?_ ?_
    · rintro i σ H2 hi ⟨a, b, c, d, hσ, s2, hne⟩
      generalize σ.getD 9 none = e at hσ
      subst hσ
      have ei : (0 : Int) + (i : Int) = (i : Int) := by omega
      rw [ei]
      have hi8 : i ≤ 8 := by omega
      have s12 := s1.trans s2
      refine ⟨_, rfl, k, _, rfl, .inl (SqL.of (s12 _ _ hK)), _, rfl, ks.length, i, by rw [List.length_map, hKP.length]; rfl, S.kl, hi8, fun lb ls H3 s3 hlb hls hlz => ?_⟩
      obtain ⟨lbs, hB, hBP⟩ := hlb
      refine ⟨lb, rfl, ⟨_, SqL.of hB⟩, for_list (K := K) (a := lb) (xs := lbs.map V.ref) (fun j σ H4 => ∃ (b c d e : Option V), σ = [some (.ref r), some (.ref k), some (.ref wad), some (.int 8), some (.ref la), some (.int (i : Int)), b, c, d, e, none, none] ∧ Same H3 H4 ∧ (0 < j → ws ≠ []))
        ⟨_, _, _, _, rfl, Same.refl _, (fun z => by omega)⟩ (fun j σ H4 _ ⟨_, _, _, _, _, s4, _⟩ => SqL.of (s4 _ _ hB)) ?_ ?_⟩
      · rintro j y σ H4 hj ⟨b, c, d, e, rfl, s4, hne2⟩
        obtain ⟨ma, l, g1, g2, rfl, g3⟩ := pget hBP hj
        obtain ⟨q1, q2, q3⟩ := hls l (List.mem_of_getElem? g2)
        have s24 := (s2.trans s3).trans s4
        have hl4 : H4 ma = some (.tup (l.map V.int)) := s4 _ _ g3
        refine ⟨_, rfl, la, rfl, ⟨_, SqL.of (s24 _ _ hL)⟩, for_list (K := K) (a := la) (xs := las.map V.ref) (fun m σ H5 => ∃ (cb : Bool) (d e : Option V), σ = [some (.ref r), some (.ref k), some (.ref wad), some (.int 8), some (.ref la), some (.int (i : Int)), some (.ref ma), some (.bl cb), d, e, none, none] ∧ Same H4 H5 ∧ (m = 0 → cb = false))
          ⟨false, _, _, rfl, Same.refl _, fun _ => rfl⟩ (fun m σ H5 _ ⟨_, _, _, _, s5, _⟩ => SqL.of (s5 _ _ (s24 _ _ hL))) ?_ ?_⟩
        · rintro m y σ H5 hm ⟨cb, d, e, rfl, s5, hcb⟩
          obtain ⟨tad, t, r1, r2, rfl, r3⟩ := pget hP hm
          obtain ⟨ol, h1, h2⟩ := TabAt.mono _ _ _ _ (s24.trans s5) r3
          have htl := ht1 t (List.mem_of_getElem? r2)
          refine ⟨tad, _, rfl, SqT.of h1, rfl, _, _, rfl, _, _, rfl, rfl, ?_⟩
          refine ⟨_, rfl, cb, rfl, ?_⟩
          cases cb with
          | true =>
            refine iteT ?_
            exact ⟨true, _, _, rfl, s5, fun z => by omega⟩
          | false =>
            refine iteF ?_
            refine ⟨_, rfl, _, rfl, ma, ol, true, false, l.map V.int, t.2.map V.int, rfl, SqT.of (s5 _ _ hl4), SqL.of h2, fun D hD => ?_⟩
            refine lc_zipH (K := K) (t1 := true) (t2 := false) (xs := l.map V.int) (ys := t.2.map V.int) (by rw [List.length_map, List.length_map]; omega) (fun n H6 => Same H5 H6 ∧ ∃ ns : List Int, H6 D = some (.lst (ns.map V.int)) ∧ ns.length ≤ n)
              ⟨same_new hD, [], upd_same, Nat.le_refl _⟩ (fun n H6 ⟨s6, _⟩ => ⟨SqT.of (s6 _ _ (s5 _ _ hl4)), SqL.of (s6 _ _ h2)⟩) ?_ ?_
            · rintro n x y T1 H6 hx hy ⟨s6, ns, hns, hnl⟩ hT1
              rw [List.getElem?_map, Option.map_eq_some_iff] at hx hy
              obtain ⟨x0, hx0, rfl⟩ := hx
              obtain ⟨y0, hy0, rfl⟩ := hy
              have hnl2 : n < l.length := (List.getElem?_eq_some_iff.mp hx0).1
              have hkl := S.kl
              have b0 := q2 x0 (List.mem_of_getElem? hx0)
              have b1 := N0.le q2 x0 (List.mem_of_getElem? hx0)
              have s7 := same_new (o := .tup [.int x0, .int y0]) hT1
              refine ⟨T1, _, rfl, SqT.of upd_same, rfl, _, _, rfl, _, _, rfl, rfl, rfl, ?_⟩
              refine ⟨_, rfl, _, rfl, _, _, rfl, rfl, .inl ⟨by omega, by omega⟩, ?_⟩
              exact ⟨_, s7 _ _ hns, by rw [List.length_map, sizeLine_eq]; omega, same_put (s6.trans s7) hD, ns ++ [x0 * y0], by rw [upd_same, List.map_append]; rfl, by rw [List.length_append]; show ns.length + 1 ≤ n + 1; omega⟩
            · rintro H6 ⟨s6, ns, hns, hnl⟩
              refine ⟨D, ns, rfl, SqL.of hns, _, rfl, _, _, rfl, rfl, ?_⟩
              exact ⟨_, _, _, rfl, s5.trans s6, fun z => by omega⟩
        · rintro σ H5 ⟨cb, d, e, rfl, s5, hcb⟩
          rw [List.length_map, hP.length] at hcb
          have sAll := ((s1.trans s24).trans s5)
          refine ⟨_, rfl, cb, rfl, ?_⟩
          cases cb with
          | false =>
            refine iteT ?_
            exact ⟨_, rfl, kq _ H5 sAll⟩
          | true =>
            refine iteF ?_
            refine ⟨_, _, _, _, rfl, s4.trans s5, fun _ e0 => ?_⟩
            have := hcb (by rw [hz e0]; rfl)
            cases this
      · rintro σ H4 ⟨b, c, d, e, rfl, s4, hne2⟩
        rw [List.length_map, hBP.length] at hne2
        refine ⟨_, _, _, _, rfl, (s2.trans s3).trans s4, fun _ => ?_⟩
        by_cases hi0 : 0 < i
        · exact hne hi0
        · have : i = 0 := by omega
          have hn := hlz this
          exact hne2 (List.length_pos_iff.mpr hn)
    · rintro σ H2 ⟨a, b, c, d, hσ, s2, hne⟩
      exact kn H2 (s1.trans s2) (hne (by decide))
end
end K70

end
section
set_option maxRecDepth 100000
set_option maxHeartbeats 4000000
/-! Slices of tuples; data; _law_scene, _law_wider. -/
namespace K70
open PySem PySem.Spec PyProof.Rows L2 K70M
theorem tup_drop {β : Type} {R : Hp → Addr → β → Prop} (m : Mono R) {K : PySem.W.Frag} {H : Hp} {a : Addr} {xs : List β} {n : Nat} {Q : VK} (h : TupOf R H a xs) (k : ∀ (r : Addr) (H' : Hp), Same H H' → TupOf R H' r (xs.drop n) → Q (.ref r) H') : rSlA K (.ref a) (some (n : Int)) none H Q := by
  obtain ⟨as, h1, h2⟩ := id h
  have hl := h2.length
  refine ⟨a, as.map V.ref, rfl, SqT.of h1, fun e => ?_, fun _ p hp => ?_⟩
  · rw [HT.sIx_nat, List.length_map] at e
    have hd : xs.drop n = xs := by
      by_cases z : n = 0
      · rw [z]; rfl
      · have : as.length = 0 := by omega
        have : xs = [] := List.length_eq_zero_iff.mp (by omega)
        rw [this]
        simp
    rw [hd] at k
    exact k a H (Same.refl _) h
  · have s := same_new (o := .tup (cutV (as.map V.ref) (some (n : Int)) none)) hp
    refine k p _ s ⟨as.drop n, ?_, Paired_mono (fun x y r => m _ _ _ _ s r) (Paired_drop n h2)⟩
    rw [upd_same]
    unfold cutV
    rw [HT.sIx_nat, HT.sIx_none, List.length_map, ← List.map_drop, ← List.map_take]
    congr 3
    by_cases z : n ≤ as.length
    · rw [Nat.min_eq_left z, List.take_of_length_le (by rw [List.length_drop]; exact Nat.le_refl _)]
    · rw [Nat.min_eq_right (by omega), List.drop_of_length_le (Nat.le_refl _), List.drop_of_length_le (by omega)]
      simp
theorem tup_take {β : Type} {R : Hp → Addr → β → Prop} (m : Mono R) {K : PySem.W.Frag} {H : Hp} {a : Addr} {xs : List β} {n : Nat} {Q : VK} (h : TupOf R H a xs) (k : ∀ (r : Addr) (H' : Hp), Same H H' → TupOf R H' r (xs.take n) → Q (.ref r) H') : rSlA K (.ref a) none (some (n : Int)) H Q := by
  obtain ⟨as, h1, h2⟩ := id h
  have hl := h2.length
  refine ⟨a, as.map V.ref, rfl, SqT.of h1, fun e => ?_, fun _ p hp => ?_⟩
  · rw [HT.sIx_nat, List.length_map] at e
    have hd : xs.take n = xs := List.take_of_length_le (by omega)
    rw [hd] at k
    exact k a H (Same.refl _) h
  · have s := same_new (o := .tup (cutV (as.map V.ref) none (some (n : Int)))) hp
    refine k p _ s ⟨as.take n, ?_, Paired_mono (fun x y r => m _ _ _ _ s r) (Paired_take n h2)⟩
    rw [upd_same]
    unfold cutV
    rw [HT.sIx_nat, HT.sIx_none, List.length_map, List.drop_zero, ← List.map_take, Nat.sub_zero]
    congr 3
    by_cases z : n ≤ as.length
    · rw [Nat.min_eq_left z]
    · rw [Nat.min_eq_right (by omega), List.take_of_length_le (Nat.le_refl _), List.take_of_length_le (by omega)]
/-! ### as data -/
def rowD (r : Row) : PyData := .tuple [.str r.1.1, .str r.1.2, .int r.2]
def rowsD (rows : List Row) : PyData := .tuple (rows.map rowD)
def wantD (w : Want) : PyData := .tuple [.str w.1, .tuple (w.2.1.map PyData.str), .int w.2.2]
theorem dpAll_of {K : PySem.W.Frag} {H : Hp} {β : Type} {R : Addr → β → Prop} {D : β → PyData} (f : ∀ a b, R a b → Dp K H (.ref a) (D b)) : ∀ {as : List Addr} {bs : List β}, Paired R as bs → DpAll K H (as.map V.ref) (bs.map D)
  | _, _, .nil => .nil
  | _, _, .cons r t => .cons (f _ _ r) (dpAll_of f t)
theorem rows_dp {K : PySem.W.Frag} {H : Hp} {a : Addr} {rows : List Row} (h : RowsAt H a rows) : Dp K H (.ref a) (rowsD rows) := by
  obtain ⟨as, h1, h2⟩ := h
  exact .tup (SqT.of h1) (dpAll_of (D := rowD) (fun a r hr => .tup (SqT.of hr) (.cons (.str _) (.cons (.str _) (.cons (.int _) .nil)))) h2)
theorem kits_dp {K : PySem.W.Frag} {H : Hp} {a : Addr} {ks : List (List Row)} (h : TupOf RowsAt H a ks) : Dp K H (.ref a) (.tuple (ks.map rowsD)) := by
  obtain ⟨as, h1, h2⟩ := h
  exact .tup (SqT.of h1) (dpAll_of (D := rowsD) (fun a r hr => rows_dp hr) h2)
theorem wants_dp {K : PySem.W.Frag} {H : Hp} {a : Addr} {ws : List Want} (h : WantsAt H a ws) : Dp K H (.ref a) (.tuple (ws.map wantD)) := by
  obtain ⟨as, h1, h2⟩ := h
  exact .tup (SqT.of h1) (dpAll_of (D := wantD) (fun a r ⟨t, hr1, hr2, _⟩ => .tup (SqT.of hr1) (.cons (.str _) (.cons (.tup (SqT.of hr2) (strs_dp _)) (.cons (.int _) .nil)))) h2)
theorem lay_all {β : Type} {D : β → PyData} : ∀ {l : List β}, (∀ b ∈ l, PyData.canLay0 (D b) = true) → PyData.canLayAll0 (l.map D) = true
  | [], _ => rfl
  | b :: r, h => by
    show (PyData.canLay0 (D b) && PyData.canLayAll0 (r.map D)) = true
    rw [h b List.mem_cons_self, lay_all fun x hx => h x (List.mem_cons_of_mem _ hx)]
    rfl
theorem depth_all {β : Type} {D : β → PyData} {n : Nat} : ∀ {l : List β}, (∀ b ∈ l, (D b).depth ≤ n) → PyData.depthAll (l.map D) ≤ n
  | [], _ => by simp [PyData.depthAll]
  | b :: r, h => by
    have h1 := h b List.mem_cons_self
    have h2 := depth_all (l := r) fun x hx => h x (List.mem_cons_of_mem _ hx)
    simp only [List.map_cons, PyData.depthAll]
    omega
theorem rowD_depth (r : Row) : (rowD r).depth ≤ 2 := by
  show (PyData.tuple [.str r.1.1, .str r.1.2, .int r.2]).depth ≤ 2
  simp [PyData.depth, PyData.depthAll]
theorem rowD_lay {r : Row} (h : RowOk r) : PyData.canLay0 (rowD r) = true := by
  show (PyData.strOk r.1.1 && (PyData.strOk r.1.2 && (true && true))) = true
  rw [h.1, h.2]
  rfl
theorem rowsD_depth (rows : List Row) : (rowsD rows).depth ≤ 4 := by
  have := depth_all (D := rowD) (n := 2) (l := rows) fun b _ => rowD_depth b
  show (PyData.tuple (rows.map rowD)).depth ≤ 4
  simp only [PyData.depth]
  omega
theorem kits_shaped {ks : List (List Row)} (h : ∀ k ∈ ks, ∀ r ∈ k, RowOk r) : SeqAt.shaped (.tuple (ks.map rowsD)) = true := by
  show (PyData.canLayAll0 (ks.map rowsD) && decide ((PyData.tuple (ks.map rowsD)).depth ≤ 64)) = true
  rw [lay_all (D := rowsD) fun k hk => (show PyData.canLayAll0 (k.map rowD) = true from lay_all fun r hr => rowD_lay (h k hk r hr))]
  have := depth_all (D := rowsD) (n := 4) (l := ks) fun b _ => rowsD_depth b
  rw [Bool.true_and]
  refine decide_eq_true ?_
  simp only [PyData.depth]
  omega
theorem wantD_depth (w : Want) : (wantD w).depth ≤ 8 := by
  show (PyData.tuple [.str w.1, .tuple (w.2.1.map PyData.str), .int w.2.2]).depth ≤ 8
  simp [PyData.depth, PyData.depthAll, depth_strs]
theorem wantD_lay {w : Want} (h : WOk w) : PyData.canLay0 (wantD w) = true := by
  show (PyData.strOk w.1 && (PyData.canLayAll0 (w.2.1.map PyData.str) && (true && true))) = true
  rw [h.1, canLay_strs h.2]
  rfl
theorem wants_ok {H : Hp} : ∀ {as : List Addr} {ws : List Want}, Paired (WantAt H) as ws → ∀ w ∈ ws, WOk w
  | _, _, .nil, _, h => by cases h
  | _, _, .cons r t, w, h => by
    rcases List.mem_cons.mp h with z | z
    · rw [z]
      obtain ⟨_, _, _, q⟩ := r
      exact q
    · exact wants_ok t w z
theorem wants_shaped {H : Hp} {a : Addr} {ws : List Want} (h : WantsAt H a ws) : SeqAt.shaped (.tuple (ws.map wantD)) = true := by
  obtain ⟨as, _, h2⟩ := h
  show (PyData.canLayAll0 (ws.map wantD) && decide ((PyData.tuple (ws.map wantD)).depth ≤ 64)) = true
  rw [lay_all fun w hw => wantD_lay (wants_ok h2 w hw)]
  have := depth_all (D := wantD) (n := 8) (l := ws) fun b _ => wantD_depth b
  rw [Bool.true_and]
  refine decide_eq_true ?_
  simp only [PyData.depth]
  omega
theorem eqv_nilG {β : Type} {D : β → PyData} (l : List β) : PyData.eqv (.tuple (l.map D)) (.tuple []) = decide (l.length = 0) := by
  cases l with
  | nil => rfl
  | cons a r => rfl
/-! ### sorted(t), t a tuple of texts -/
def rSortTS (K : PySem.W.Frag) : List V → Hp → VK → Prop := fun vs H Q => ∃ (a : Addr) (xs : List Str), vs = [V.ref a] ∧ SqT K H a (xs.map V.str) ∧ ∀ (zs : List Str) (p : Addr), zs.Perm xs → H p = none → Q (.ref p) (upd H p (.lst (zs.map V.str)))
theorem cr_sortTS {X : Cx} (hu : X.A.units + 64 < cLine) : CallR X (.builtin "sorted") (rSortTS X.K) := by
  intro pins s σ H vs us Q I r h
  obtain ⟨a, xs, rfl, hs, q⟩ := h
  rw [Vals.ref1 r]
  refine sorted_by (H := H) hu fun R E' k => ?_
  obtain ⟨its, rv, ⟨o, ho, hc, n, hd⟩, hz⟩ := I.tuple hs
  have hl := rv.length
  refine wpAny_collect_seq (A := X.A.in1) a (.inr rfl) ho hc hd (fun h' kp => ?_) (by rw [List.size_toArray]; omega)
  refine k its _ _ ((xs).map PyData.str) (I.kept (t' := s.toks) kp) rv hz (strs_dp xs) (strs_alike xs) (strs_sortable xs) (strs_depth xs) fun ys p hp hn => ?_
  obtain ⟨zs, p1, rfl⟩ := map_perm hp
  exact q zs p p1 hn
/-! ### the scene -/
structure SceneOk (rows : List Row) (ks : List (List Row)) (ws : List Want) : Prop where
  r : rows.length ≤ 5
  rr : ∀ r ∈ rows, 1 ≤ r.2
  k : ks.length ≤ 4
  kr : ∀ x ∈ ks, x.length ≤ 4 ∧ ∀ r ∈ x, 1 ≤ r.2 ∧ RowOk r
  w : ws.length ≤ 6
  ww : ∀ x ∈ ws, WantGen 6 x
def spScene : Sp := fun vs H Q _ => ∃ (tp cl : Addr), vs = [.ref tp, .int 6] ∧ TapAt H tp cl 0 ∧ ∀ (t r k wa : Addr) (rows : List Row) (ks : List (List Row)) (ws : List Want) (H' : Hp), Kept [tp] H H' → TapAt H' tp cl 1000 → H' t = some (.tup [.ref r, .ref k, .ref wa]) → RowsAt H' r rows → TupOf RowsAt H' k ks → WantsAt H' wa ws → SceneOk rows ks ws → Q (.ref t) H'
def spWider : Sp := fun vs H Q _ => ∃ (wa : Addr) (wt : Want), vs = [.ref wa] ∧ WantAt H wa wt ∧ wt.2.1.length ≤ 20 ∧ ∀ (t : Addr) (w' : Want) (H' : Hp), Same H H' → WantAt H' t w' → w'.2.2 = wt.2.2 → w'.2.1.length ≤ wt.2.1.length + 1 → (∀ p, (wtP wt).1 p = true → (wtP w').1 p = true) → Q (.ref t) H'
section
variable {P : Program} {w : World} {K : PySem.W.Frag} {mg : Str → Option Value} {base : Heap}
theorem ok_wider {f : Addr} {fd : FuncData} (F : Fun K "_law_wider" "_law_wider" s_Lwider f fd) (B : BT mg) : FnOk P w K mg base CX0 1 f fd ["_law_want"] spWider := by
  refine F.ok sc_Lwider (fun vs H Q E h => ?_) (fun cdv A outer s H vs Q E hr h => ?_)
  · obtain ⟨_, _, rfl, _⟩ := h
    rfl
  · obtain ⟨wa, wt, rfl, hw, hwl, kk⟩ := h
    have nd := sc_Lwider.nd
    refine ⟨_, pss_cons (ps_asg (pv 0) (pg_tup rfl (pgs_cons (pg_name (i := 1) nd rfl (Or.inl rfl)) (pgs_cons (pg_name (i := 2) nd rfl (Or.inr rfl)) (pgs_cons (pg_name (i := 3) nd rfl (Or.inl rfl)) pgs_nil)))))
      (pss_cons (ps_setLc (i := 4) (own := [("_law_word", 5)]) (g := gName 5) rfl nd rfl rfl (sw_true rfl rfl rfl (by decide +kernel)) (pi_list (pe_lst (pa_cons pe_str (pa_cons pe_str (pa_cons pe_str (pa_cons pe_str pa_nil))))))
        (blkOk_by (N := ["_law_want", "_law_form", "_law_shades", "_law_many", "_law_rest", "_law_word"]) (sc := defScope s_Lwider) (by decide +kernel))
        (fun _ _ _ _ _ => pg_name (i := 5) nd rfl (Or.inl rfl)) (fun _ _ _ _ _ => pts_one (pt_cmpR (op_notInK K) (pv 5) (pv 2) rfl)) (fun _ _ _ _ _ => pv 5))
      (pss_one (ps_ret (pe_tup (pa_cons (pv 1) (pa_cons (pe_ifExp (PW.pt (pw_or (pt_cmpR (op_eqD hr.units) (pv 2) (pe_tup pa_nil) (nomark _)) (pw_or1 (pt_cmpR (op_eqD hr.units) (pv 4) (pe_lst pa_nil) (nomark _))))) (pe_tup pa_nil)
        (pe_callTy call_tuple_of (by rfl) B.tuple (by decide +kernel) (pa_cons (pe_callB (cr_sortTS hr.units) (by rfl) B.sorted (by decide +kernel) (pa_cons (pe_op op_catA (pv 2) (pe_tup (pa_cons (pe_ix ix_list (pv 4) pe_int (fun _ _ => rfl)) pa_nil))) pa_nil)) pa_nil))) (pa_cons (pv 3) pa_nil))))))), ?_⟩
    obtain ⟨ta, hw1, hw2, hw3⟩ := id hw
    refine ⟨_, rfl, wa, _, rfl, SqT.of hw1, rfl, _, _, rfl, _, _, rfl, _, _, rfl, rfl, ?_⟩
    refine ⟨(by show 4 ≤ sizeLine; decide), fun l0 hl0 => ?_⟩
    have s1 := same_new (o := .lst ([Str.ofString "red", Str.ofString "blue", Str.ofString "re", Str.ofString "z"].map V.str)) hl0
    refine ⟨l0, rfl, ⟨_, SqL.of upd_same⟩, fun D hD => ?_⟩
    have hl1 : (upd H l0 (.lst ([Str.ofString "red", Str.ofString "blue", Str.ofString "re", Str.ofString "z"].map V.str))) l0 = some (.lst ([Str.ofString "red", Str.ofString "blue", Str.ofString "re", Str.ofString "z"].map V.str)) := upd_same
    refine lc_list (K := K) (a := l0) (xs := [Str.ofString "red", Str.ofString "blue", Str.ofString "re", Str.ofString "z"].map V.str) (fun i H2 => Same (upd H l0 (.lst ([Str.ofString "red", Str.ofString "blue", Str.ofString "re", Str.ofString "z"].map V.str))) H2 ∧ ∃ rs : List Str, H2 D = some (.lst (rs.map V.str)) ∧ rs.length ≤ i ∧ ∀ s ∈ rs, PyData.strOk s = true)
      ⟨same_new hD, [], upd_same, Nat.le_refl _, (fun s hs => by cases hs)⟩ (fun i H2 _ ⟨s2, _⟩ => SqL.of (s2 _ _ hl1)) ?_ ?_
    · rintro i y H2 hi ⟨s2, rs, hrs, hrl, hro⟩
      rw [List.getElem?_map, Option.map_eq_some_iff] at hi
      obtain ⟨sh, hsh, rfl⟩ := hi
      have hil : i < 4 := (List.getElem?_eq_some_iff.mp hsh).1
      have hsok : PyData.strOk sh = true := by
        have : ∀ s ∈ [Str.ofString "red", Str.ofString "blue", Str.ofString "re", Str.ofString "z"], PyData.strOk s = true := by decide +kernel
        exact this sh (List.mem_of_getElem? hsh)
      refine ⟨rfl, _, rfl, _, rfl, ta, _, rfl, .inr (SqT.of (s2 _ _ (s1 _ _ hw2))), rfl, strs_flat _, _, rfl, ?_⟩
      refine ite2 (fun _ => ?_) (fun _ => ?_)
      · refine ⟨_, rfl, _, hrs, by rw [List.length_map, sizeLine_eq]; omega, same_put s2 hD, rs ++ [sh], by rw [upd_same, List.map_append]; rfl, by rw [List.length_append]; show rs.length + 1 ≤ i + 1; omega, fun s hs => ?_⟩
        rcases List.mem_append.mp hs with z | z
        · exact hro s z
        · rw [List.mem_singleton.mp z]; exact hsok
      · exact ⟨s2, rs, hrs, by omega, hro⟩
    · rintro H2 ⟨s2, rs, hrs, hrl, hro⟩
      have hrl : rs.length ≤ 4 := hrl
      have s12 := s1.trans s2
      -- all of the form
      have bare : ∀ (t1 : Addr) (H3 : Hp), Same H H3 → H3 t1 = some (.tup []) → ∀ (p : Addr), H3 p = none → Q (.ref p) (upd H3 p (.tup [.str wt.1, .ref t1, .int wt.2.2])) := fun t1 H3 s3 h3 p hp => by
        have s4 := same_new (o := .tup [.str wt.1, .ref t1, .int wt.2.2]) hp
        refine kk p (wt.1, [], wt.2.2) _ (s3.trans s4) ⟨t1, upd_same, s4 _ _ h3, hw3.1, fun s hs => by cases hs⟩ rfl (Nat.zero_le _) fun q hq => ?_
        have hq : (decide (q.1 = wt.1) && (decide (wt.2.1 = []) || decide (q.2 ∈ wt.2.1))) = true := hq
        rw [Bool.and_eq_true] at hq
        show (decide (q.1 = wt.1) && (decide (([] : List Str) = []) || _)) = true
        rw [hq.1]
        rfl
      refine ⟨_, rfl, _, rfl, (by show 0 ≤ sizeLine; decide), fun z hz => ?_⟩
      have g0 := same_new (o := .tup []) hz
      refine ⟨_, _, .tup (SqT.of (g0 _ _ (s12 _ _ hw2))) (strs_dp wt.2.1), .tup (SqT.of upd_same) .nil, shaped_strs hw3.2, rfl, _, rfl, ?_⟩
      rw [eqv_nil]
      by_cases he : wt.2.1 = []
      · rw [decide_eq_true he]
        refine iteT ?_
        refine ⟨(by show 0 ≤ sizeLine; decide), fun t1 ht1 => ?_⟩
        have g1 := same_new (o := .tup []) ht1
        exact ⟨_, rfl, (by show 3 ≤ sizeLine; decide), fun p hp => bare t1 _ ((s12.trans g0).trans g1) upd_same p hp⟩
      · rw [decide_eq_false he]
        refine iteF ?_
        refine ⟨_, rfl, (by show 0 ≤ sizeLine; decide), fun z2 hz2 => ?_⟩
        have g1 := same_new (o := .lst []) hz2
        have hrs3 := g1 _ _ (g0 _ _ hrs)
        have s3 := (s12.trans g0).trans g1
        refine ⟨_, _, .lst (SqL.of hrs3) (strs_dp rs), .lst (SqL.of upd_same) .nil, shaped_strsL hro, rfl, _, rfl, ?_⟩
        cases rs with
        | nil =>
          refine iteT ?_
          refine ⟨(by show 0 ≤ sizeLine; decide), fun t1 ht1 => ?_⟩
          have g2 := same_new (o := .tup []) ht1
          exact ⟨_, rfl, (by show 3 ≤ sizeLine; decide), fun p hp => bare t1 _ (s3.trans g2) upd_same p hp⟩
        | cons r0 rs =>
          refine iteF ?_
          refine ⟨_, rfl, _, rfl, D, _, 0, _, rfl, rfl, SqL.of hrs3, atI_nat (j := 0) rfl, (by show 1 ≤ sizeLine; decide), fun p1 hp1 => ?_⟩
          have g2 := same_new (o := .tup [.str r0]) hp1
          have s4 := s3.trans g2
          refine cat_vs (s4 _ _ hw2) upd_same (by rw [List.length_map]; show wt.2.1.length + 1 ≤ 1000000; omega) fun r H5 s5 hr5 => ?_
          have hr5 : H5 r = some (.tup ((wt.2.1 ++ [r0]).map V.str)) := by rw [hr5, List.map_append]; rfl
          refine ⟨r, _, rfl, SqT.of hr5, fun zs l hperm hl => ?_⟩
          have g6 := same_new (o := .lst (zs.map V.str)) hl
          refine ⟨l, _, rfl, .inl ⟨SqL.of upd_same, fun t1 ht1 => ?_⟩⟩
          have g7 := same_new (o := .tup (zs.map V.str)) ht1
          refine ⟨_, rfl, (by show 3 ≤ sizeLine; decide), fun p hp => ?_⟩
          have g8 := same_new (o := .tup [.str wt.1, .ref t1, .int wt.2.2]) hp
          have hlen := hperm.length_eq
          rw [List.length_append] at hlen
          refine kk p (wt.1, zs, wt.2.2) _ ((((s4.trans s5).trans g6).trans g7).trans g8) ⟨t1, upd_same, g8 _ _ upd_same, hw3.1, fun s hs => ?_⟩ rfl (by show zs.length ≤ _; rw [hlen]; exact Nat.le_refl _) fun q hq => ?_
          · rcases List.mem_append.mp (hperm.mem_iff.mp hs) with y | y
            · exact hw3.2 s y
            · rw [List.mem_singleton.mp y]; exact hro r0 List.mem_cons_self
          · have hq : (decide (q.1 = wt.1) && (decide (wt.2.1 = []) || decide (q.2 ∈ wt.2.1))) = true := hq
            rw [decide_eq_false he, Bool.false_or, Bool.and_eq_true] at hq
            show (decide (q.1 = wt.1) && (decide (zs = []) || decide (q.2 ∈ zs))) = true
            rw [hq.1, decide_eq_true (hperm.mem_iff.mpr (List.mem_append_left _ (of_decide_eq_true hq.2)))]
            simp
end
end K70

end
section
set_option maxRecDepth 100000
set_option maxHeartbeats 4000000
/-! _law_scene. -/
namespace K70
open PySem PySem.Spec PyProof.Rows L2 K70M
theorem strs_refs {ss : List Str} {as : List Addr} (h : 0 < ss.length) : ss.map V.str ≠ as.map V.ref := fun e => by
  cases ss with
  | nil => simp at h
  | cons s r =>
    cases as with
    | nil => cases e
    | cons a t => cases e
theorem WordsAt.keep {H : Hp} {D wd : Addr} {o : HO} {as : List Addr} {fs ss : List Str} (ok : WordsOk fs ss) (hD : H D = some (.lst (as.map V.ref))) (h : WordsAt H wd fs ss) : WordsAt (upd H D o) wd fs ss := by
  obtain ⟨fl, sl, h1, h2, h3⟩ := h
  have n1 : fl ≠ D := by
    rintro rfl
    rw [hD] at h2
    have e : HO.lst (as.map V.ref) = HO.lst (fs.map V.str) := Option.some.inj h2
    cases fs with
    | nil => have := ok.f0; simp at this
    | cons s r =>
      cases as with
      | nil => cases e
      | cons a t => cases e
  have n2 : sl ≠ D := by
    rintro rfl
    rw [hD] at h3
    have e : HO.lst (as.map V.ref) = HO.lst (ss.map V.str) := Option.some.inj h3
    cases ss with
    | nil => have := ok.s0; simp at this
    | cons s r =>
      cases as with
      | nil => cases e
      | cons a t => cases e
  exact ⟨fl, sl, lst_tup hD h1, by rw [upd_ne n1]; exact h2, by rw [upd_ne n2]; exact h3⟩
section
variable {P : Program} {w : World} {K : PySem.W.Frag} {mg : Str → Option Value} {base : Heap}
theorem ok_scene {f : Addr} {fd : FuncData} (F : Fun K "_law_scene" "_law_scene" s_Lscene f fd) (B : BT mg) (pi : Cl P w K mg base CX0 1 "_law_pick" ["_law_tap_here", "_law_many"] [] spPick) (wo : Cl P w K mg base CX0 2 "_law_words" ["_law_tap_here"] [] spWords) (ro : Cl P w K mg base CX0 2 "_law_rows" ["_law_tap_here", "_law_words_here", "_law_many", "_law_most_now"] [] spRows)
    (wa : Cl P w K mg base CX0 3 "_law_wants" ["_law_tap_here", "_law_words_here", "_law_many", "_law_most_now"] [] spGenWants) (ne : Cl P w K mg base CX0 4 "_law_never" ["_law_rows_here", "_law_kits", "_law_wants_here"] [] spLNever) (fe : Cl P w K mg base CX0 4 "_law_fewest" ["_law_rows_here", "_law_kits", "_law_wants_here", "_law_most_now"] [] spLFewest) :
    FnOk P w K mg base CX0 5 f fd ["_law_tap_here", "_law_most_now"] spScene := by
  refine F.ok sc_Lscene (fun vs H Q E h => ?_) (fun cdv A outer s H vs Q E hr h => ?_)
  · obtain ⟨_, _, rfl, _⟩ := h
    rfl
  · obtain ⟨tp, cl, rfl, hT, kk⟩ := h
    have nd := sc_Lscene.nd
    have hr1 : Room 1 _ := hr.mono (by decide)
    have hr2 : Room 2 _ := hr.mono (by decide)
    have hr3 : Room 3 _ := hr.mono (by decide)
    refine ⟨_, pss_cons (ps_set (i := 2) nd rfl (Or.inr rfl) (pe_k wo hr2 rfl pass0 (pa_cons (pv 0) pa_nil)))
      (pss_cons (ps_set (i := 3) nd rfl (Or.inl rfl) (pe_k ro hr2 rfl pass0 (pa_cons (pv 0) (pa_cons (pv 2) (pa_cons (pe_k pi hr1 rfl pass0 (pa_cons (pv 0) (pa_cons pe_int pa_nil))) (pa_cons pe_int pa_nil))))))
      (pss_cons (ps_set (i := 4) nd rfl (Or.inl rfl) (pe_ix ix_list (pe_lst (pa_cons pe_int (pa_cons pe_int (pa_cons pe_int (pa_cons pe_int (pa_cons pe_int (pa_cons pe_int (pa_cons pe_int (pa_cons pe_int pa_nil))))))))) (pe_k pi hr1 rfl pass0 (pa_cons (pv 0) (pa_cons pe_int pa_nil))) (fun _ _ => rfl)))
      (pss_cons (ps_setLc (i := 5) (own := [("_law_k", 7)]) (g := gName 7) (tt := tYes) rfl nd rfl rfl (sw_true rfl rfl rfl (by decide +kernel)) (pi_range1 rfl B.range (pa_cons (pv 4) pa_nil))
        (blkOk_by (N := ["_law_tap_here", "_law_most_now", "_law_words_here", "_law_rows_here", "_law_many", "_law_kits", "_law_wants_here", "_law_k"]) (sc := defScope s_Lscene) (by decide +kernel))
        (fun _ _ _ _ _ => pg_name (i := 7) nd rfl (Or.inl rfl)) (fun _ _ _ _ _ => pts_nil)
        (fun _ _ _ _ _ => pe_k (E := E0) ro hr2 rfl pass0 (pa_cons (pv 0) (pa_cons (pv 2) (pa_cons (pe_op op_add pe_int (pe_k (E := E0) pi hr1 rfl pass0 (pa_cons (pv 0) (pa_cons pe_int pa_nil)))) (pa_cons pe_int pa_nil))))))
      (pss_cons (ps_set (i := 6) nd rfl (Or.inl rfl) (pe_k wa hr3 rfl pass0 (pa_cons (pv 0) (pa_cons (pv 2) (pa_cons (pe_k pi hr1 rfl pass0 (pa_cons (pv 0) (pa_cons pe_int pa_nil))) (pa_cons (pv 1) pa_nil))))))
      (pss_cons (ps_while PassesOwn.never (PW.pt (pw_and (pt_not (pt_val (pe_k ne hr rfl pass0 (pa_cons (pv 3) (pa_cons (pv 5) (pa_cons (pv 6) pa_nil)))))) (pw_and1 (pt_cmpR op_isN (pe_k fe hr rfl pass0 (pa_cons (pv 3) (pa_cons (pv 5) (pa_cons (pv 6) (pa_cons pe_int pa_nil))))) pe_non (nomark _)))))
        (pss_one (ps_set (i := 6) nd rfl (Or.inl rfl) (pe_slice sl_tupA (pv 6) (po_some pe_int) po_none))))
      (pss_one (ps_ret (pe_tup (pa_cons (pv 3) (pa_cons (pe_callTy call_tuple_of (by rfl) B.tuple (by decide +kernel) (pa_cons (pv 5) pa_nil)) (pa_cons (pv 6) pa_nil)))))))))))
      , ?_⟩
    refine ⟨_, rfl, tp, cl, 0, rfl, by omega, hT, fun wd fs ss H1 k1 T1 hW1 hok => ?_⟩
    refine ⟨_, rfl, _, rfl, _, rfl, tp, cl, 6, 20, rfl, by decide, by decide, by omega, T1, fun r1 H2 hr1' k2 T2 => ?_⟩
    have hW2 := hW1.kept T1 k2
    refine ⟨tp, cl, wd, r1, 3, 21, fs, ss, rfl, by omega, T2, hW2, hok, by omega, by decide, by decide, fun ra rows H3 k3 T3 hR3 hRl hRv => ?_⟩
    have hW3 := hW2.kept T2 k3
    have k13 := (k1.trans k2).trans k3
    refine ⟨(by show 8 ≤ sizeLine; decide), fun ml hml => ?_⟩
    have s4 := same_new (o := .lst ([0, 1, 2, 2, 3, 3, 3, 4].map V.int)) hml
    have k14 := k13.trans (Kept.of s4)
    have nml := hT.new (H' := H) (kfree k13 T3 hml)
    refine ⟨_, rfl, tp, cl, 8, 21 + 3 * r1, rfl, by decide, by decide, by omega, T3.mono s4, fun r2 H5 hr2' k5 T5 => ?_⟩
    have hml4 : (upd H3 ml (.lst ([0, 1, 2, 2, 3, 3, 3, 4].map V.int))) ml = some (.lst ([0, 1, 2, 2, 3, 3, 3, 4].map V.int)) := upd_same
    have k15 := k14.trans k5
    have hW5 := (hW3.mono s4).kept (T3.mono s4) k5
    have hR5 := RowsAt.kept (T3.mono s4) k5 (RowsAt.mono _ _ _ _ s4 hR3)
    obtain ⟨many, hmany, hm4⟩ : ∃ many : Nat, ([0, 1, 2, 2, 3, 3, 3, 4].map V.int)[r2]? = some (V.int (many : Int)) ∧ many ≤ 4 := by
      have : ∀ r : Fin 8, ∃ many : Nat, many < 5 ∧ ([0, 1, 2, 2, 3, 3, 3, 4] : List Int)[r.val]? = some (many : Int) := by
        intro r
        match r with
        | ⟨0, _⟩ => exact ⟨0, by decide, rfl⟩
        | ⟨1, _⟩ => exact ⟨1, by decide, rfl⟩
        | ⟨2, _⟩ => exact ⟨2, by decide, rfl⟩
        | ⟨3, _⟩ => exact ⟨2, by decide, rfl⟩
        | ⟨4, _⟩ => exact ⟨3, by decide, rfl⟩
        | ⟨5, _⟩ => exact ⟨3, by decide, rfl⟩
        | ⟨6, _⟩ => exact ⟨3, by decide, rfl⟩
        | ⟨7, _⟩ => exact ⟨4, by decide, rfl⟩
      obtain ⟨many, h1, h2⟩ := this ⟨r2, hr2'⟩
      have h2 : ([0, 1, 2, 2, 3, 3, 3, 4] : List Int)[r2]? = some (many : Int) := h2
      exact ⟨many, by rw [List.getElem?_map, h2]; rfl, by omega⟩
    refine ⟨ml, _, (r2 : Int), _, rfl, rfl, SqL.of (k1at k5 hml4 nml.1), atI_nat hmany, ?_⟩
    -- the kits
    refine ⟨_, rfl, (many : Int), rfl, by omega, by omega, fun D hD => ?_⟩
    have hDH := kfree k15 T5 hD
    have nD := hT.new (H' := H) hDH
    refine lc_range (lo := 0) (n := many) (fun i H6 => ∃ (kas : List Addr) (ks : List (List Row)), Kept [tp] H H6 ∧ TapAt H6 tp cl (60 + 20 * i) ∧ WordsAt H6 wd fs ss ∧ RowsAt H6 ra rows ∧ H6 D = some (.lst (kas.map V.ref)) ∧ Paired (RowsAt H6) kas ks ∧ ks.length = i ∧ ∀ x ∈ ks, x.length ≤ 4 ∧ ∀ r ∈ x, 1 ≤ r.2 ∧ RowOk r)
      ⟨[], [], k15.put (.inr hDH), (T5.le (by omega)).put nD.1 nD.2, ?_, ?_, upd_same, .nil, rfl, (fun x hx => by cases hx)⟩ ?_ ?_
    · exact hW5.mono (same_new hD)
    · exact RowsAt.mono _ _ _ _ (same_new hD) hR5
    · rintro i H6 hi ⟨kas, ks, k6, T6, hW6, hR6, hD6, hP6, hl6, hv6⟩
      refine ⟨rfl, _, rfl, _, rfl, _, rfl, tp, cl, 4, 60 + 20 * i, rfl, by decide, by decide, by omega, T6, fun r3 H7 hr3 k7 T7 => ?_⟩
      have hW7 := hW6.kept T6 k7
      have hR7 := RowsAt.kept T6 k7 hR6
      refine ⟨_, _, rfl, rfl, tp, cl, wd, 1 + r3, 3, 60 + 20 * i + 1, fs, ss, by show _ = [V.ref tp, V.ref wd, V.int ((1 + r3 : Nat) : Int), V.int 3]; rw [Int.natCast_add]; rfl, by omega, T7, hW7, hok, by omega, by decide, by decide, fun ka krows H8 k8 T8 hK8 hKl hKv => ?_⟩
      have hD8 := k1at k8 (k1at k7 hD6 nD.1) nD.1
      have hW8 := hW7.kept T7 k8
      have hR8 := RowsAt.kept T7 k8 hR7
      have hP8 : Paired (RowsAt H8) kas ks := Paired_mono (fun a x hx => RowsAt.kept T7 k8 (RowsAt.kept T6 k7 hx)) hP6
      have keepR : ∀ {a : Addr} {x : List Row} {o : HO}, RowsAt H8 a x → RowsAt (upd H8 D o) a x := fun {a x o} ⟨as, q1, q2⟩ => ⟨as, lst_tup hD8 q1, Paired_mono (fun b y hy => lst_tup hD8 hy) q2⟩
      have k68 := (k6.trans k7).trans k8
      refine ⟨kas.map V.ref, hD8, by rw [List.length_map, hP8.length, sizeLine_eq]; omega, kas ++ [ka], ks ++ [krows], k68.put (.inr hDH), (T8.le (by omega)).put nD.1 nD.2, WordsAt.keep hok hD8 hW8, keepR hR8, by rw [upd_same, List.map_append]; rfl, Paired_snoc (Paired_mono (fun a x hx => keepR hx) hP8) (keepR hK8), by rw [List.length_append]; show ks.length + 1 = i + 1; omega, fun x hx => ?_⟩
      rcases List.mem_append.mp hx with z | z
      · exact hv6 x z
      · rw [List.mem_singleton.mp z]
        exact ⟨by omega, fun r hr => ⟨(hKv r hr).1, (hKv r hr).2.2⟩⟩
    · rintro H6 ⟨kas, ks, k6, T6, hW6, hR6, hD6, hP6, hl6, hv6⟩
      -- the wants
      refine ⟨_, rfl, _, rfl, _, rfl, tp, cl, 7, 60 + 20 * many, rfl, by decide, by decide, by omega, T6, fun r4 H7 hr4 k7 T7 => ?_⟩
      have hW7 := hW6.kept T6 k7
      refine ⟨_, rfl, tp, cl, wd, r4, 6, 60 + 20 * many + 1, fs, ss, rfl, by omega, T7, hW7, hok, by omega, by decide, by decide, fun wad ws H8 k8 T8 hws hwl hwv => ?_⟩
      have k78 := k7.trans k8
      have hD8 := k1at k78 hD6 nD.1
      have hR8 := RowsAt.kept T7 k8 (RowsAt.kept T6 k7 hR6)
      have hP8 : Paired (RowsAt H8) kas ks := Paired_mono (fun a x hx => RowsAt.kept T7 k8 (RowsAt.kept T6 k7 hx)) hP6
      have k18 := k6.trans k78
      have T8' := T8.le (m := 1000) (by omega)
      have scn : ∀ {H9 : Hp} {wad' : Addr} {ws' : List Want}, Same H8 H9 → WantsAt H9 wad' ws' → ws'.length ≤ 6 → (∀ x ∈ ws', WantGen 6 x) → Scn H9 ra D wad' rows ks ws' := fun s9 h1 h2 h3 => ⟨RowsAt.mono _ _ _ _ s9 hR8, by omega, ⟨kas, s9 _ _ hD8, Paired_mono (fun a x hx => RowsAt.mono _ _ _ _ s9 hx) hP8⟩, by omega, fun x hx => by have := (hv6 x hx).1; omega, h1, by omega, fun x hx => (h3 x hx).1⟩
      refine ⟨fun m σ H9 => ∃ (wad' : Addr) (ws' : List Want), σ = [some (.ref tp), some (.int 6), some (.ref wd), some (.ref ra), some (.int (many : Int)), some (.ref D), some (.ref wad'), none] ∧ Same H8 H9 ∧ WantsAt H9 wad' ws' ∧ ws'.length ≤ 6 ∧ (∀ x ∈ ws', WantGen 6 x) ∧ m = ws'.length,
        ⟨_, wad, ws, rfl, Same.refl _, hws, by omega, hwv, rfl⟩, ?_⟩
      rintro m σ H9 ⟨wad', ws', rfl, s9, h1, h2, h3, rfl⟩
      have out : ∀ H10, Same H8 H10 → WantsAt H10 wad' ws' → ∀ (t : Addr), H10 t = none → ∀ (t2 : Addr), (upd H10 t (.tup (kas.map V.ref))) t2 = none → Q (.ref t2) (upd (upd H10 t (.tup (kas.map V.ref))) t2 (.tup [.ref ra, .ref t, .ref wad'])) := fun H10 s10 hw10 t ht t2 ht2 => by
        have g1 := same_new (o := .tup (kas.map V.ref)) ht
        have g2 := same_new (o := .tup [.ref ra, .ref t, .ref wad']) ht2
        have g12 := g1.trans g2
        have gA := s10.trans g12
        refine kk t2 ra t wad' rows ks ws' _ (k18.trans (Kept.of gA)) (T8'.mono gA) upd_same (RowsAt.mono _ _ _ _ gA hR8) ⟨kas, g2 _ _ upd_same, Paired_mono (fun a x hx => RowsAt.mono _ _ _ _ gA hx) hP8⟩ (WantsAt.mono _ _ _ _ g12 hw10) ⟨by omega, fun r hr => (hRv r hr).1, by omega, hv6, h2, h3⟩
      refine ⟨_, rfl, _, rfl, _, rfl, ra, D, wad', rows, ks, ws', rfl, scn s9 h1 h2 h3, fun b H10 s10 hb => ?_⟩
      refine ⟨b, rfl, ?_⟩
      have s910 := s9.trans s10
      have h1' := WantsAt.mono _ _ _ _ s10 h1
      cases b with
      | true =>
        refine iteF ?_
        refine iteF ?_
        refine ⟨_, rfl, _, rfl, D, _, rfl, .inl ⟨SqL.of (s910 _ _ hD8), fun t ht => ?_⟩⟩
        exact ⟨_, rfl, (by show 3 ≤ sizeLine; decide), fun t2 ht2 => out H10 s910 h1' t ht t2 ht2⟩
      | false =>
        refine iteT ?_
        refine ⟨_, rfl, _, rfl, _, rfl, ra, D, wad', rows, ks, ws', rfl, scn s910 h1' h2 h3, fun x H11 s11 => ?_, fun H11 s11 hne => ?_⟩
        · refine ⟨rfl, _, rfl, ?_⟩
          refine iteF ?_
          have s811 := s910.trans s11
          refine ⟨_, rfl, _, rfl, D, _, rfl, .inl ⟨SqL.of (s811 _ _ hD8), fun t ht => ?_⟩⟩
          exact ⟨_, rfl, (by show 3 ≤ sizeLine; decide), fun t2 ht2 => out H11 s811 (WantsAt.mono _ _ _ _ s11 h1') t ht t2 ht2⟩
        · refine ⟨rfl, _, rfl, ?_⟩
          refine iteT ?_
          refine ⟨_, fun _ _ z => z, ?_⟩
          have s811 := s910.trans s11
          refine ⟨_, rfl, 1, rfl, ?_⟩
          unfold tNoPart
          refine tup_drop (K := K) (n := 1) WantAt.mono (WantsAt.mono _ _ _ _ s11 h1') fun rr H12 s12 hW12 => ?_
          have hpos : 0 < ws'.length := List.length_pos_iff.mpr hne
          exact ⟨_, by rw [List.length_drop]; omega, rr, ws'.drop 1, rfl, s811.trans s12, hW12, by rw [List.length_drop]; omega, fun x hx => h3 x (List.mem_of_mem_drop hx), rfl⟩
end
end K70

end
section
set_option maxRecDepth 100000
set_option maxHeartbeats 4000000
/-! law: what is easier; what stays; the law. -/
namespace K70
open PySem PySem.Spec PyProof.Rows L2 K70M
/-- whoever builds the one builds the other, with no more -/
def EasyOk (rows : List Row) (kits : List (List Row)) (ws : List Want) (rows' : List Row) (kits' : List (List Row)) (ws' : List Want) : Prop := ∀ n, Built rows kits ws n → ∃ n', Built rows' kits' ws' n' ∧ n'.sum ≤ n.sum
theorem easy_heap {rows rows' : List Row} {kits : List (List Row)} {ws : List Want} (h : ∀ p, cnt rows p ≤ cnt rows' p) : EasyOk rows kits ws rows' kits ws := fun n ⟨h1, h2, h3⟩ => ⟨n, ⟨h1, h2, h3.mono fun p => comb_heap (h p) n⟩, Int.le_refl _⟩
theorem easy_kit {rows k : List Row} {kits : List (List Row)} {ws : List Want} : EasyOk rows kits ws rows (kits ++ [k]) ws := fun n ⟨h1, h2, h3⟩ => by
  refine ⟨n ++ [0], ⟨by rw [List.length_append, List.length_append, h1]; rfl, fun x hx => ?_, ?_⟩, by rw [sum_snoc]; omega⟩
  · rcases List.mem_append.mp hx with z | z
    · exact h2 x z
    · rw [List.mem_singleton.mp z]; exact Int.le_refl _
  · exact h3.mono fun p => Int.le_of_eq (comb_kit h1).symm
theorem easy_first {rows k k' : List Row} {kits : List (List Row)} {ws : List Want} (h : ∀ p, cnt k p ≤ cnt k' p) : EasyOk rows (k :: kits) ws rows (k' :: kits) ws := fun n ⟨h1, h2, h3⟩ => ⟨n, ⟨h1, h2, h3.mono fun p => comb_first (h p) h2⟩, Int.le_refl _⟩
theorem easy_erase {rows : List Row} {kits : List (List Row)} {a b : List Want} {w : Want} : EasyOk rows kits (a ++ w :: b) rows kits (a ++ b) := fun n ⟨h1, h2, h3⟩ => ⟨n, ⟨h1, h2, by
  rw [List.map_append] at h3 ⊢
  rw [List.map_cons] at h3
  exact h3.erase⟩, Int.le_refl _⟩
theorem easy_wider {rows : List Row} {kits : List (List Row)} {a b : List Want} {w w' : Want} (h : ∀ p, (wtP w).1 p = true → (wtP w').1 p = true) (e : w'.2.2 = w.2.2) : EasyOk rows kits (a ++ w :: b) rows kits (a ++ w' :: b) := fun n ⟨h1, h2, h3⟩ => ⟨n, ⟨h1, h2, by
  rw [List.map_append, List.map_cons] at h3 ⊢
  exact h3.wider h e⟩, Int.le_refl _⟩
/-- all that is no list stays -/
def NL (H H' : Hp) : Prop := ∀ a o, H a = some o → (∀ xs, o ≠ .lst xs) → H' a = some o
theorem NL.of {H H' : Hp} (s : Same H H') : NL H H' := fun a o h _ => s a o h
theorem NL.tap {H H' : Hp} {tp cl : Addr} {n : Nat} (t : TapAt H tp cl n) (k : Kept [tp] H H') : NL H H' := fun a o h n => by
  obtain ⟨_, _, _, _, h1, _⟩ := t
  refine k1at k h fun z => ?_
  rw [z, h1] at h
  exact n _ (Option.some.inj h).symm
theorem NL.put {H : Hp} {D : Addr} {o : HO} {xs : List V} (hD : H D = some (.lst xs)) : NL H (upd H D o) := fun a u h n => by
  rw [upd_ne (fun z => by rw [z, hD] at h; exact n _ (Option.some.inj h).symm)]
  exact h
theorem NL.trans {H H1 H2 : Hp} (a : NL H H1) (b : NL H1 H2) : NL H H2 := fun x o h n => b x o (a x o h n) n
theorem NL.tup {H H' : Hp} {a : Addr} {xs : List V} (s : NL H H') (h : H a = some (.tup xs)) : H' a = some (.tup xs) := s a _ h fun xs z => by cases z
theorem NL.row {H H' : Hp} {a : Addr} {r : Row} (s : NL H H') (h : RowAt H a r) : RowAt H' a r := s.tup h
theorem NL.want {H H' : Hp} {a : Addr} {r : Want} (s : NL H H') (h : WantAt H a r) : WantAt H' a r := by
  obtain ⟨t, h1, h2, h3⟩ := h
  exact ⟨t, s.tup h1, s.tup h2, h3⟩
theorem NL.tups {β : Type} {R : Hp → Addr → β → Prop} {H H' : Hp} {t : Addr} {bs : List β} (f : ∀ a b, R H a b → R H' a b) (s : NL H H') (h : TupOf R H t bs) : TupOf R H' t bs := by
  obtain ⟨as, h1, h2⟩ := h
  exact ⟨as, s.tup h1, Paired_mono f h2⟩
theorem NL.rows {H H' : Hp} {a : Addr} {r : List Row} (s : NL H H') (h : RowsAt H a r) : RowsAt H' a r := NL.tups (fun _ _ => s.row) s h
theorem NL.wants {H H' : Hp} {a : Addr} {r : List Want} (s : NL H H') (h : WantsAt H a r) : WantsAt H' a r := NL.tups (fun _ _ => s.want) s h
theorem NL.heap {C : Addr} {H H' : Hp} {a : Addr} {r : List Row} (s : NL H H') (h : HeapAt C H a r) : HeapAt C H' a r := ⟨by
  obtain ⟨dx, t, h1, h2⟩ := h.ob
  exact ⟨dx, t, s a _ h1 (fun xs z => by cases z), s.rows h2⟩, h.nd, h.nn⟩
theorem NL.heaps {C : Addr} {H H' : Hp} {a : Addr} {r : List (List Row)} (s : NL H H') (h : HeapsAt C H a r) : HeapsAt C H' a r := NL.tups (fun _ _ => s.heap) s h
theorem NL.srow {H H' : Hp} {a : Addr} {r : List Want} (s : NL H H') (h : SRowAt H a r) : SRowAt H' a r := by
  obtain ⟨t, h1, h2⟩ := h
  exact ⟨t, s.tup h1, s.wants h2⟩
theorem NL.sheet {H H' : Hp} {a : Addr} {r : List (List Want)} (s : NL H H') (h : TupOf SRowAt H a r) : TupOf SRowAt H' a r := NL.tups (fun _ _ => s.srow) s h
/-- a scene that is easier -/
structure Easier (C : Addr) (rows : List Row) (kits : List (List Row)) (ws : List Want) (H : Hp) (a : Addr) (u : Unit) : Prop where
  e : ∃ (h ks sa : Addr) (rows' : List Row) (kits' : List (List Row)) (wss : List (List Want)), H a = some (.tup [.ref h, .ref ks, .ref sa]) ∧ HeapAt C H h rows' ∧ rows'.length ≤ 100 ∧ HeapsAt C H ks kits' ∧ KitsOk kits' ∧ TupOf SRowAt H sa wss ∧ WantsOk wss.flatten ∧ EasyOk rows kits ws rows' kits' wss.flatten
theorem NL.easier {C : Addr} {rows : List Row} {kits : List (List Row)} {ws : List Want} {H H' : Hp} {a : Addr} {u : Unit} (s : NL H H') (h : Easier C rows kits ws H a u) : Easier C rows kits ws H' a u := ⟨by
  obtain ⟨h', ks, sa, r', k', wss, g1, g2, g3, g4, g5, g6, g7, g8⟩ := h.e
  exact ⟨h', ks, sa, r', k', wss, s.tup g1, s.heap g2, g3, s.heaps g4, g5, s.sheet g6, g7, g8⟩⟩
def spLaw (K : PySem.W.Frag) : Sp := fun vs H Q _ => ∃ (a : Addr) (ns : List Int), vs = [.ref a] ∧ SqL K H a (ns.map V.int) ∧ ns.length ≤ 63 ∧ ∀ H', Q (.bl true) H'
theorem gen_ok {ws : List Want} (hl : ws.length ≤ 6) (h : ∀ w ∈ ws, WantGen 6 w) : WantsOk ws := by
  refine ⟨by omega, fun w hw => ⟨by have := (h w hw).1; omega, by have := (h w hw).2.1; omega⟩, ?_⟩
  have : ∀ l : List Want, (∀ w ∈ l, WantGen 6 w) → (l.map (·.2.2)).sum ≤ 6 * (l.length : Int) := fun l => by
    induction l with
    | nil => intro _; simp
    | cons w r ih =>
      intro hw
      have h1 := (hw w List.mem_cons_self).2.2
      have h2 := ih fun x hx => hw x (List.mem_cons_of_mem _ hx)
      rw [List.map_cons, List.sum_cons, List.length_cons]
      omega
  have := this ws h
  omega
theorem ok_sub {ws ws' : List Want} (h : WantsOk ws) (hl : ws'.length ≤ ws.length) (hm : ∀ w ∈ ws', w.2.1.length ≤ 16 ∧ 0 ≤ w.2.2) (hs : (ws'.map (·.2.2)).sum ≤ (ws.map (·.2.2)).sum) : WantsOk ws' := ⟨by have := h.1; omega, hm, by have := h.2.2; omega⟩
theorem made_heapG {C x dx t : Addr} {H1 : Hp} {rows : List Row} {G : Hp → Prop} {E : XK} (nx : H1 x = none) (ndx : H1 dx = none) (nex : dx ≠ x) (hR : RowsAt H1 t rows) (hn : NN rows) (hl : rows.length ≤ 1000)
    (k : ∀ (rows' : List Row) (H' : Hp), Same H1 H' → HeapAt C H' x rows' → (∀ q, cnt rows' q = cnt rows q) → rows'.length ≤ rows.length → G H') :
    spHInit C (.ref x :: ([.ref t] ++ [])) (upd (upd H1 dx (.own x)) x (.ins C dx [])) (fun v H2 => v = .non ∧ G H2) E := made_heap (Q := fun _ H => G H) nx ndx nex hR hn hl k
/-- a block cut behind its first statement: what stands there is told once -/
theorem pss_cut {X : Cx} {st : Stmt} {rest : List Stmt} {t u : TS} (h1 : PS X st t) (h2 : PSs X rest u) : PSs X (st :: rest) (fun D σ H => ∃ S : L2.St → Hp → Prop, t { D with nx := S } σ H ∧ ∀ σ' H', S σ' H' → u D σ' H') := by
  refine ⟨fun pins s σ H D I h => ?_⟩
  obtain ⟨S, h, hS⟩ := h
  refine wpAny_execs_cons (thn (h1.run pins s σ H { D with nx := S } I h) fun f s1 q => ?_)
  cases f with
  | next =>
    obtain ⟨σ', H', I', q⟩ := q
    exact h2.run pins s1 σ' H' D I' (hS _ _ q)
  | ret v => exact q
  | brk => exact q
  | cont => exact q
theorem split_at {ws : List Want} {i : Nat} {w0 : Want} (h : ws[i]? = some w0) : ws = ws.take i ++ w0 :: ws.drop (i + 1) := by
  obtain ⟨hi, e⟩ := List.getElem?_eq_some_iff.mp h
  rw [← e, ← List.drop_eq_getElem_cons hi, List.take_append_drop]
theorem sums_split {a b : List Want} {w0 : Want} : ((a ++ w0 :: b).map (·.2.2)).sum = (a.map (·.2.2)).sum + w0.2.2 + (b.map (·.2.2)).sum := by
  rw [List.map_append, List.sum_append, List.map_cons, List.sum_cons]
  omega
theorem sums_app {a b : List Want} : ((a ++ b).map (·.2.2)).sum = (a.map (·.2.2)).sum + (b.map (·.2.2)).sum := by
  rw [List.map_append, List.sum_append]
theorem told_no_more {rows rows' : List Row} {kits kits' : List (List Row)} {ws ws' : List Want} {n : List Int} {v : V} (hl : Least rows kits ws n) (he : EasyOk rows kits ws rows' kits' ws') (ht : ToldV rows' kits' ws' v) : ∃ x, v = .int x ∧ x ≤ n.sum := by
  obtain ⟨n', h1, h2⟩ := he n hl.1
  rcases ht with ⟨_, h⟩ | ⟨n2, h3, h4⟩
  · exact absurd ⟨n', h1⟩ h
  · exact ⟨_, h3, Int.le_trans (h4.2 n' h1) h2⟩
section
variable {P : Program} {w : World} {K : PySem.W.Frag} {mg : Str → Option Value} {base : Heap}
theorem ok_law {f C : Addr} {fd : FuncData} (F : Fun K "law" "law" s_law f fd) (T : HT0 K mg C) (M : Mkl P w K mg base C) (Pl : Ml P w K mg base 4 C "plus" ["self", "other"] [] (spHPlus C))
    (tapc : Cl P w K mg base CX0 1 "_law_tap" ["_law_script"] [] (spTap K)) (pi : Cl P w K mg base CX0 1 "_law_pick" ["_law_tap_here", "_law_many"] [] spPick) (sc : Cl P w K mg base CX0 5 "_law_scene" ["_law_tap_here", "_law_most_now"] [] spScene) (sh : Cl P w K mg base CX0 2 "_law_sheet" ["_law_tap_here", "_law_wants_here"] [] spSheet)
    (ro : Cl P w K mg base CX0 2 "_law_rows" ["_law_tap_here", "_law_words_here", "_law_many", "_law_most_now"] [] spRows) (to : Cl P w K mg base CX0 9 "_law_told" ["_law_heap", "_law_heaps", "_law_sheet_here"] [] (spTold C)) (wi : Cl P w K mg base CX0 1 "_law_wider" ["_law_want"] [] spWider) :
    FnOk P w K mg base CX0 10 f fd ["_law_script"] (spLaw K) := by
  refine F.ok sc_law (fun vs H Q E h => ?_) (fun cdv A outer s H vs Q E hr h => ?_)
  · obtain ⟨_, _, rfl, _⟩ := h
    rfl
  · obtain ⟨a, ns, rfl, hS, hl63, kk⟩ := h
    have nd := sc_law.nd
    have hr1 : Room 1 _ := hr.mono (by decide)
    have hr2 : Room 2 _ := hr.mono (by decide)
    have hr3 : Room 3 _ := hr.mono (by decide)
    have hr4 : Room 4 _ := hr.mono (by decide)
    have hr5 : Room 5 _ := hr.mono (by decide)
    refine ⟨_, pss_cons (ps_set (i := 1) nd rfl (Or.inl rfl) (pe_k tapc hr1 rfl pass0 (pa_cons (pv 0) pa_nil)))
      (pss_cons (ps_set (i := 2) nd rfl (Or.inl rfl) (pe_tup (pa_cons (pe_lst (pa_cons pe_str (pa_cons pe_str (pa_cons pe_str (pa_cons pe_str pa_nil))))) (pa_cons (pe_lst (pa_cons pe_str (pa_cons pe_str (pa_cons pe_str (pa_cons pe_str pa_nil))))) pa_nil))))
      (pss_cons (ps_asg (pe_k sc hr5 rfl pass0 (pa_cons (pv 1) (pa_cons pe_int pa_nil))) (pg_tup rfl (pgs_cons (pg_name (i := 3) nd rfl (Or.inl rfl)) (pgs_cons (pg_name (i := 4) nd rfl (Or.inl rfl)) (pgs_cons (pg_name (i := 5) nd rfl (Or.inl rfl)) pgs_nil)))))
      (pss_cons (ps_set (i := 6) nd rfl (Or.inl rfl) (pe_k sh hr2 rfl pass0 (pa_cons (pv 1) (pa_cons (pv 5) pa_nil))))
      (pss_cons (ps_par (i := 7) (j := 8) (by rfl) nd rfl rfl (by decide) rfl rfl (pa_cons (pe_heap M hr3 (by rfl) T.mgC pass0 (pa_cons (pv 3) pa_nil)) (pa_cons (pe_callTy call_tuple_of (by rfl) T.b.tuple (by decide +kernel) (pa_cons
          (pe_lc (own := [("_law_kit", 16)]) (g := gName 16) (tt := tYes) rfl nd (pi_tup (pv 4))
            (blkOk_by (N := ["_law_script", "_law_tap_here", "_law_words_here", "_law_rows_here", "_law_kits", "_law_wants_here", "_law_sheet_here", "_law_heap", "_law_heaps", "_law_least", "_law_more", "_law_easier", "_law_at", "_law_some_here", "_law_told_now", "_law_fewer", "_law_kit"]) (sc := defScope s_law) (by decide +kernel))
            (fun _ _ _ _ _ => pg_name (i := 16) nd rfl (Or.inl rfl)) (fun _ _ _ _ _ => pts_nil) (fun _ _ _ _ _ => pe_heap (E := E0) M hr3 (by rfl) T.mgC pass0 (pa_cons (pv 16) pa_nil))) pa_nil)) pa_nil)) (by rfl))
      (pss_cons (ps_set (i := 9) nd rfl (Or.inl rfl) (pe_k to hr rfl pass0 (pa_cons (pv 7) (pa_cons (pv 8) (pa_cons (pv 6) pa_nil)))))
      (pss_cons (ps_set (i := 10) nd rfl (Or.inl rfl) (pe_heap M hr3 (by rfl) T.mgC pass0 (pa_cons (pe_k ro hr2 rfl pass0 (pa_cons (pv 1) (pa_cons (pv 2) (pa_cons (pe_op op_add pe_int (pe_k pi hr1 rfl pass0 (pa_cons (pv 1) (pa_cons pe_int pa_nil)))) (pa_cons pe_int pa_nil))))) pa_nil)))
      (pss_cons (ps_set (i := 11) nd rfl (Or.inl rfl) (pe_lst (pa_cons (pe_tup (pa_cons (pe_mk (pv 7) T.cl Pl hr4 pass0 (pa_cons (pv 10) pa_nil)) (pa_cons (pv 8) (pa_cons (pv 6) pa_nil)))) pa_nil)))
      (pss_cut (ps_if (pt_cmpR op_lt (pe_callB call_len_seq (by rfl) T.b.len PySem.boot_len (pa_cons (pv 4) pa_nil)) pe_int (nomark _))
        (pss_one (ps_expr (pe_bm PySem.F.plainAttrs_list PySem.F.slot_list_append PySem.F.type_list_append mt_append (pv 11) (pa_cons (pe_tup (pa_cons (pv 7) (pa_cons (pe_op op_catA (pv 8) (pe_tup (pa_cons (pv 10) pa_nil))) (pa_cons (pv 6) pa_nil)))) pa_nil)))) pss_nil)
      (pss_cut (ps_if (pt_cmpR (op_neD hr.units) (pv 4) (pe_tup pa_nil) (nomark _))
        (pss_one (ps_expr (pe_bm PySem.F.plainAttrs_list PySem.F.slot_list_append PySem.F.type_list_append mt_append (pv 11) (pa_cons (pe_tup (pa_cons (pv 7) (pa_cons (pe_op op_catA (pe_tup (pa_cons (pe_mk (pe_ix ix_tup (pv 8) pe_int (fun _ _ => rfl)) T.cl Pl hr4 pass0 (pa_cons (pv 10) pa_nil)) pa_nil)) (pe_slice sl_tupA (pv 8) (po_some pe_int) po_none)) (pa_cons (pv 6) pa_nil)))) pa_nil)))) pss_nil)
      (pss_cut (ps_if (pt_cmpR (op_neD hr.units) (pv 5) (pe_tup pa_nil) (nomark _))
        (pss_cons (ps_set (i := 12) nd rfl (Or.inl rfl) (pe_k pi hr1 rfl pass0 (pa_cons (pv 1) (pa_cons (pe_callB call_len_seq (by rfl) T.b.len PySem.boot_len (pa_cons (pv 5) pa_nil)) pa_nil))))
        (pss_cons (ps_expr (pe_bm PySem.F.plainAttrs_list PySem.F.slot_list_append PySem.F.type_list_append mt_append (pv 11) (pa_cons (pe_tup (pa_cons (pv 7) (pa_cons (pv 8) (pa_cons (pe_tup (pa_cons (pe_tup (pa_cons (pe_op op_catA (pe_slice sl_tupA (pv 5) po_none (po_some (pv 12))) (pe_slice sl_tupA (pv 5) (po_some (pe_op op_add (pv 12) pe_int)) po_none)) pa_nil)) pa_nil)) pa_nil)))) pa_nil)))
        (pss_one (ps_expr (pe_bm PySem.F.plainAttrs_list PySem.F.slot_list_append PySem.F.type_list_append mt_append (pv 11) (pa_cons (pe_tup (pa_cons (pv 7) (pa_cons (pv 8) (pa_cons (pe_tup (pa_cons (pe_tup (pa_cons (pe_op op_catA (pe_op op_catA (pe_slice sl_tupA (pv 5) po_none (po_some (pv 12))) (pe_tup (pa_cons (pe_k wi hr1 rfl pass0 (pa_cons (pe_ix ix_tup (pv 5) (pv 12) (fun _ _ => rfl)) pa_nil)) pa_nil))) (pe_slice sl_tupA (pv 5) (po_some (pe_op op_add (pv 12) pe_int)) po_none)) pa_nil)) pa_nil)) pa_nil)))) pa_nil)))))) pss_nil)
      (pss_cons (ps_for PassesOwn.never rfl (pi_list (pv 11)) (pg_name (i := 13) nd rfl (Or.inl rfl))
        (pss_one (ps_if (pt_cmpR op_notN (pv 9) pe_non (nomark _))
          (pss_cons (ps_set (i := 14) nd rfl (Or.inl rfl) (pe_k to hr rfl pass0 (pa_cons (pe_ix ix_tup (pv 13) pe_int (fun _ _ => rfl)) (pa_cons (pe_ix ix_tup (pv 13) pe_int (fun _ _ => rfl)) (pa_cons (pe_ix ix_tup (pv 13) pe_int (fun _ _ => rfl)) pa_nil)))))
          (pss_one (ps_if (PW.pt (pw_or (pt_cmpR op_isN (pv 14) pe_non (nomark _)) (pw_or1 (pt_cmpR op_gt (pv 14) (pv 9) (nomark _))))) (pss_one (ps_ret pe_bl)) pss_nil))) pss_nil)))
      (pss_cut (ps_if (PW.pt (pw_and (pt_cmpR (op_neD hr.units) (pv 5) (pe_tup pa_nil) (nomark _)) (pw_and1 (pt_cmpR op_notN (pv 9) pe_non (nomark _)))))
        (pss_cons (ps_set (i := 15) nd rfl (Or.inl rfl) (pe_k to hr rfl pass0 (pa_cons (pv 7) (pa_cons (pv 8) (pa_cons (pe_tup (pa_cons (pe_tup (pa_cons (pe_slice sl_tupA (pv 5) (po_some pe_int) po_none) pa_nil)) pa_nil)) pa_nil)))))
        (pss_one (ps_if (PW.pt (pw_or (pt_cmpR op_isN (pv 15) pe_non (nomark _)) (pw_or1 (pt_cmpR op_gt (pv 15) (pv 9) (nomark _))))) (pss_one (ps_ret pe_bl)) pss_nil))) pss_nil)
      (pss_one (ps_ret (pe_cmpR op_eq (pe_k to hr rfl pass0 (pa_cons (pv 7) (pa_cons (pv 8) (pa_cons (pe_tup pa_nil) pa_nil)))) pe_int (nomark _)))))))))))))))), ?_⟩
    refine ⟨_, rfl, a, ns, rfl, hS, hl63, fun tp cl H1 ntp ncl s1 T1 => ?_⟩
    refine ⟨(by show 4 ≤ sizeLine; decide), fun l1 hl1 => ?_⟩
    have g1 := same_new (o := .lst ([Str.ofString "br", Str.ofString "brick", Str.ofString "plate", Str.ofString "x"].map V.str)) hl1
    refine ⟨(by show 4 ≤ sizeLine; decide), fun l2 hl2 => ?_⟩
    have g2 := same_new (o := .lst ([Str.ofString "blue", Str.ofString "re", Str.ofString "red", Str.ofString "z"].map V.str)) hl2
    refine ⟨(by show 2 ≤ sizeLine; decide), fun wd hwd => ?_⟩
    have g3 := same_new (o := .tup [.ref l1, .ref l2]) hwd
    have s2 := (g1.trans g2).trans g3
    have T2 := T1.mono s2
    have hok : WordsOk [Str.ofString "br", Str.ofString "brick", Str.ofString "plate", Str.ofString "x"] [Str.ofString "blue", Str.ofString "re", Str.ofString "red", Str.ofString "z"] := ⟨by decide, by decide, by decide, by decide, by decide +kernel, by decide +kernel⟩
    have hWd2 : WordsAt _ wd [Str.ofString "br", Str.ofString "brick", Str.ofString "plate", Str.ofString "x"] [Str.ofString "blue", Str.ofString "re", Str.ofString "red", Str.ofString "z"] := ⟨l1, l2, upd_same, g3 _ _ (g2 _ _ upd_same), g3 _ _ upd_same⟩
    generalize [Str.ofString "br", Str.ofString "brick", Str.ofString "plate", Str.ofString "x"] = fs at hok hWd2
    generalize [Str.ofString "blue", Str.ofString "re", Str.ofString "red", Str.ofString "z"] = ss at hok hWd2
    refine ⟨_, rfl, tp, cl, rfl, T2, fun t r k wa rows ks ws H3 k3 T3 ht hR3 hK3 hW3 hOk => ?_⟩
    have hWd3 := hWd2.kept T2 k3
    refine ⟨t, _, rfl, SqT.of ht, rfl, _, _, rfl, _, _, rfl, _, _, rfl, rfl, ?_⟩
    refine ⟨_, rfl, _, rfl, tp, cl, wa, 1000, ws, rfl, by omega, T3, hW3, by have := hOk.w; omega, fun sa wss H4 k4 T4 hsh4 hfl => ?_⟩
    have hWd4 := hWd3.kept T3 k4
    have N34 := NL.tap T3 k4
    have hR4 := N34.rows hR3
    have hK4 : TupOf RowsAt H4 k ks := NL.tups (fun _ _ => N34.rows) N34 hK3
    have hW4 := N34.wants hW3
    have nnr : NN rows := fun e he => by have := hOk.rr e he; omega
    have hrl := hOk.r
    -- heap, heaps
    refine ⟨_, rfl, fun h dh nh ndh neh => ?_⟩
    refine made_heapG nh ndh neh hR4 nnr (by omega) fun rows0 H5 s5 hh5 hc5 hl5 => ?_
    obtain ⟨kas, hKt, hKP⟩ := TupOf.mono RowsAt.mono s5 hK4
    refine ⟨_, rfl, k, rfl, ⟨_, SqT.of hKt⟩, fun D hD => ?_⟩
    refine lc_tup (K := K) (a := k) (xs := kas.map V.ref) (fun i H6 => Same H5 H6 ∧ ∃ (has : List Addr) (kits0 : List (List Row)), H6 D = some (.lst (has.map V.ref)) ∧ Paired (HeapAt C H6) has kits0 ∧ kits0.length = i ∧ ∀ x ∈ kits0, x.length ≤ 4)
      ⟨same_new hD, [], [], upd_same, .nil, rfl, (fun x hx => by cases hx)⟩ (fun i H6 _ ⟨s6, _⟩ => SqT.of (s6 _ _ hKt)) ?_ ?_
    · rintro i y H6 hi ⟨s6, has, kits0, hb, hP, hkl, hk4⟩
      obtain ⟨ka, kr, q1, q2, rfl, q3⟩ := pget hKP hi
      have hil : i < ks.length := (List.getElem?_eq_some_iff.mp q2).1
      have hkr := hOk.kr kr (List.mem_of_getElem? q2)
      have hk0 := hOk.k
      refine ⟨rfl, _, rfl, fun x dx nx ndx nex => ?_⟩
      refine made_heapG nx ndx nex (RowsAt.mono _ _ _ _ s6 q3) (fun e he => by have := (hkr.2 e he).1; omega) (by omega) fun rows1 H7 s7 hA hc hl => ?_
      refine ⟨_, s7 _ _ hb, by rw [List.length_map, hP.length, sizeLine_eq]; omega, same_put (s6.trans s7) hD, has ++ [x], kits0 ++ [rows1], by rw [upd_same, List.map_append]; rfl, Paired_snoc (Paired_mono (fun a b hx => (NL.put (s7 _ _ hb)).heap (hx.mono _ _ _ _ s7)) hP) ((NL.put (s7 _ _ hb)).heap hA), by rw [List.length_append]; show kits0.length + 1 = i + 1; omega, fun z hz => ?_⟩
      rcases List.mem_append.mp hz with q | q
      · exact hk4 z q
      · rw [List.mem_singleton.mp q]; omega
    rintro H6 ⟨s6, has, kits0, hb, hP6, hkl, hk4⟩
    rw [List.length_map, hKP.length] at hkl
    refine ⟨D, _, rfl, .inl ⟨SqL.of hb, fun ks0 hks0 => ?_⟩⟩
    have s7 := same_new (o := .tup (has.map V.ref)) hks0
    have s57 := s6.trans s7
    have s47 := s5.trans s57
    have hhs7 : HeapsAt C (upd H6 ks0 (.tup (has.map V.ref))) ks0 kits0 := ⟨has, upd_same, Paired_mono (fun a b hx => hx.mono _ _ _ _ s7) hP6⟩
    have hh7 := hh5.mono _ _ _ _ s57
    have hsh7 : TupOf SRowAt (upd H6 ks0 (.tup (has.map V.ref))) sa wss := TupOf.mono SRowAt.mono s47 hsh4
    have hKo : KitsOk kits0 := ⟨by have := hOk.k; omega, fun x hx => by have := hk4 x hx; omega⟩
    have hWo : WantsOk wss.flatten := by rw [hfl]; exact gen_ok hOk.w hOk.ww
    have hWo' : WantsOk ws := by rw [← hfl]; exact hWo
    refine ⟨_, _, rfl, ?_⟩
    -- least
    refine ⟨_, rfl, _, rfl, _, rfl, h, ks0, sa, rows0, kits0, wss, rfl, hh7, by omega, hhs7, hKo, hsh7, hWo, fun lv H8 s8 hlv => ?_⟩
    rw [hfl] at hlv
    have s48 := s47.trans s8
    have T8 := T4.mono s48
    have hWd8 := hWd4.mono s48
    -- more
    refine ⟨_, rfl, _, rfl, _, rfl, tp, cl, 2, 1000 + ws.length, rfl, by decide, by decide, by have := hOk.w; omega, T8, fun r1 H9 hr1' k9 T9 => ?_⟩
    have N89 := NL.tap T8 k9
    refine ⟨_, _, rfl, rfl, tp, cl, wd, 1 + r1, 3, 1000 + ws.length + 1, fs, ss, by show _ = [V.ref tp, V.ref wd, V.int ((1 + r1 : Nat) : Int), V.int 3]; rw [Int.natCast_add]; rfl, by have := hOk.w; omega, T9, hWd8.kept T8 k9, hok, by omega, by decide, by decide, fun ma mrows H10 k10 T10 hM hMl hMv => ?_⟩
    have N10 := N89.trans (NL.tap T9 k10)
    intro m dm nm ndm nem
    refine made_heapG nm ndm nem hM (fun e he => by have := (hMv e he).1; omega) (by omega) fun rowsM H11 s11 hm11 hcM hlM => ?_
    have N11 := N10.trans (NL.of s11)
    have T11 := T10.mono s11
    have N711 := (NL.of s8).trans N11
    have N411 := (NL.of s48).trans N11
    have hh11 := N711.heap hh7
    have hhs11 := N711.heaps hhs7
    have hsh11 := N711.sheet hsh7
    have nnM := hm11.nn
    -- easier
    obtain ⟨dxh, th, hob, _⟩ := hh11.ob
    refine ⟨_, rfl, h, dxh, _, rfl, hob, rfl, _, rfl, h, m, rows0, rowsM, rfl, hh11, hm11, by omega, fun ra1 rowsA H12 s12 hA hcA hlA => ?_⟩
    refine ⟨_, rfl, _, rfl, (by show 3 ≤ sizeLine; decide), fun e1 he1 => ?_⟩
    have s13 := same_new (o := .tup [.ref ra1, .ref ks0, .ref sa]) he1
    refine ⟨(by show 1 ≤ sizeLine; decide), fun el hel => ?_⟩
    have s14 := same_new (o := .lst [.ref e1]) hel
    have sE := (s12.trans s13).trans s14
    have TE := T11.mono sE
    have nel := ((T11.mono s12).mono s13).new (H' := H) hel
    have E1 : Easier C rows0 kits0 ws _ e1 () := ⟨ra1, ks0, sa, rowsA, kits0, wss, s14 _ _ upd_same, hA.mono _ _ _ _ (s13.trans s14), by omega, HeapsAt.mono _ _ _ _ sE hhs11, hKo, TupOf.mono SRowAt.mono sE hsh11, hWo, by rw [hfl]; exact easy_heap fun p => by rw [hcA]; have := cnt_nonneg nnM p; omega⟩
    have helE : (upd (upd H12 e1 (.tup [.ref ra1, .ref ks0, .ref sa])) el (.lst [.ref e1])) el = some (.lst [.ref e1]) := upd_same
    have hhE := hh11.mono _ _ _ _ sE
    have hhsE := HeapsAt.mono _ _ _ _ sE hhs11
    have hshE : TupOf SRowAt _ sa wss := TupOf.mono SRowAt.mono sE hsh11
    have hmE := hm11.mono _ _ _ _ sE
    have hWE := WantsAt.mono _ _ _ _ sE (N411.wants hW4)
    have hKE : TupOf RowsAt _ k ks := TupOf.mono RowsAt.mono sE (NL.tups (fun _ _ => N411.rows) N411 hK4)
    generalize upd (upd H12 e1 (.tup [.ref ra1, .ref ks0, .ref sa])) el (.lst [.ref e1]) = HE at *
    have TE := TE.le (m := 1100) (by have := hOk.w; omega)
    have hkitsLen : kits0.length = ks.length := hkl
    have hrow0 : rows0.length ≤ 5 := by omega
    have hrowM : rowsM.length ≤ 2 := by omega
    -- what stands behind each if
    let St : Nat → Nat → L2.St → Hp → Prop := fun b n σ H' => ∃ (as : List Addr) (us : List Unit) (a12 : Option V), σ = [some (.ref a), some (.ref tp), some (.ref wd), some (.ref r), some (.ref k), some (.ref wa), some (.ref sa), some (.ref h), some (.ref ks0), some lv, some (.ref m), some (.ref el), a12, none, none, none, none] ∧ NL HE H' ∧ TapAt H' tp cl b ∧ H' el = some (.lst (as.map V.ref)) ∧ Paired (Easier C rows0 kits0 ws H') as us ∧ us.length ≤ n
    -- one more easier scene is appended
    have app : ∀ {H' : Hp} {as : List Addr} {us : List Unit} {q : Addr}, H' el = some (.lst (as.map V.ref)) → Paired (Easier C rows0 kits0 ws H') as us → Easier C rows0 kits0 ws H' q () → Paired (Easier C rows0 kits0 ws (upd H' el (.lst (as.map V.ref ++ [.ref q])))) (as ++ [q]) (us ++ [()]) := fun h1 h2 h3 => Paired_snoc (Paired_mono (fun a b hx => (NL.put h1).easier hx) h2) ((NL.put h1).easier h3)
    -- a kit more
    refine ⟨St 1100 2, ?_, ?_⟩
    · obtain ⟨kas2, hKt2, hKP2⟩ := hKE
      refine ⟨_, rfl, k, _, rfl, .inr (SqT.of hKt2), _, _, rfl, rfl, _, rfl, ?_⟩
      rw [List.length_map, hKP2.length]
      by_cases hk4' : ks.length < 4
      · rw [decide_eq_true (show (ks.length : Int) < 4 by omega)]
        refine iteT ?_
        refine ⟨_, rfl, .inl ⟨rfl, _, SqL.of helE⟩, _, rfl, _, rfl, _, rfl, (by show 1 ≤ sizeLine; decide), fun p1 hp1 => ?_⟩
        have t1 := same_new (o := .tup [.ref m]) hp1
        refine cat_tups (xs := kits0) (ys := [rowsM]) HeapAt.mono (HeapsAt.mono _ _ _ _ t1 hhsE) ⟨[m], upd_same, .cons (hmE.mono _ _ _ _ t1) .nil⟩ (by show kits0.length + 1 ≤ _; omega) fun rr H1' t2 hRR => ?_
        refine ⟨_, rfl, (by show 3 ≤ sizeLine; decide), fun q hq => ?_⟩
        have t3 := same_new (o := .tup [.ref h, .ref rr, .ref sa]) hq
        have t13 := (t1.trans t2).trans t3
        have hel1 := t13 _ _ helE
        refine ⟨el, _, _, rfl, rfl, hel1, (by show 1 < sizeLine; decide), ?_⟩
        have E2 : Easier C rows0 kits0 ws _ q () := ⟨h, rr, sa, rows0, kits0 ++ [rowsM], wss, upd_same, hhE.mono _ _ _ _ t13, by omega, HeapsAt.mono _ _ _ _ t3 hRR, ⟨by rw [List.length_append]; show kits0.length + 1 ≤ 4; omega, fun x hx => by
          rcases List.mem_append.mp hx with z | z
          · have := hk4 x z; omega
          · rw [List.mem_singleton.mp z]; omega⟩, TupOf.mono SRowAt.mono t13 hshE, hWo, by rw [hfl]; exact easy_kit⟩
        exact ⟨[e1] ++ [q], [()] ++ [()], _, rfl, (NL.of t13).trans (NL.put hel1), (TE.mono t13).put nel.1 nel.2, by rw [upd_same, List.map_append]; rfl, app (as := [e1]) (us := [()]) hel1 (.cons ((NL.of t13).easier E1) .nil) E2, by decide⟩
      · rw [decide_eq_false (show ¬ (ks.length : Int) < 4 by omega)]
        refine iteF ?_
        exact ⟨[e1], [()], _, rfl, NL.of (Same.refl _), TE, helE, .cons E1 .nil, by decide⟩
    rintro σ H1 ⟨as, us, a12, rfl, N1, T1, hel1, hes1, hul⟩
    -- a part more in the first kit
    refine ⟨St 1100 3, ?_, ?_⟩
    · have hK1 : TupOf RowsAt H1 k ks := NL.tups (fun _ _ => N1.rows) N1 hKE
      refine ⟨_, rfl, (by show 0 ≤ sizeLine; decide), fun z hz => ?_⟩
      have t0 := same_new (o := .tup []) hz
      refine ⟨_, _, kits_dp (TupOf.mono RowsAt.mono t0 hK1), .tup (SqT.of upd_same) .nil, kits_shaped fun x hx r hr => ((hOk.kr x hx).2 r hr).2, rfl, _, rfl, ?_⟩
      rw [eqv_nilG]
      by_cases hk0 : ks.length = 0
      · rw [decide_eq_true hk0]
        refine iteF ?_
        exact ⟨as, us, _, rfl, N1.trans (NL.of t0), T1.mono t0, t0 _ _ hel1, Paired_mono (fun a b hx => (NL.of t0).easier hx) hes1, by omega⟩
      · rw [decide_eq_false hk0]
        refine iteT ?_
        obtain ⟨k0, kr, hkk⟩ : ∃ k0 kr, kits0 = k0 :: kr := by
          cases hq : kits0 with
          | nil => rw [hq] at hkitsLen; exact absurd hkitsLen.symm hk0
          | cons x y => exact ⟨x, y, rfl⟩
        have N2 := N1.trans (NL.of t0)
        have hhs2 := N2.heaps hhsE
        obtain ⟨has2, hht2, hhP2⟩ := id hhs2
        have hkk0 : kits0[0]? = some k0 := by rw [hkk]; rfl
        obtain ⟨ka0, _, hka0, hkA⟩ := pgetB hhP2 hkk0
        obtain ⟨dxk, tk, hobk, _⟩ := hkA.ob
        have hk04 : k0.length ≤ 4 := hk4 k0 (by rw [hkk]; exact List.mem_cons_self)
        have hm2 := N2.heap hmE
        have hel2 := t0 _ _ hel1
        refine ⟨_, rfl, .inl ⟨rfl, _, SqL.of hel2⟩, _, rfl, _, rfl, ks0, _, 0, _, rfl, rfl, SqT.of hht2, atI_nat (j := 0) hka0, ka0, dxk, _, rfl, hobk, rfl, _, rfl, ka0, m, k0, rowsM, rfl, hkA, hm2, by omega, fun r1' rows1 H2 t1 hA1 hc1 hl1' => ?_⟩
        refine ⟨(by show 1 ≤ sizeLine; decide), fun p1 hp1 => ?_⟩
        have t2 := same_new (o := .tup [.ref r1']) hp1
        have t12 := t1.trans t2
        refine ⟨_, rfl, 1, rfl, ?_⟩
        unfold tNoPart
        refine tup_drop (K := K) (n := 1) HeapAt.mono (HeapsAt.mono _ _ _ _ t12 hhs2) fun rd H3' t3 hRD => ?_
        refine cat_tups (xs := [rows1]) (ys := kits0.drop 1) HeapAt.mono ⟨[r1'], t3 _ _ upd_same, .cons (hA1.mono _ _ _ _ (t2.trans t3)) .nil⟩ hRD (by rw [List.length_drop]; show 1 + (kits0.length - 1) ≤ _; omega) fun rr H4' t4 hRR => ?_
        refine ⟨_, rfl, (by show 3 ≤ sizeLine; decide), fun q hq => ?_⟩
        have t5 := same_new (o := .tup [.ref h, .ref rr, .ref sa]) hq
        have t15 := ((t12.trans t3).trans t4).trans t5
        have hel3 := t15 _ _ hel2
        refine ⟨el, _, _, rfl, rfl, hel3, by rw [List.length_map, hes1.length, sizeLine_eq]; omega, ?_⟩
        have N3 := N2.trans (NL.of t15)
        have E3 : Easier C rows0 kits0 ws _ q () := ⟨h, rr, sa, rows0, [rows1] ++ kits0.drop 1, wss, upd_same, N3.heap hhE, by omega, HeapsAt.mono _ _ _ _ t5 hRR, ⟨by rw [List.length_append, List.length_drop]; show 1 + (kits0.length - 1) ≤ 4; have := hKo.1; omega, fun x hx => by
          rcases List.mem_append.mp hx with z | z
          · rw [List.mem_singleton.mp z]; omega
          · have := hk4 x (List.mem_of_mem_drop z); omega⟩, N3.sheet hshE, hWo, by
            rw [hfl, hkk]
            exact easy_first fun p => by rw [hc1]; have := cnt_nonneg nnM p; omega⟩
        have t05 := t0.trans t15
        exact ⟨as ++ [q], us ++ [()], _, rfl, N3.trans (NL.put hel3), (T1.mono t05).put nel.1 nel.2, by rw [upd_same, List.map_append]; rfl, app hel3 (Paired_mono (fun a b hx => (NL.of t05).easier hx) hes1) E3, by rw [List.length_append]; show us.length + 1 ≤ 3; omega⟩
    rintro σ H2 ⟨as, us, a12, rfl, N2, T2', hel2, hes2, hul2⟩
    have wsl := hOk.w
    refine ⟨St 1200 5, ?_, ?_⟩
    · have hW2 := N2.wants hWE
      refine ⟨_, rfl, (by show 0 ≤ sizeLine; decide), fun z hz => ?_⟩
      have t0 := same_new (o := .tup []) hz
      refine ⟨_, _, wants_dp (WantsAt.mono _ _ _ _ t0 hW2), .tup (SqT.of upd_same) .nil, wants_shaped hW2, rfl, _, rfl, ?_⟩
      rw [eqv_nilG]
      by_cases hw0 : ws.length = 0
      · rw [decide_eq_true hw0]
        refine iteF ?_
        exact ⟨as, us, _, rfl, N2.trans (NL.of t0), (T2'.mono t0).le (by omega), t0 _ _ hel2, Paired_mono (fun a b hx => (NL.of t0).easier hx) hes2, by omega⟩
      · rw [decide_eq_false hw0]
        refine iteT ?_
        obtain ⟨was, hwt, hwP⟩ := WantsAt.mono _ _ _ _ t0 hW2
        refine ⟨_, rfl, _, rfl, wa, _, rfl, .inr (SqT.of hwt), tp, cl, ws.length, 1100, by rw [List.length_map, hwP.length]; rfl, by omega, by omega, by omega, T2'.mono t0, fun at_ H4' hat k4' T4' => ?_⟩
        have N24 := (NL.of t0).trans (NL.tap (T2'.mono t0) k4')
        have N4 := N2.trans N24
        have hel4 := k1at k4' (t0 _ _ hel2) nel.1
        have hes4 := Paired_mono (fun a b hx => N24.easier hx) hes2
        have hW4' := N4.wants hWE
        obtain ⟨w0, hw0'⟩ : ∃ w0, ws[at_]? = some w0 := ⟨_, List.getElem?_eq_getElem hat⟩
        have hsp := split_at hw0'
        have hmem : ∀ x ∈ ws, x.2.1.length ≤ 16 ∧ 0 ≤ x.2.2 := hWo'.2.1
        have hwin := List.mem_of_getElem? hw0'
        have hw0p := hmem w0 hwin
        have htk : (ws.take at_).length ≤ at_ := by rw [List.length_take]; omega
        have hdl : (ws.drop (at_ + 1)).length = ws.length - (at_ + 1) := List.length_drop
        have hsum := congrArg (fun l : List Want => (l.map (·.2.2)).sum) hsp
        have hsum : (ws.map (·.2.2)).sum = ((ws.take at_ ++ w0 :: ws.drop (at_ + 1)).map (·.2.2)).sum := hsum
        rw [sums_split] at hsum
        have e_at : ((at_ : Int) + 1) = ((at_ + 1 : Nat) : Int) := by omega
        -- a want less
        refine ⟨_, rfl, .inl ⟨rfl, _, SqL.of hel4⟩, _, rfl, _, rfl, _, rfl, _, rfl, _, rfl, ?_⟩
        refine tup_take (K := K) WantAt.mono hW4' fun ra H5' t5 hA5 => ?_
        refine ⟨_, rfl, _, rfl, _, _, rfl, rfl, _, rfl, ?_⟩
        unfold tNoPart
        show rSlA K (.ref wa) (some ((at_ : Int) + 1)) none H5' _
        rw [e_at]
        refine tup_drop (K := K) WantAt.mono (WantsAt.mono _ _ _ _ t5 hW4') fun rb H6' t6 hB6 => ?_
        refine cat_tups WantAt.mono (WantsAt.mono _ _ _ _ t6 hA5) hB6 (by omega) fun rc H7' t7 hC7 => ?_
        refine ⟨(by show 1 ≤ sizeLine; decide), fun p1 hp1 => ?_⟩
        have t8 := same_new (o := .tup [.ref rc]) hp1
        refine ⟨(by show 1 ≤ sizeLine; decide), fun p2 hp2 => ?_⟩
        have t9 := same_new (o := .tup [.ref p1]) hp2
        refine ⟨(by show 3 ≤ sizeLine; decide), fun q hq => ?_⟩
        have t10 := same_new (o := .tup [.ref h, .ref ks0, .ref p2]) hq
        have t810 := (t8.trans t9).trans t10
        have tA := ((t5.trans t6).trans t7).trans t810
        have hel5 := tA _ _ hel4
        refine ⟨el, _, _, rfl, rfl, hel5, by rw [List.length_map, hes4.length, sizeLine_eq]; omega, ?_⟩
        have N5 := N4.trans (NL.of tA)
        have E4 : Easier C rows0 kits0 ws _ q () := ⟨h, ks0, p2, rows0, kits0, [ws.take at_ ++ ws.drop (at_ + 1)], upd_same, N5.heap hhE, by omega, N5.heaps hhsE, hKo, ⟨[p1], t10 _ _ upd_same, .cons ⟨rc, t10 _ _ (t9 _ _ upd_same), WantsAt.mono _ _ _ _ t810 hC7⟩ .nil⟩, by
            simp only [List.flatten_cons, List.flatten_nil, List.append_nil]
            refine ok_sub hWo' (by rw [List.length_append]; omega) (fun x hx => hmem x ?_) (by rw [sums_app]; omega)
            rcases List.mem_append.mp hx with y | y
            · exact List.mem_of_mem_take y
            · exact List.mem_of_mem_drop y, by
            simp only [List.flatten_cons, List.flatten_nil, List.append_nil]
            have := easy_erase (rows := rows0) (kits := kits0) (a := ws.take at_) (b := ws.drop (at_ + 1)) (w := w0)
            rw [← hsp] at this
            exact this⟩
        have hes5 := app hel5 (Paired_mono (fun a b hx => (NL.of tA).easier hx) hes4) E4
        have T5' := ((T4'.mono tA).put (o := .lst (as.map V.ref ++ [.ref q])) nel.1 nel.2)
        have N6 := N5.trans (NL.put (o := .lst (as.map V.ref ++ [.ref q])) hel5)
        have hel6 : (upd (upd (upd (upd H7' p1 (.tup [.ref rc])) p2 (.tup [.ref p1])) q (.tup [.ref h, .ref ks0, .ref p2])) el (.lst (as.map V.ref ++ [.ref q]))) el = some (.lst ((as ++ [q]).map V.ref)) := by rw [upd_same, List.map_append]; rfl
        generalize upd (upd (upd (upd H7' p1 (.tup [.ref rc])) p2 (.tup [.ref p1])) q (.tup [.ref h, .ref ks0, .ref p2])) el (.lst (as.map V.ref ++ [.ref q])) = HX at *
        have hWX := N6.wants hWE
        -- a want wider
        refine ⟨_, rfl, .inl ⟨rfl, _, SqL.of hel6⟩, _, rfl, _, rfl, _, rfl, _, rfl, _, rfl, ?_⟩
        refine tup_take (K := K) WantAt.mono hWX fun ra2 H8' u1 hA8 => ?_
        obtain ⟨was2, hwt2, hwP2⟩ := WantsAt.mono _ _ _ _ u1 hWX
        obtain ⟨wad, _, hwad, hwA⟩ := pgetB hwP2 hw0'
        refine ⟨_, rfl, _, rfl, wa, _, (at_ : Int), _, rfl, rfl, SqT.of hwt2, atI_nat hwad, wad, w0, rfl, hwA, by omega, fun tw w' H9' u2 hTw hw1 hw2 hw3 => ?_⟩
        refine ⟨(by show 1 ≤ sizeLine; decide), fun p3 hp3 => ?_⟩
        have u3 := same_new (o := .tup [.ref tw]) hp3
        refine cat_tups (xs := ws.take at_) (ys := [w']) WantAt.mono (WantsAt.mono _ _ _ _ (u2.trans u3) hA8) ⟨[tw], upd_same, .cons (WantAt.mono _ _ _ _ u3 hTw) .nil⟩ (by show (ws.take at_).length + 1 ≤ _; omega) fun rd H10' u4 hD10 => ?_
        have u14 := ((u1.trans u2).trans u3).trans u4
        refine ⟨_, rfl, _, rfl, _, _, rfl, rfl, _, rfl, ?_⟩
        show rSlA K (.ref wa) (some ((at_ : Int) + 1)) none H10' _
        rw [e_at]
        refine tup_drop (K := K) WantAt.mono (WantsAt.mono _ _ _ _ u14 hWX) fun re H11' u5 hE11 => ?_
        refine cat_tups WantAt.mono (WantsAt.mono _ _ _ _ u5 hD10) hE11 (by rw [List.length_append]; show (ws.take at_).length + 1 + _ ≤ _; omega) fun rf H12' u6 hF12 => ?_
        refine ⟨(by show 1 ≤ sizeLine; decide), fun p4 hp4 => ?_⟩
        have u7 := same_new (o := .tup [.ref rf]) hp4
        refine ⟨(by show 1 ≤ sizeLine; decide), fun p5 hp5 => ?_⟩
        have u8 := same_new (o := .tup [.ref p4]) hp5
        refine ⟨(by show 3 ≤ sizeLine; decide), fun q2 hq2 => ?_⟩
        have u9 := same_new (o := .tup [.ref h, .ref ks0, .ref p5]) hq2
        have u79 := (u7.trans u8).trans u9
        have uA := ((u14.trans u5).trans u6).trans u79
        have hel7 := uA _ _ hel6
        refine ⟨el, _, _, rfl, rfl, hel7, by rw [List.length_map, hes5.length, List.length_append, sizeLine_eq]; show us.length + 1 < _; omega, ?_⟩
        have N7 := N6.trans (NL.of uA)
        have eapp : ws.take at_ ++ [w'] ++ ws.drop (at_ + 1) = ws.take at_ ++ w' :: ws.drop (at_ + 1) := by rw [List.append_assoc]; rfl
        have E5 : Easier C rows0 kits0 ws _ q2 () := ⟨h, ks0, p5, rows0, kits0, [ws.take at_ ++ w' :: ws.drop (at_ + 1)], upd_same, N7.heap hhE, by omega, N7.heaps hhsE, hKo, ⟨[p4], u9 _ _ upd_same, .cons ⟨rf, u9 _ _ (u8 _ _ upd_same), by rw [← eapp]; exact WantsAt.mono _ _ _ _ u79 hF12⟩ .nil⟩, by
            simp only [List.flatten_cons, List.flatten_nil, List.append_nil]
            have hw8 := (hOk.ww w0 hwin).1
            refine ok_sub hWo' (by rw [List.length_append, List.length_cons]; omega) (fun x hx => ?_) (by rw [sums_split]; omega)
            rcases List.mem_append.mp hx with y | y
            · exact hmem x (List.mem_of_mem_take y)
            · rcases List.mem_cons.mp y with y | y
              · rw [y]; exact ⟨by omega, by omega⟩
              · exact hmem x (List.mem_of_mem_drop y), by
            simp only [List.flatten_cons, List.flatten_nil, List.append_nil]
            have := easy_wider (rows := rows0) (kits := kits0) (a := ws.take at_) (b := ws.drop (at_ + 1)) (w := w0) (w' := w') hw3 hw1
            rw [← hsp] at this
            exact this⟩
        have hes7 := app hel7 (Paired_mono (fun a b hx => (NL.of uA).easier hx) hes5) E5
        exact ⟨(as ++ [q]) ++ [q2], (us ++ [()]) ++ [()], _, rfl, N7.trans (NL.put hel7), ((T5'.mono uA).put nel.1 nel.2).le (by omega), by rw [upd_same, List.map_append (l₁ := as ++ [q])]; rfl, hes7, by rw [List.length_append, List.length_append]; show us.length + 1 + 1 ≤ 5; omega⟩
    rintro σ H3' ⟨as, us, a12, rfl, N3, T3', hel3, hes3, hul3⟩
    -- each easier scene
    refine ⟨_, rfl, el, rfl, ⟨_, SqL.of hel3⟩, for_list (K := K) (a := el) (xs := as.map V.ref) (fun i σ H4' => ∃ (a13 a14 : Option V), σ = [some (.ref a), some (.ref tp), some (.ref wd), some (.ref r), some (.ref k), some (.ref wa), some (.ref sa), some (.ref h), some (.ref ks0), some lv, some (.ref m), some (.ref el), a12, a13, a14, none, none] ∧ Same H3' H4')
      ⟨none, none, rfl, Same.refl _⟩ (fun i σ H4' _ ⟨_, _, _, t4⟩ => SqL.of (t4 _ _ hel3)) ?_ ?_⟩
    · rintro i y σ H4' hi ⟨a13, a14, rfl, t4⟩
      obtain ⟨ea, u, g1, g2, rfl, g3⟩ := pget hes3 hi
      obtain ⟨h', ks', sa', rows', kits', wss', q1, q2, q3, q4, q5, q6, q7, q8⟩ := ((NL.of t4).easier g3).e
      refine ⟨_, rfl, rfl, _, rfl, ?_⟩
      rcases hlv with ⟨rfl, hno⟩ | ⟨n, rfl, hle⟩
      · refine iteF ?_
        exact ⟨_, _, rfl, t4⟩
      · refine iteT ?_
        refine ⟨_, rfl, ea, _, 0, _, rfl, rfl, SqT.of q1, rfl, _, rfl, ea, _, 1, _, rfl, rfl, SqT.of q1, rfl, _, rfl, ea, _, 2, _, rfl, rfl, SqT.of q1, rfl, h', ks', sa', rows', kits', wss', rfl, q2, q3, q4, q5, q6, q7, fun v H5' t5 hv => ?_⟩
        obtain ⟨x, rfl, hx⟩ := told_no_more hle q8 hv
        refine ⟨_, rfl, rfl, _, rfl, ?_⟩
        refine iteF ?_
        refine ⟨_, rfl, _, rfl, _, _, rfl, rfl, _, rfl, ?_⟩
        rw [decide_eq_false (show ¬ n.sum < x by omega)]
        refine iteF ?_
        exact ⟨_, _, rfl, t4.trans t5⟩
    · rintro σ H4' ⟨a13, a14, rfl, t4⟩
      have N4 := N3.trans (NL.of t4)
      -- the wants less the first
      refine ⟨fun σ H5' => ∃ (a15 : Option V), σ = [some (.ref a), some (.ref tp), some (.ref wd), some (.ref r), some (.ref k), some (.ref wa), some (.ref sa), some (.ref h), some (.ref ks0), some lv, some (.ref m), some (.ref el), a12, a13, a14, a15, none] ∧ NL HE H5', ?_, ?_⟩
      · have hW2 := N4.wants hWE
        refine ⟨_, rfl, (by show 0 ≤ sizeLine; decide), fun z hz => ?_⟩
        have t0 := same_new (o := .tup []) hz
        refine ⟨_, _, wants_dp (WantsAt.mono _ _ _ _ t0 hW2), .tup (SqT.of upd_same) .nil, wants_shaped hW2, rfl, _, rfl, ?_⟩
        rw [eqv_nilG]
        have N5 := N4.trans (NL.of t0)
        by_cases hw0 : ws.length = 0
        · rw [decide_eq_true hw0]
          refine iteF ?_
          refine iteF ?_
          exact ⟨_, rfl, N5⟩
        · rw [decide_eq_false hw0]
          refine iteT ?_
          refine ⟨_, rfl, rfl, _, rfl, ?_⟩
          rcases hlv with ⟨rfl, hno⟩ | ⟨n, rfl, hle⟩
          · refine iteF ?_
            exact ⟨_, rfl, N5⟩
          · refine iteT ?_
            obtain ⟨w0, wr, hwr⟩ : ∃ w0 wr, ws = w0 :: wr := by
              cases hq : ws with
              | nil => rw [hq] at hw0; exact absurd rfl hw0
              | cons x y => exact ⟨x, y, rfl⟩
            refine ⟨_, rfl, _, rfl, _, rfl, 1, rfl, ?_⟩
            unfold tNoPart
            refine tup_drop (K := K) (n := 1) WantAt.mono (N5.wants hWE) fun rb H6' t6 hB6 => ?_
            refine ⟨(by show 1 ≤ sizeLine; decide), fun p1 hp1 => ?_⟩
            have t7 := same_new (o := .tup [.ref rb]) hp1
            refine ⟨(by show 1 ≤ sizeLine; decide), fun p2 hp2 => ?_⟩
            have t8 := same_new (o := .tup [.ref p1]) hp2
            have N8 := N5.trans (NL.of ((t6.trans t7).trans t8))
            have hmem : ∀ x ∈ ws, x.2.1.length ≤ 16 ∧ 0 ≤ x.2.2 := hWo'.2.1
            have hw0p := hmem w0 (by rw [hwr]; exact List.mem_cons_self)
            refine ⟨h, ks0, p2, rows0, kits0, [ws.drop 1], rfl, N8.heap hhE, by omega, N8.heaps hhsE, hKo, ⟨[p1], upd_same, .cons ⟨rb, t8 _ _ upd_same, WantsAt.mono _ _ _ _ (t7.trans t8) hB6⟩ .nil⟩, ?_, fun v H9' t9 hv => ?_⟩
            · simp only [List.flatten_cons, List.flatten_nil, List.append_nil]
              refine ok_sub hWo' (by rw [List.length_drop]; omega) (fun x hx => hmem x (List.mem_of_mem_drop hx)) ?_
              rw [hwr, List.drop_succ_cons, List.drop_zero, List.map_cons, List.sum_cons]
              omega
            · simp only [List.flatten_cons, List.flatten_nil, List.append_nil] at hv
              have he := easy_erase (rows := rows0) (kits := kits0) (a := []) (b := wr) (w := w0)
              rw [List.nil_append, List.nil_append, ← hwr] at he
              have hd : ws.drop 1 = wr := by rw [hwr]; rfl
              rw [hd] at hv
              obtain ⟨x, rfl, hx⟩ := told_no_more hle he hv
              refine ⟨_, rfl, rfl, _, rfl, ?_⟩
              refine iteF ?_
              refine ⟨_, rfl, _, rfl, _, _, rfl, rfl, _, rfl, ?_⟩
              rw [decide_eq_false (show ¬ n.sum < x by omega)]
              refine iteF ?_
              exact ⟨_, rfl, N8.trans (NL.of t9)⟩
      rintro σ H5' ⟨a15, rfl, N5⟩
      -- no wants: no kits
      refine ⟨_, rfl, _, rfl, (by show 0 ≤ sizeLine; decide), fun z hz => ?_⟩
      have t0 := same_new (o := .tup []) hz
      have N6 := N5.trans (NL.of t0)
      refine ⟨h, ks0, z, rows0, kits0, [], rfl, N6.heap hhE, by omega, N6.heaps hhsE, hKo, ⟨[], upd_same, .nil⟩, ⟨Nat.zero_le _, (fun x hx => by cases hx), by decide⟩, fun v H7' t7 hv => ?_⟩
      obtain ⟨_, _, hP0⟩ := hhsE
      have hb0 : Built rows0 kits0 [] (List.replicate kits0.length 0) := ⟨List.length_replicate, (fun x hx => by rw [List.eq_of_mem_replicate hx]; exact Int.le_refl _), deals_nil fun p => comb_nonneg hhE.nn p (kits_nn hP0) (fun x hx => by rw [List.eq_of_mem_replicate hx]; exact Int.le_refl _)⟩
      rcases hv with ⟨_, hno⟩ | ⟨n, rfl, hle⟩
      · exact absurd ⟨_, hb0⟩ hno
      · have h1 := hle.2 _ hb0
        rw [sum_rep] at h1
        have h2 := N0.sum hle.1.2.1
        have h3 : n.sum = 0 := by omega
        refine ⟨rfl, ?_⟩
        rw [h3]
        exact kk _
end
end K70

end
section
set_option maxRecDepth 100000
set_option maxHeartbeats 8000000
/-! What the top has written; the tie; the law's own head. -/
namespace K70
open PySem PySem.Spec PyProof.Rows L2 PySem.HandSPX
open K70M
theorem funD_none {K : PySem.W.Frag} {x qual : Str} {st : Stmt} {f T : Addr} {oT : Obj} {nT : Nat} {oc : Value} {od an : Option Addr} {osl : Array (Option Value)} {kV doc pm cdv ct : Value} (l : K.lookup f = some ⟨oc, od, .func (PySem.W.fnOf x qual (defArgs st) (defBody st) (defScope st) (.ref T) kV doc pm an cdv ct), osl⟩)
    (c : PySem.W.codeIn K cdv qual = true) (k : PySem.W.keepIn K (.ref f) = true) (t : K.lookup T = some oT) (d : oT.data = .seq #[Value.none] nT) : FunD K x qual (defArgs st) (defBody st) (defScope st) [.non] [] f (PySem.W.fnOf x qual (defArgs st) (defBody st) (defScope st) (.ref T) kV doc pm an cdv ct) :=
  ⟨⟨oc, od, .ref T, kV, doc, pm, an, cdv, ct, osl, rfl, l, c, .inr ⟨by simp, T, oT, [Value.none], nT, rfl, t, d, .cons rfl .nil⟩, .inl rfl⟩, k⟩
theorem cl_mk {P : Program} {w : World} {K : PySem.W.Frag} {mg : Str → Option Value} {base : Heap} {CX : CXT} {k : Nat} {x : Str} {ps : List Str} {sp : Sp} {f : Addr} {fd : FuncData} (g : mg x = some (.ref f)) (kp : PySem.W.keepIn K (.ref f) = true) (b : Binds K fd ps []) (ok : FnOk P w K mg base CX k f fd ps sp) : Cl P w K mg base CX k x ps [] sp := ⟨f, fd, [], g, kp, b, .nil, ok⟩
theorem many_kw {K : PySem.W.Frag} {T : Addr} {oT : Obj} {nT : Nat} {an : Option Addr} {kV doc pm cdv ct : Value} (t : K.lookup T = some oT) (d : oT.data = .seq #[Value.none] nT) :
    KBinds K (PySem.W.fnOf "many" "Heap.many" (defArgs s_Heap_many) (defBody s_Heap_many) (defScope s_Heap_many) (.ref T) kV doc pm an cdv ct) ["self", "form", "shade"] ["shade"] g3 g3 := by
  refine ⟨fun s us ws X hl => ?_, fun {vs us zs ws} r1 r2 => ?_⟩
  · match us, ws, hl with
    | [a, b], [c], _ => exact BindsTo.of_looks fun M => looks_items X t d (.of_pure rfl)
    | [], _, hl => cases hl
    | [_], _, hl => cases hl
    | [_, _], [], hl => cases hl
    | [_, _], _ :: _ :: _, hl => cases hl
    | _ :: _ :: _ :: _, _, hl => cases hl
  · cases r1 with
    | nil => exact .nil
    | cons a1 t1 =>
      cases t1 with
      | nil => exact .nil
      | cons a2 t2 =>
        cases t2 with
        | nil =>
          cases r2 with
          | nil => exact .nil
          | cons b1 u1 =>
            cases u1 with
            | nil => exact .cons a1 (.cons a2 (.cons b1 .nil))
            | cons b2 u2 => exact .nil
        | cons a3 t3 => exact .nil

theorem all_mk {P : Program} {w : World} {K : PySem.W.Frag} {h : Heap} {mg : Str → Option Value} {fa : Addr} (X : K.In h) (G : h.Ns mainGlobals mg) (hfa : mg "law" = some (.ref fa))
    {f_counted : Addr} {od_counted an_counted : Option Addr} {sl_counted : Array (Option Value)} {oc_counted kV_counted dc_counted pm_counted cd_counted ct_counted : Value}
    {f_lets : Addr} {od_lets an_lets : Option Addr} {sl_lets : Array (Option Value)} {oc_lets kV_lets dc_lets pm_lets cd_lets ct_lets : Value}
    {f_spread : Addr} {od_spread an_spread : Option Addr} {sl_spread : Array (Option Value)} {oc_spread kV_spread dc_spread pm_spread cd_spread ct_spread : Value}
    {f_way_of : Addr} {od_way_of an_way_of : Option Addr} {sl_way_of : Array (Option Value)} {oc_way_of kV_way_of dc_way_of pm_way_of cd_way_of ct_way_of : Value}
    {f_lead : Addr} {od_lead an_lead : Option Addr} {sl_lead : Array (Option Value)} {oc_lead kV_lead dc_lead pm_lead cd_lead ct_lead : Value}
    {f_parts_left : Addr} {od_parts_left an_parts_left : Option Addr} {sl_parts_left : Array (Option Value)} {oc_parts_left kV_parts_left dc_parts_left pm_parts_left cd_parts_left ct_parts_left : Value}
    {f_led : Addr} {od_led an_led : Option Addr} {sl_led : Array (Option Value)} {oc_led kV_led dc_led pm_led cd_led ct_led : Value}
    {f_as_gift : Addr} {od_as_gift an_as_gift : Option Addr} {sl_as_gift : Array (Option Value)} {oc_as_gift kV_as_gift dc_as_gift pm_as_gift cd_as_gift ct_as_gift : Value}
    {f_shades_of : Addr} {od_shades_of an_shades_of : Option Addr} {sl_shades_of : Array (Option Value)} {oc_shades_of kV_shades_of dc_shades_of pm_shades_of cd_shades_of ct_shades_of : Value}
    {f_deal : Addr} {od_deal an_deal : Option Addr} {sl_deal : Array (Option Value)} {oc_deal kV_deal dc_deal pm_deal cd_deal ct_deal : Value}
    {f_wants_of : Addr} {od_wants_of an_wants_of : Option Addr} {sl_wants_of : Array (Option Value)} {oc_wants_of kV_wants_of dc_wants_of pm_wants_of cd_wants_of ct_wants_of : Value}
    {T_wants_of : Addr} {oT_wants_of : Obj} {nT_wants_of : Nat}
    {f_times : Addr} {od_times an_times : Option Addr} {sl_times : Array (Option Value)} {oc_times kV_times dc_times pm_times cd_times ct_times : Value}
    {f_with_kits : Addr} {od_with_kits an_with_kits : Option Addr} {sl_with_kits : Array (Option Value)} {oc_with_kits kV_with_kits dc_with_kits pm_with_kits cd_with_kits ct_with_kits : Value}
    {f_wanted_at : Addr} {od_wanted_at an_wanted_at : Option Addr} {sl_wanted_at : Array (Option Value)} {oc_wanted_at kV_wanted_at dc_wanted_at pm_wanted_at cd_wanted_at ct_wanted_at : Value}
    {f_has_at : Addr} {od_has_at an_has_at : Option Addr} {sl_has_at : Array (Option Value)} {oc_has_at kV_has_at dc_has_at pm_has_at cd_has_at ct_has_at : Value}
    {f_never_at : Addr} {od_never_at an_never_at : Option Addr} {sl_never_at : Array (Option Value)} {oc_never_at kV_never_at dc_never_at pm_never_at cd_never_at ct_never_at : Value}
    {f_sums_of : Addr} {od_sums_of an_sums_of : Option Addr} {sl_sums_of : Array (Option Value)} {oc_sums_of kV_sums_of dc_sums_of pm_sums_of cd_sums_of ct_sums_of : Value}
    {f_fills : Addr} {od_fills an_fills : Option Addr} {sl_fills : Array (Option Value)} {oc_fills kV_fills dc_fills pm_fills cd_fills ct_fills : Value}
    {f_fewest : Addr} {od_fewest an_fewest : Option Addr} {sl_fewest : Array (Option Value)} {oc_fewest kV_fewest dc_fewest pm_fewest cd_fewest ct_fewest : Value}
    {f_Ltap : Addr} {od_Ltap an_Ltap : Option Addr} {sl_Ltap : Array (Option Value)} {oc_Ltap kV_Ltap dc_Ltap pm_Ltap cd_Ltap ct_Ltap : Value}
    {f_Lpick : Addr} {od_Lpick an_Lpick : Option Addr} {sl_Lpick : Array (Option Value)} {oc_Lpick kV_Lpick dc_Lpick pm_Lpick cd_Lpick ct_Lpick : Value}
    {f_Lwords : Addr} {od_Lwords an_Lwords : Option Addr} {sl_Lwords : Array (Option Value)} {oc_Lwords kV_Lwords dc_Lwords pm_Lwords cd_Lwords ct_Lwords : Value}
    {f_Lrows : Addr} {od_Lrows an_Lrows : Option Addr} {sl_Lrows : Array (Option Value)} {oc_Lrows kV_Lrows dc_Lrows pm_Lrows cd_Lrows ct_Lrows : Value}
    {f_Lsome : Addr} {od_Lsome an_Lsome : Option Addr} {sl_Lsome : Array (Option Value)} {oc_Lsome kV_Lsome dc_Lsome pm_Lsome cd_Lsome ct_Lsome : Value}
    {f_Lwants : Addr} {od_Lwants an_Lwants : Option Addr} {sl_Lwants : Array (Option Value)} {oc_Lwants kV_Lwants dc_Lwants pm_Lwants cd_Lwants ct_Lwants : Value}
    {f_Lsheet : Addr} {od_Lsheet an_Lsheet : Option Addr} {sl_Lsheet : Array (Option Value)} {oc_Lsheet kV_Lsheet dc_Lsheet pm_Lsheet cd_Lsheet ct_Lsheet : Value}
    {f_Lhas : Addr} {od_Lhas an_Lhas : Option Addr} {sl_Lhas : Array (Option Value)} {oc_Lhas kV_Lhas dc_Lhas pm_Lhas cd_Lhas ct_Lhas : Value}
    {f_Lwanted : Addr} {od_Lwanted an_Lwanted : Option Addr} {sl_Lwanted : Array (Option Value)} {oc_Lwanted kV_Lwanted dc_Lwanted pm_Lwanted cd_Lwanted ct_Lwanted : Value}
    {f_Ljoined : Addr} {od_Ljoined an_Ljoined : Option Addr} {sl_Ljoined : Array (Option Value)} {oc_Ljoined kV_Ljoined dc_Ljoined pm_Ljoined cd_Ljoined ct_Ljoined : Value}
    {f_Lplaces : Addr} {od_Lplaces an_Lplaces : Option Addr} {sl_Lplaces : Array (Option Value)} {oc_Lplaces kV_Lplaces dc_Lplaces pm_Lplaces cd_Lplaces ct_Lplaces : Value}
    {f_Lsums : Addr} {od_Lsums an_Lsums : Option Addr} {sl_Lsums : Array (Option Value)} {oc_Lsums kV_Lsums dc_Lsums pm_Lsums cd_Lsums ct_Lsums : Value}
    {f_Ltables : Addr} {od_Ltables an_Ltables : Option Addr} {sl_Ltables : Array (Option Value)} {oc_Ltables kV_Ltables dc_Ltables pm_Ltables cd_Ltables ct_Ltables : Value}
    {f_Lnever : Addr} {od_Lnever an_Lnever : Option Addr} {sl_Lnever : Array (Option Value)} {oc_Lnever kV_Lnever dc_Lnever pm_Lnever cd_Lnever ct_Lnever : Value}
    {f_Lfewest : Addr} {od_Lfewest an_Lfewest : Option Addr} {sl_Lfewest : Array (Option Value)} {oc_Lfewest kV_Lfewest dc_Lfewest pm_Lfewest cd_Lfewest ct_Lfewest : Value}
    {f_Lscene : Addr} {od_Lscene an_Lscene : Option Addr} {sl_Lscene : Array (Option Value)} {oc_Lscene kV_Lscene dc_Lscene pm_Lscene cd_Lscene ct_Lscene : Value}
    {f_Ltold : Addr} {od_Ltold an_Ltold : Option Addr} {sl_Ltold : Array (Option Value)} {oc_Ltold kV_Ltold dc_Ltold pm_Ltold cd_Ltold ct_Ltold : Value}
    {f_Lwider : Addr} {od_Lwider an_Lwider : Option Addr} {sl_Lwider : Array (Option Value)} {oc_Lwider kV_Lwider dc_Lwider pm_Lwider cd_Lwider ct_Lwider : Value}
    {f_law : Addr} {od_law an_law : Option Addr} {sl_law : Array (Option Value)} {oc_law kV_law dc_law pm_law cd_law ct_law : Value}
    {C CN BN : Addr}
    {f_Heap_init : Addr} {od_Heap_init an_Heap_init : Option Addr} {sl_Heap_init : Array (Option Value)} {oc_Heap_init kV_Heap_init dc_Heap_init pm_Heap_init cd_Heap_init ct_Heap_init : Value}
    {T_Heap_init : Addr} {oT_Heap_init : Obj} {nT_Heap_init : Nat}
    {f_Heap_rows : Addr} {od_Heap_rows an_Heap_rows : Option Addr} {sl_Heap_rows : Array (Option Value)} {oc_Heap_rows kV_Heap_rows dc_Heap_rows pm_Heap_rows cd_Heap_rows ct_Heap_rows : Value}
    {f_Heap_many : Addr} {od_Heap_many an_Heap_many : Option Addr} {sl_Heap_many : Array (Option Value)} {oc_Heap_many kV_Heap_many dc_Heap_many pm_Heap_many cd_Heap_many ct_Heap_many : Value}
    {T_Heap_many : Addr} {oT_Heap_many : Obj} {nT_Heap_many : Nat}
    {f_Heap_plus : Addr} {od_Heap_plus an_Heap_plus : Option Addr} {sl_Heap_plus : Array (Option Value)} {oc_Heap_plus kV_Heap_plus dc_Heap_plus pm_Heap_plus cd_Heap_plus ct_Heap_plus : Value}
    {f_NoKits_init : Addr} {od_NoKits_init an_NoKits_init : Option Addr} {sl_NoKits_init : Array (Option Value)} {oc_NoKits_init kV_NoKits_init dc_NoKits_init pm_NoKits_init cd_NoKits_init ct_NoKits_init : Value}
    {nm q : Str} {NN0 M1 M2 : Addr} {bs : List Value} {sn : List Str} {sub : List Value} {ab : Bool} {col : Option Bool} {dd : Option Addr} {m0 m1 m2 m3 m5 : Option Value}
    (a_counted : PySem.W.nsIn K mainGlobals "counted" = some (some (.ref f_counted)))
    (l_counted : K.lookup f_counted = some ⟨oc_counted, od_counted, .func (PySem.W.fnOf "counted" "counted" (defArgs s_counted) (defBody s_counted) (defScope s_counted) .none kV_counted dc_counted pm_counted an_counted cd_counted ct_counted), sl_counted⟩)
    (c_counted : PySem.W.codeIn K cd_counted "counted" = true)
    (k_counted : PySem.W.keepIn K (.ref f_counted) = true)
    (a_lets : PySem.W.nsIn K mainGlobals "lets" = some (some (.ref f_lets)))
    (l_lets : K.lookup f_lets = some ⟨oc_lets, od_lets, .func (PySem.W.fnOf "lets" "lets" (defArgs s_lets) (defBody s_lets) (defScope s_lets) .none kV_lets dc_lets pm_lets an_lets cd_lets ct_lets), sl_lets⟩)
    (c_lets : PySem.W.codeIn K cd_lets "lets" = true)
    (k_lets : PySem.W.keepIn K (.ref f_lets) = true)
    (a_spread : PySem.W.nsIn K mainGlobals "spread" = some (some (.ref f_spread)))
    (l_spread : K.lookup f_spread = some ⟨oc_spread, od_spread, .func (PySem.W.fnOf "spread" "spread" (defArgs s_spread) (defBody s_spread) (defScope s_spread) .none kV_spread dc_spread pm_spread an_spread cd_spread ct_spread), sl_spread⟩)
    (c_spread : PySem.W.codeIn K cd_spread "spread" = true)
    (k_spread : PySem.W.keepIn K (.ref f_spread) = true)
    (a_way_of : PySem.W.nsIn K mainGlobals "way_of" = some (some (.ref f_way_of)))
    (l_way_of : K.lookup f_way_of = some ⟨oc_way_of, od_way_of, .func (PySem.W.fnOf "way_of" "way_of" (defArgs s_way_of) (defBody s_way_of) (defScope s_way_of) .none kV_way_of dc_way_of pm_way_of an_way_of cd_way_of ct_way_of), sl_way_of⟩)
    (c_way_of : PySem.W.codeIn K cd_way_of "way_of" = true)
    (k_way_of : PySem.W.keepIn K (.ref f_way_of) = true)
    (a_lead : PySem.W.nsIn K mainGlobals "lead" = some (some (.ref f_lead)))
    (l_lead : K.lookup f_lead = some ⟨oc_lead, od_lead, .func (PySem.W.fnOf "lead" "lead" (defArgs s_lead) (defBody s_lead) (defScope s_lead) .none kV_lead dc_lead pm_lead an_lead cd_lead ct_lead), sl_lead⟩)
    (c_lead : PySem.W.codeIn K cd_lead "lead" = true)
    (k_lead : PySem.W.keepIn K (.ref f_lead) = true)
    (a_parts_left : PySem.W.nsIn K mainGlobals "parts_left" = some (some (.ref f_parts_left)))
    (l_parts_left : K.lookup f_parts_left = some ⟨oc_parts_left, od_parts_left, .func (PySem.W.fnOf "parts_left" "parts_left" (defArgs s_parts_left) (defBody s_parts_left) (defScope s_parts_left) .none kV_parts_left dc_parts_left pm_parts_left an_parts_left cd_parts_left ct_parts_left), sl_parts_left⟩)
    (c_parts_left : PySem.W.codeIn K cd_parts_left "parts_left" = true)
    (k_parts_left : PySem.W.keepIn K (.ref f_parts_left) = true)
    (a_led : PySem.W.nsIn K mainGlobals "led" = some (some (.ref f_led)))
    (l_led : K.lookup f_led = some ⟨oc_led, od_led, .func (PySem.W.fnOf "led" "led" (defArgs s_led) (defBody s_led) (defScope s_led) .none kV_led dc_led pm_led an_led cd_led ct_led), sl_led⟩)
    (c_led : PySem.W.codeIn K cd_led "led" = true)
    (k_led : PySem.W.keepIn K (.ref f_led) = true)
    (a_as_gift : PySem.W.nsIn K mainGlobals "as_gift" = some (some (.ref f_as_gift)))
    (l_as_gift : K.lookup f_as_gift = some ⟨oc_as_gift, od_as_gift, .func (PySem.W.fnOf "as_gift" "as_gift" (defArgs s_as_gift) (defBody s_as_gift) (defScope s_as_gift) .none kV_as_gift dc_as_gift pm_as_gift an_as_gift cd_as_gift ct_as_gift), sl_as_gift⟩)
    (c_as_gift : PySem.W.codeIn K cd_as_gift "as_gift" = true)
    (k_as_gift : PySem.W.keepIn K (.ref f_as_gift) = true)
    (a_shades_of : PySem.W.nsIn K mainGlobals "shades_of" = some (some (.ref f_shades_of)))
    (l_shades_of : K.lookup f_shades_of = some ⟨oc_shades_of, od_shades_of, .func (PySem.W.fnOf "shades_of" "shades_of" (defArgs s_shades_of) (defBody s_shades_of) (defScope s_shades_of) .none kV_shades_of dc_shades_of pm_shades_of an_shades_of cd_shades_of ct_shades_of), sl_shades_of⟩)
    (c_shades_of : PySem.W.codeIn K cd_shades_of "shades_of" = true)
    (k_shades_of : PySem.W.keepIn K (.ref f_shades_of) = true)
    (a_deal : PySem.W.nsIn K mainGlobals "deal" = some (some (.ref f_deal)))
    (l_deal : K.lookup f_deal = some ⟨oc_deal, od_deal, .func (PySem.W.fnOf "deal" "deal" (defArgs s_deal) (defBody s_deal) (defScope s_deal) .none kV_deal dc_deal pm_deal an_deal cd_deal ct_deal), sl_deal⟩)
    (c_deal : PySem.W.codeIn K cd_deal "deal" = true)
    (k_deal : PySem.W.keepIn K (.ref f_deal) = true)
    (a_wants_of : PySem.W.nsIn K mainGlobals "wants_of" = some (some (.ref f_wants_of)))
    (l_wants_of : K.lookup f_wants_of = some ⟨oc_wants_of, od_wants_of, .func (PySem.W.fnOf "wants_of" "wants_of" (defArgs s_wants_of) (defBody s_wants_of) (defScope s_wants_of) (.ref T_wants_of) kV_wants_of dc_wants_of pm_wants_of an_wants_of cd_wants_of ct_wants_of), sl_wants_of⟩)
    (c_wants_of : PySem.W.codeIn K cd_wants_of "wants_of" = true)
    (k_wants_of : PySem.W.keepIn K (.ref f_wants_of) = true)
    (t_wants_of : K.lookup T_wants_of = some oT_wants_of)
    (d_wants_of : oT_wants_of.data = .seq #[Value.none] nT_wants_of)
    (a_times : PySem.W.nsIn K mainGlobals "times" = some (some (.ref f_times)))
    (l_times : K.lookup f_times = some ⟨oc_times, od_times, .func (PySem.W.fnOf "times" "times" (defArgs s_times) (defBody s_times) (defScope s_times) .none kV_times dc_times pm_times an_times cd_times ct_times), sl_times⟩)
    (c_times : PySem.W.codeIn K cd_times "times" = true)
    (k_times : PySem.W.keepIn K (.ref f_times) = true)
    (a_with_kits : PySem.W.nsIn K mainGlobals "with_kits" = some (some (.ref f_with_kits)))
    (l_with_kits : K.lookup f_with_kits = some ⟨oc_with_kits, od_with_kits, .func (PySem.W.fnOf "with_kits" "with_kits" (defArgs s_with_kits) (defBody s_with_kits) (defScope s_with_kits) .none kV_with_kits dc_with_kits pm_with_kits an_with_kits cd_with_kits ct_with_kits), sl_with_kits⟩)
    (c_with_kits : PySem.W.codeIn K cd_with_kits "with_kits" = true)
    (k_with_kits : PySem.W.keepIn K (.ref f_with_kits) = true)
    (a_wanted_at : PySem.W.nsIn K mainGlobals "wanted_at" = some (some (.ref f_wanted_at)))
    (l_wanted_at : K.lookup f_wanted_at = some ⟨oc_wanted_at, od_wanted_at, .func (PySem.W.fnOf "wanted_at" "wanted_at" (defArgs s_wanted_at) (defBody s_wanted_at) (defScope s_wanted_at) .none kV_wanted_at dc_wanted_at pm_wanted_at an_wanted_at cd_wanted_at ct_wanted_at), sl_wanted_at⟩)
    (c_wanted_at : PySem.W.codeIn K cd_wanted_at "wanted_at" = true)
    (k_wanted_at : PySem.W.keepIn K (.ref f_wanted_at) = true)
    (a_has_at : PySem.W.nsIn K mainGlobals "has_at" = some (some (.ref f_has_at)))
    (l_has_at : K.lookup f_has_at = some ⟨oc_has_at, od_has_at, .func (PySem.W.fnOf "has_at" "has_at" (defArgs s_has_at) (defBody s_has_at) (defScope s_has_at) .none kV_has_at dc_has_at pm_has_at an_has_at cd_has_at ct_has_at), sl_has_at⟩)
    (c_has_at : PySem.W.codeIn K cd_has_at "has_at" = true)
    (k_has_at : PySem.W.keepIn K (.ref f_has_at) = true)
    (a_never_at : PySem.W.nsIn K mainGlobals "never_at" = some (some (.ref f_never_at)))
    (l_never_at : K.lookup f_never_at = some ⟨oc_never_at, od_never_at, .func (PySem.W.fnOf "never_at" "never_at" (defArgs s_never_at) (defBody s_never_at) (defScope s_never_at) .none kV_never_at dc_never_at pm_never_at an_never_at cd_never_at ct_never_at), sl_never_at⟩)
    (c_never_at : PySem.W.codeIn K cd_never_at "never_at" = true)
    (k_never_at : PySem.W.keepIn K (.ref f_never_at) = true)
    (a_sums_of : PySem.W.nsIn K mainGlobals "sums_of" = some (some (.ref f_sums_of)))
    (l_sums_of : K.lookup f_sums_of = some ⟨oc_sums_of, od_sums_of, .func (PySem.W.fnOf "sums_of" "sums_of" (defArgs s_sums_of) (defBody s_sums_of) (defScope s_sums_of) .none kV_sums_of dc_sums_of pm_sums_of an_sums_of cd_sums_of ct_sums_of), sl_sums_of⟩)
    (c_sums_of : PySem.W.codeIn K cd_sums_of "sums_of" = true)
    (k_sums_of : PySem.W.keepIn K (.ref f_sums_of) = true)
    (a_fills : PySem.W.nsIn K mainGlobals "fills" = some (some (.ref f_fills)))
    (l_fills : K.lookup f_fills = some ⟨oc_fills, od_fills, .func (PySem.W.fnOf "fills" "fills" (defArgs s_fills) (defBody s_fills) (defScope s_fills) .none kV_fills dc_fills pm_fills an_fills cd_fills ct_fills), sl_fills⟩)
    (c_fills : PySem.W.codeIn K cd_fills "fills" = true)
    (k_fills : PySem.W.keepIn K (.ref f_fills) = true)
    (a_fewest : PySem.W.nsIn K mainGlobals "fewest" = some (some (.ref f_fewest)))
    (l_fewest : K.lookup f_fewest = some ⟨oc_fewest, od_fewest, .func (PySem.W.fnOf "fewest" "fewest" (defArgs s_fewest) (defBody s_fewest) (defScope s_fewest) .none kV_fewest dc_fewest pm_fewest an_fewest cd_fewest ct_fewest), sl_fewest⟩)
    (c_fewest : PySem.W.codeIn K cd_fewest "fewest" = true)
    (k_fewest : PySem.W.keepIn K (.ref f_fewest) = true)
    (a_Ltap : PySem.W.nsIn K mainGlobals "_law_tap" = some (some (.ref f_Ltap)))
    (l_Ltap : K.lookup f_Ltap = some ⟨oc_Ltap, od_Ltap, .func (PySem.W.fnOf "_law_tap" "_law_tap" (defArgs s_Ltap) (defBody s_Ltap) (defScope s_Ltap) .none kV_Ltap dc_Ltap pm_Ltap an_Ltap cd_Ltap ct_Ltap), sl_Ltap⟩)
    (c_Ltap : PySem.W.codeIn K cd_Ltap "_law_tap" = true)
    (k_Ltap : PySem.W.keepIn K (.ref f_Ltap) = true)
    (a_Lpick : PySem.W.nsIn K mainGlobals "_law_pick" = some (some (.ref f_Lpick)))
    (l_Lpick : K.lookup f_Lpick = some ⟨oc_Lpick, od_Lpick, .func (PySem.W.fnOf "_law_pick" "_law_pick" (defArgs s_Lpick) (defBody s_Lpick) (defScope s_Lpick) .none kV_Lpick dc_Lpick pm_Lpick an_Lpick cd_Lpick ct_Lpick), sl_Lpick⟩)
    (c_Lpick : PySem.W.codeIn K cd_Lpick "_law_pick" = true)
    (k_Lpick : PySem.W.keepIn K (.ref f_Lpick) = true)
    (a_Lwords : PySem.W.nsIn K mainGlobals "_law_words" = some (some (.ref f_Lwords)))
    (l_Lwords : K.lookup f_Lwords = some ⟨oc_Lwords, od_Lwords, .func (PySem.W.fnOf "_law_words" "_law_words" (defArgs s_Lwords) (defBody s_Lwords) (defScope s_Lwords) .none kV_Lwords dc_Lwords pm_Lwords an_Lwords cd_Lwords ct_Lwords), sl_Lwords⟩)
    (c_Lwords : PySem.W.codeIn K cd_Lwords "_law_words" = true)
    (k_Lwords : PySem.W.keepIn K (.ref f_Lwords) = true)
    (a_Lrows : PySem.W.nsIn K mainGlobals "_law_rows" = some (some (.ref f_Lrows)))
    (l_Lrows : K.lookup f_Lrows = some ⟨oc_Lrows, od_Lrows, .func (PySem.W.fnOf "_law_rows" "_law_rows" (defArgs s_Lrows) (defBody s_Lrows) (defScope s_Lrows) .none kV_Lrows dc_Lrows pm_Lrows an_Lrows cd_Lrows ct_Lrows), sl_Lrows⟩)
    (c_Lrows : PySem.W.codeIn K cd_Lrows "_law_rows" = true)
    (k_Lrows : PySem.W.keepIn K (.ref f_Lrows) = true)
    (a_Lsome : PySem.W.nsIn K mainGlobals "_law_some" = some (some (.ref f_Lsome)))
    (l_Lsome : K.lookup f_Lsome = some ⟨oc_Lsome, od_Lsome, .func (PySem.W.fnOf "_law_some" "_law_some" (defArgs s_Lsome) (defBody s_Lsome) (defScope s_Lsome) .none kV_Lsome dc_Lsome pm_Lsome an_Lsome cd_Lsome ct_Lsome), sl_Lsome⟩)
    (c_Lsome : PySem.W.codeIn K cd_Lsome "_law_some" = true)
    (k_Lsome : PySem.W.keepIn K (.ref f_Lsome) = true)
    (a_Lwants : PySem.W.nsIn K mainGlobals "_law_wants" = some (some (.ref f_Lwants)))
    (l_Lwants : K.lookup f_Lwants = some ⟨oc_Lwants, od_Lwants, .func (PySem.W.fnOf "_law_wants" "_law_wants" (defArgs s_Lwants) (defBody s_Lwants) (defScope s_Lwants) .none kV_Lwants dc_Lwants pm_Lwants an_Lwants cd_Lwants ct_Lwants), sl_Lwants⟩)
    (c_Lwants : PySem.W.codeIn K cd_Lwants "_law_wants" = true)
    (k_Lwants : PySem.W.keepIn K (.ref f_Lwants) = true)
    (a_Lsheet : PySem.W.nsIn K mainGlobals "_law_sheet" = some (some (.ref f_Lsheet)))
    (l_Lsheet : K.lookup f_Lsheet = some ⟨oc_Lsheet, od_Lsheet, .func (PySem.W.fnOf "_law_sheet" "_law_sheet" (defArgs s_Lsheet) (defBody s_Lsheet) (defScope s_Lsheet) .none kV_Lsheet dc_Lsheet pm_Lsheet an_Lsheet cd_Lsheet ct_Lsheet), sl_Lsheet⟩)
    (c_Lsheet : PySem.W.codeIn K cd_Lsheet "_law_sheet" = true)
    (k_Lsheet : PySem.W.keepIn K (.ref f_Lsheet) = true)
    (a_Lhas : PySem.W.nsIn K mainGlobals "_law_has" = some (some (.ref f_Lhas)))
    (l_Lhas : K.lookup f_Lhas = some ⟨oc_Lhas, od_Lhas, .func (PySem.W.fnOf "_law_has" "_law_has" (defArgs s_Lhas) (defBody s_Lhas) (defScope s_Lhas) .none kV_Lhas dc_Lhas pm_Lhas an_Lhas cd_Lhas ct_Lhas), sl_Lhas⟩)
    (c_Lhas : PySem.W.codeIn K cd_Lhas "_law_has" = true)
    (k_Lhas : PySem.W.keepIn K (.ref f_Lhas) = true)
    (a_Lwanted : PySem.W.nsIn K mainGlobals "_law_wanted" = some (some (.ref f_Lwanted)))
    (l_Lwanted : K.lookup f_Lwanted = some ⟨oc_Lwanted, od_Lwanted, .func (PySem.W.fnOf "_law_wanted" "_law_wanted" (defArgs s_Lwanted) (defBody s_Lwanted) (defScope s_Lwanted) .none kV_Lwanted dc_Lwanted pm_Lwanted an_Lwanted cd_Lwanted ct_Lwanted), sl_Lwanted⟩)
    (c_Lwanted : PySem.W.codeIn K cd_Lwanted "_law_wanted" = true)
    (k_Lwanted : PySem.W.keepIn K (.ref f_Lwanted) = true)
    (a_Ljoined : PySem.W.nsIn K mainGlobals "_law_joined" = some (some (.ref f_Ljoined)))
    (l_Ljoined : K.lookup f_Ljoined = some ⟨oc_Ljoined, od_Ljoined, .func (PySem.W.fnOf "_law_joined" "_law_joined" (defArgs s_Ljoined) (defBody s_Ljoined) (defScope s_Ljoined) .none kV_Ljoined dc_Ljoined pm_Ljoined an_Ljoined cd_Ljoined ct_Ljoined), sl_Ljoined⟩)
    (c_Ljoined : PySem.W.codeIn K cd_Ljoined "_law_joined" = true)
    (k_Ljoined : PySem.W.keepIn K (.ref f_Ljoined) = true)
    (a_Lplaces : PySem.W.nsIn K mainGlobals "_law_places" = some (some (.ref f_Lplaces)))
    (l_Lplaces : K.lookup f_Lplaces = some ⟨oc_Lplaces, od_Lplaces, .func (PySem.W.fnOf "_law_places" "_law_places" (defArgs s_Lplaces) (defBody s_Lplaces) (defScope s_Lplaces) .none kV_Lplaces dc_Lplaces pm_Lplaces an_Lplaces cd_Lplaces ct_Lplaces), sl_Lplaces⟩)
    (c_Lplaces : PySem.W.codeIn K cd_Lplaces "_law_places" = true)
    (k_Lplaces : PySem.W.keepIn K (.ref f_Lplaces) = true)
    (a_Lsums : PySem.W.nsIn K mainGlobals "_law_sums" = some (some (.ref f_Lsums)))
    (l_Lsums : K.lookup f_Lsums = some ⟨oc_Lsums, od_Lsums, .func (PySem.W.fnOf "_law_sums" "_law_sums" (defArgs s_Lsums) (defBody s_Lsums) (defScope s_Lsums) .none kV_Lsums dc_Lsums pm_Lsums an_Lsums cd_Lsums ct_Lsums), sl_Lsums⟩)
    (c_Lsums : PySem.W.codeIn K cd_Lsums "_law_sums" = true)
    (k_Lsums : PySem.W.keepIn K (.ref f_Lsums) = true)
    (a_Ltables : PySem.W.nsIn K mainGlobals "_law_tables" = some (some (.ref f_Ltables)))
    (l_Ltables : K.lookup f_Ltables = some ⟨oc_Ltables, od_Ltables, .func (PySem.W.fnOf "_law_tables" "_law_tables" (defArgs s_Ltables) (defBody s_Ltables) (defScope s_Ltables) .none kV_Ltables dc_Ltables pm_Ltables an_Ltables cd_Ltables ct_Ltables), sl_Ltables⟩)
    (c_Ltables : PySem.W.codeIn K cd_Ltables "_law_tables" = true)
    (k_Ltables : PySem.W.keepIn K (.ref f_Ltables) = true)
    (a_Lnever : PySem.W.nsIn K mainGlobals "_law_never" = some (some (.ref f_Lnever)))
    (l_Lnever : K.lookup f_Lnever = some ⟨oc_Lnever, od_Lnever, .func (PySem.W.fnOf "_law_never" "_law_never" (defArgs s_Lnever) (defBody s_Lnever) (defScope s_Lnever) .none kV_Lnever dc_Lnever pm_Lnever an_Lnever cd_Lnever ct_Lnever), sl_Lnever⟩)
    (c_Lnever : PySem.W.codeIn K cd_Lnever "_law_never" = true)
    (k_Lnever : PySem.W.keepIn K (.ref f_Lnever) = true)
    (a_Lfewest : PySem.W.nsIn K mainGlobals "_law_fewest" = some (some (.ref f_Lfewest)))
    (l_Lfewest : K.lookup f_Lfewest = some ⟨oc_Lfewest, od_Lfewest, .func (PySem.W.fnOf "_law_fewest" "_law_fewest" (defArgs s_Lfewest) (defBody s_Lfewest) (defScope s_Lfewest) .none kV_Lfewest dc_Lfewest pm_Lfewest an_Lfewest cd_Lfewest ct_Lfewest), sl_Lfewest⟩)
    (c_Lfewest : PySem.W.codeIn K cd_Lfewest "_law_fewest" = true)
    (k_Lfewest : PySem.W.keepIn K (.ref f_Lfewest) = true)
    (a_Lscene : PySem.W.nsIn K mainGlobals "_law_scene" = some (some (.ref f_Lscene)))
    (l_Lscene : K.lookup f_Lscene = some ⟨oc_Lscene, od_Lscene, .func (PySem.W.fnOf "_law_scene" "_law_scene" (defArgs s_Lscene) (defBody s_Lscene) (defScope s_Lscene) .none kV_Lscene dc_Lscene pm_Lscene an_Lscene cd_Lscene ct_Lscene), sl_Lscene⟩)
    (c_Lscene : PySem.W.codeIn K cd_Lscene "_law_scene" = true)
    (k_Lscene : PySem.W.keepIn K (.ref f_Lscene) = true)
    (a_Ltold : PySem.W.nsIn K mainGlobals "_law_told" = some (some (.ref f_Ltold)))
    (l_Ltold : K.lookup f_Ltold = some ⟨oc_Ltold, od_Ltold, .func (PySem.W.fnOf "_law_told" "_law_told" (defArgs s_Ltold) (defBody s_Ltold) (defScope s_Ltold) .none kV_Ltold dc_Ltold pm_Ltold an_Ltold cd_Ltold ct_Ltold), sl_Ltold⟩)
    (c_Ltold : PySem.W.codeIn K cd_Ltold "_law_told" = true)
    (k_Ltold : PySem.W.keepIn K (.ref f_Ltold) = true)
    (a_Lwider : PySem.W.nsIn K mainGlobals "_law_wider" = some (some (.ref f_Lwider)))
    (l_Lwider : K.lookup f_Lwider = some ⟨oc_Lwider, od_Lwider, .func (PySem.W.fnOf "_law_wider" "_law_wider" (defArgs s_Lwider) (defBody s_Lwider) (defScope s_Lwider) .none kV_Lwider dc_Lwider pm_Lwider an_Lwider cd_Lwider ct_Lwider), sl_Lwider⟩)
    (c_Lwider : PySem.W.codeIn K cd_Lwider "_law_wider" = true)
    (k_Lwider : PySem.W.keepIn K (.ref f_Lwider) = true)
    (a_law : PySem.W.nsIn K mainGlobals "law" = some (some (.ref f_law)))
    (l_law : K.lookup f_law = some ⟨oc_law, od_law, .func (PySem.W.fnOf "law" "law" (defArgs s_law) (defBody s_law) (defScope s_law) .none kV_law dc_law pm_law an_law cd_law ct_law), sl_law⟩)
    (c_law : PySem.W.codeIn K cd_law "law" = true)
    (k_law : PySem.W.keepIn K (.ref f_law) = true)
    (aC : PySem.W.nsIn K mainGlobals "Heap" = some (some (.ref C)))
    (aN : PySem.W.nsIn K mainGlobals "NoKits" = some (some (.ref CN)))
    (aB : PySem.W.nsIn K mainGlobals "PaperError" = some (some (.ref BN)))
    (a_Heap_init : PySem.W.findIn K (.ref C) "__init__" = some (some (.ref f_Heap_init)))
    (i_Heap_init : PySem.W.isFn K (.ref f_Heap_init) = true)
    (l_Heap_init : K.lookup f_Heap_init = some ⟨oc_Heap_init, od_Heap_init, .func (PySem.W.fnOf "__init__" "Heap.__init__" (defArgs s_Heap_init) (defBody s_Heap_init) (defScope s_Heap_init) (.ref T_Heap_init) kV_Heap_init dc_Heap_init pm_Heap_init an_Heap_init cd_Heap_init ct_Heap_init), sl_Heap_init⟩)
    (c_Heap_init : PySem.W.codeIn K cd_Heap_init "Heap.__init__" = true)
    (k_Heap_init : PySem.W.keepIn K (.ref f_Heap_init) = true)
    (t_Heap_init : K.lookup T_Heap_init = some oT_Heap_init)
    (d_Heap_init : oT_Heap_init.data = .seq #[Value.none] nT_Heap_init)
    (a_Heap_rows : PySem.W.findIn K (.ref C) "rows" = some (some (.ref f_Heap_rows)))
    (i_Heap_rows : PySem.W.isFn K (.ref f_Heap_rows) = true)
    (l_Heap_rows : K.lookup f_Heap_rows = some ⟨oc_Heap_rows, od_Heap_rows, .func (PySem.W.fnOf "rows" "Heap.rows" (defArgs s_Heap_rows) (defBody s_Heap_rows) (defScope s_Heap_rows) .none kV_Heap_rows dc_Heap_rows pm_Heap_rows an_Heap_rows cd_Heap_rows ct_Heap_rows), sl_Heap_rows⟩)
    (c_Heap_rows : PySem.W.codeIn K cd_Heap_rows "Heap.rows" = true)
    (k_Heap_rows : PySem.W.keepIn K (.ref f_Heap_rows) = true)
    (a_Heap_many : PySem.W.findIn K (.ref C) "many" = some (some (.ref f_Heap_many)))
    (i_Heap_many : PySem.W.isFn K (.ref f_Heap_many) = true)
    (l_Heap_many : K.lookup f_Heap_many = some ⟨oc_Heap_many, od_Heap_many, .func (PySem.W.fnOf "many" "Heap.many" (defArgs s_Heap_many) (defBody s_Heap_many) (defScope s_Heap_many) (.ref T_Heap_many) kV_Heap_many dc_Heap_many pm_Heap_many an_Heap_many cd_Heap_many ct_Heap_many), sl_Heap_many⟩)
    (c_Heap_many : PySem.W.codeIn K cd_Heap_many "Heap.many" = true)
    (k_Heap_many : PySem.W.keepIn K (.ref f_Heap_many) = true)
    (t_Heap_many : K.lookup T_Heap_many = some oT_Heap_many)
    (d_Heap_many : oT_Heap_many.data = .seq #[Value.none] nT_Heap_many)
    (a_Heap_plus : PySem.W.findIn K (.ref C) "plus" = some (some (.ref f_Heap_plus)))
    (i_Heap_plus : PySem.W.isFn K (.ref f_Heap_plus) = true)
    (l_Heap_plus : K.lookup f_Heap_plus = some ⟨oc_Heap_plus, od_Heap_plus, .func (PySem.W.fnOf "plus" "Heap.plus" (defArgs s_Heap_plus) (defBody s_Heap_plus) (defScope s_Heap_plus) .none kV_Heap_plus dc_Heap_plus pm_Heap_plus an_Heap_plus cd_Heap_plus ct_Heap_plus), sl_Heap_plus⟩)
    (c_Heap_plus : PySem.W.codeIn K cd_Heap_plus "Heap.plus" = true)
    (k_Heap_plus : PySem.W.keepIn K (.ref f_Heap_plus) = true)
    (a_NoKits_init : PySem.W.findIn K (.ref CN) "__init__" = some (some (.ref f_NoKits_init)))
    (l_NoKits_init : K.lookup f_NoKits_init = some ⟨oc_NoKits_init, od_NoKits_init, .func (PySem.W.fnOf "__init__" "NoKits.__init__" (defArgs s_NoKits_init) (defBody s_NoKits_init) (defScope s_NoKits_init) .none kV_NoKits_init dc_NoKits_init pm_NoKits_init an_NoKits_init cd_NoKits_init ct_NoKits_init), sl_NoKits_init⟩)
    (c_NoKits_init : PySem.W.codeIn K cd_NoKits_init "NoKits.__init__" = true)
    (k_NoKits_init : PySem.W.keepIn K (.ref f_NoKits_init) = true)
    (pg : PySem.W.plainGet K C Str.empty = true)
    (hd : PySem.W.hasDictIn K C = true)
    (po : PySem.W.plainOver K C = true)
    (sa : PySem.W.findIn K (.ref C) "__setattr__" = some (some (.builtin "object.__setattr__")))
    (mk : PySem.W.makesIn K C = true)
    (kc : PySem.W.keepIn K (.ref C) = true)
    (nP : PySem.W.findIn K (.ref C) "parts" = some none)
    (xL : K.lookup CN = some (excClassObj nm q CN NN0 bs [.ref M1, .ref M2, .type "ValueError", .type "Exception", .type "BaseException", .type "object"] true sn sub ab col dd m0 m1 m2 m3 m5 "ValueError.__new__"))
    (xs : PySem.W.findIn K (.ref CN) "__setattr__" = some (some (.builtin "object.__setattr__")))
    (xb : PySem.W.subIn K (.ref CN) (.type "BaseException") = some true)
    (xt : PySem.W.typeIn K (.ref CN) = some (.type "type"))
    (xk : PySem.W.keepIn K (.ref CN) = true)
    (xd : PySem.W.hasDictIn K CN = true)
    (xss : PySem.W.subIn K (.ref CN) (.ref CN) = some true)
    (xp : PySem.W.findIn K (.ref CN) "paper" = some none)
    (xf : PySem.W.typeIn K (.ref f_NoKits_init) = some (.type "function"))
    (pb1 : PySem.W.readsIn K BN (.type "type") = true)
    (pb2 : PySem.W.specialIn K (.ref BN) "__getattribute__" = some (some (.builtin "type.__getattribute__")))
    (pb3 : PySem.W.findCls K (.ref BN) (.type "type") "__init__" = some (.val (.builtin "ValueError.__init__")))
    (z_sorted : PySem.W.nsIn K mainGlobals "sorted" = some none)
    (z_tuple : PySem.W.nsIn K mainGlobals "tuple" = some none)
    (z_len : PySem.W.nsIn K mainGlobals "len" = some none)
    (z_sum : PySem.W.nsIn K mainGlobals "sum" = some none)
    (z_range : PySem.W.nsIn K mainGlobals "range" = some none)
    (z_min : PySem.W.nsIn K mainGlobals "min" = some none)
    (z_enumerate : PySem.W.nsIn K mainGlobals "enumerate" = some none)
    (z_zip : PySem.W.nsIn K mainGlobals "zip" = some none)
    (z_set : PySem.W.nsIn K mainGlobals "set" = some none)
    (z_list : PySem.W.nsIn K mainGlobals "list" = some none)
    (z_dict : PySem.W.nsIn K mainGlobals "dict" = some none)
    (z_all : PySem.W.nsIn K mainGlobals "all" = some none)
    : ∃ fd : FuncData, (∀ (s : Shared) (v : Value), BindsTo s fd ⟨[v], []⟩ [("_law_script", v)]) ∧ ∀ base : Heap, K.In base → base.Ns mainGlobals mg → FnOk P w K mg base CX0 10 fa fd ["_law_script"] (spLaw K) := by
  have e := hfa.symm.trans (PySem.W.mg_of X G a_law)
  cases e
  have F_counted := fun_mk (st := s_counted) l_counted c_counted k_counted
  have b_counted := F_counted.binds (ps := ["rows"]) fun _ _ _ _ _ _ us hl => match us, hl with | [_], _ => rfl
  have F_lets := fun_mk (st := s_lets) l_lets c_lets k_lets
  have b_lets := F_lets.binds (ps := ["heap", "want"]) fun _ _ _ _ _ _ us hl => match us, hl with | [_, _], _ => rfl
  have F_spread := fun_mk (st := s_spread) l_spread c_spread k_spread
  have b_spread := F_spread.binds (ps := ["heap", "wants", "gifts", "left", "k"]) fun _ _ _ _ _ _ us hl => match us, hl with | [_, _, _, _, _], _ => rfl
  have F_way_of := fun_mk (st := s_way_of) l_way_of c_way_of k_way_of
  have b_way_of := F_way_of.binds (ps := ["parts", "holders", "part"]) fun _ _ _ _ _ _ us hl => match us, hl with | [_, _, _], _ => rfl
  have F_lead := fun_mk (st := s_lead) l_lead c_lead k_lead
  have b_lead := F_lead.binds (ps := ["heap", "wants", "gifts", "left", "k", "most"]) fun _ _ _ _ _ _ us hl => match us, hl with | [_, _, _, _, _, _], _ => rfl
  have F_parts_left := fun_mk (st := s_parts_left) l_parts_left c_parts_left k_parts_left
  have b_parts_left := F_parts_left.binds (ps := ["heap"]) fun _ _ _ _ _ _ us hl => match us, hl with | [_], _ => rfl
  have F_led := fun_mk (st := s_led) l_led c_led k_led
  have b_led := F_led.binds (ps := ["heap", "wants"]) fun _ _ _ _ _ _ us hl => match us, hl with | [_, _], _ => rfl
  have F_as_gift := fun_mk (st := s_as_gift) l_as_gift c_as_gift k_as_gift
  have b_as_gift := F_as_gift.binds (ps := ["some"]) fun _ _ _ _ _ _ us hl => match us, hl with | [_], _ => rfl
  have F_shades_of := fun_mk (st := s_shades_of) l_shades_of c_shades_of k_shades_of
  have b_shades_of := F_shades_of.binds (ps := ["wants", "some"]) fun _ _ _ _ _ _ us hl => match us, hl with | [_, _], _ => rfl
  have F_deal := fun_mk (st := s_deal) l_deal c_deal k_deal
  have b_deal := F_deal.binds (ps := ["heap", "wants"]) fun _ _ _ _ _ _ us hl => match us, hl with | [_, _], _ => rfl
  have F_times := fun_mk (st := s_times) l_times c_times k_times
  have b_times := F_times.binds (ps := ["heap", "number"]) fun _ _ _ _ _ _ us hl => match us, hl with | [_, _], _ => rfl
  have F_with_kits := fun_mk (st := s_with_kits) l_with_kits c_with_kits k_with_kits
  have b_with_kits := F_with_kits.binds (ps := ["heap", "kits", "many"]) fun _ _ _ _ _ _ us hl => match us, hl with | [_, _, _], _ => rfl
  have F_wanted_at := fun_mk (st := s_wanted_at) l_wanted_at c_wanted_at k_wanted_at
  have b_wanted_at := F_wanted_at.binds (ps := ["wants", "form", "shades"]) fun _ _ _ _ _ _ us hl => match us, hl with | [_, _, _], _ => rfl
  have F_has_at := fun_mk (st := s_has_at) l_has_at c_has_at k_has_at
  have b_has_at := F_has_at.binds (ps := ["heap", "form", "shades"]) fun _ _ _ _ _ _ us hl => match us, hl with | [_, _, _], _ => rfl
  have F_never_at := fun_mk (st := s_never_at) l_never_at c_never_at k_never_at
  have b_never_at := F_never_at.binds (ps := ["heap", "kits", "wants"]) fun _ _ _ _ _ _ us hl => match us, hl with | [_, _, _], _ => rfl
  have F_sums_of := fun_mk (st := s_sums_of) l_sums_of c_sums_of k_sums_of
  have b_sums_of := F_sums_of.binds (ps := ["parts", "total"]) fun _ _ _ _ _ _ us hl => match us, hl with | [_, _], _ => rfl
  have F_fills := fun_mk (st := s_fills) l_fills c_fills k_fills
  have b_fills := F_fills.binds (ps := ["heap", "kits", "wants", "places", "many"]) fun _ _ _ _ _ _ us hl => match us, hl with | [_, _, _, _, _], _ => rfl
  have F_fewest := fun_mk (st := s_fewest) l_fewest c_fewest k_fewest
  have b_fewest := F_fewest.binds (ps := ["heap", "kits", "sheet"]) fun _ _ _ _ _ _ us hl => match us, hl with | [_, _, _], _ => rfl
  have F_Ltap := fun_mk (st := s_Ltap) l_Ltap c_Ltap k_Ltap
  have b_Ltap := F_Ltap.binds (ps := ["_law_script"]) fun _ _ _ _ _ _ us hl => match us, hl with | [_], _ => rfl
  have F_Lpick := fun_mk (st := s_Lpick) l_Lpick c_Lpick k_Lpick
  have b_Lpick := F_Lpick.binds (ps := ["_law_tap_here", "_law_many"]) fun _ _ _ _ _ _ us hl => match us, hl with | [_, _], _ => rfl
  have F_Lwords := fun_mk (st := s_Lwords) l_Lwords c_Lwords k_Lwords
  have b_Lwords := F_Lwords.binds (ps := ["_law_tap_here"]) fun _ _ _ _ _ _ us hl => match us, hl with | [_], _ => rfl
  have F_Lrows := fun_mk (st := s_Lrows) l_Lrows c_Lrows k_Lrows
  have b_Lrows := F_Lrows.binds (ps := ["_law_tap_here", "_law_words_here", "_law_many", "_law_most_now"]) fun _ _ _ _ _ _ us hl => match us, hl with | [_, _, _, _], _ => rfl
  have F_Lsome := fun_mk (st := s_Lsome) l_Lsome c_Lsome k_Lsome
  have b_Lsome := F_Lsome.binds (ps := ["_law_tap_here", "_law_shades"]) fun _ _ _ _ _ _ us hl => match us, hl with | [_, _], _ => rfl
  have F_Lwants := fun_mk (st := s_Lwants) l_Lwants c_Lwants k_Lwants
  have b_Lwants := F_Lwants.binds (ps := ["_law_tap_here", "_law_words_here", "_law_many", "_law_most_now"]) fun _ _ _ _ _ _ us hl => match us, hl with | [_, _, _, _], _ => rfl
  have F_Lsheet := fun_mk (st := s_Lsheet) l_Lsheet c_Lsheet k_Lsheet
  have b_Lsheet := F_Lsheet.binds (ps := ["_law_tap_here", "_law_wants_here"]) fun _ _ _ _ _ _ us hl => match us, hl with | [_, _], _ => rfl
  have F_Lhas := fun_mk (st := s_Lhas) l_Lhas c_Lhas k_Lhas
  have b_Lhas := F_Lhas.binds (ps := ["_law_rows_here", "_law_form", "_law_shades"]) fun _ _ _ _ _ _ us hl => match us, hl with | [_, _, _], _ => rfl
  have F_Lwanted := fun_mk (st := s_Lwanted) l_Lwanted c_Lwanted k_Lwanted
  have b_Lwanted := F_Lwanted.binds (ps := ["_law_wants_here", "_law_form", "_law_shades"]) fun _ _ _ _ _ _ us hl => match us, hl with | [_, _, _], _ => rfl
  have F_Ljoined := fun_mk (st := s_Ljoined) l_Ljoined c_Ljoined k_Ljoined
  have b_Ljoined := F_Ljoined.binds (ps := ["_law_one", "_law_other"]) fun _ _ _ _ _ _ us hl => match us, hl with | [_, _], _ => rfl
  have F_Lplaces := fun_mk (st := s_Lplaces) l_Lplaces c_Lplaces k_Lplaces
  have b_Lplaces := F_Lplaces.binds (ps := ["_law_wants_here"]) fun _ _ _ _ _ _ us hl => match us, hl with | [_], _ => rfl
  have F_Lsums := fun_mk (st := s_Lsums) l_Lsums c_Lsums k_Lsums
  have b_Lsums := F_Lsums.binds (ps := ["_law_parts", "_law_total"]) fun _ _ _ _ _ _ us hl => match us, hl with | [_, _], _ => rfl
  have F_Ltables := fun_mk (st := s_Ltables) l_Ltables c_Ltables k_Ltables
  have b_Ltables := F_Ltables.binds (ps := ["_law_rows_here", "_law_kits", "_law_wants_here"]) fun _ _ _ _ _ _ us hl => match us, hl with | [_, _, _], _ => rfl
  have F_Lnever := fun_mk (st := s_Lnever) l_Lnever c_Lnever k_Lnever
  have b_Lnever := F_Lnever.binds (ps := ["_law_rows_here", "_law_kits", "_law_wants_here"]) fun _ _ _ _ _ _ us hl => match us, hl with | [_, _, _], _ => rfl
  have F_Lfewest := fun_mk (st := s_Lfewest) l_Lfewest c_Lfewest k_Lfewest
  have b_Lfewest := F_Lfewest.binds (ps := ["_law_rows_here", "_law_kits", "_law_wants_here", "_law_most_now"]) fun _ _ _ _ _ _ us hl => match us, hl with | [_, _, _, _], _ => rfl
  have F_Lscene := fun_mk (st := s_Lscene) l_Lscene c_Lscene k_Lscene
  have b_Lscene := F_Lscene.binds (ps := ["_law_tap_here", "_law_most_now"]) fun _ _ _ _ _ _ us hl => match us, hl with | [_, _], _ => rfl
  have F_Ltold := fun_mk (st := s_Ltold) l_Ltold c_Ltold k_Ltold
  have b_Ltold := F_Ltold.binds (ps := ["_law_heap", "_law_heaps", "_law_sheet_here"]) fun _ _ _ _ _ _ us hl => match us, hl with | [_, _, _], _ => rfl
  have F_Lwider := fun_mk (st := s_Lwider) l_Lwider c_Lwider k_Lwider
  have b_Lwider := F_Lwider.binds (ps := ["_law_want"]) fun _ _ _ _ _ _ us hl => match us, hl with | [_], _ => rfl
  have F_law := fun_mk (st := s_law) l_law c_law k_law
  have b_law := F_law.binds (ps := ["_law_script"]) fun _ _ _ _ _ _ us hl => match us, hl with | [_], _ => rfl
  have F_Heap_rows := fun_mk (st := s_Heap_rows) l_Heap_rows c_Heap_rows k_Heap_rows
  have b_Heap_rows := F_Heap_rows.binds (ps := ["self"]) fun _ _ _ _ _ _ us hl => match us, hl with | [_], _ => rfl
  have F_Heap_plus := fun_mk (st := s_Heap_plus) l_Heap_plus c_Heap_plus k_Heap_plus
  have b_Heap_plus := F_Heap_plus.binds (ps := ["self", "other"]) fun _ _ _ _ _ _ us hl => match us, hl with | [_, _], _ => rfl
  have F_NoKits_init := fun_mk (st := s_NoKits_init) l_NoKits_init c_NoKits_init k_NoKits_init
  have b_NoKits_init := F_NoKits_init.binds (ps := ["self", "paper"]) fun _ _ _ _ _ _ us hl => match us, hl with | [_, _], _ => rfl
  have F_wants_of := funD_none (st := s_wants_of) l_wants_of c_wants_of k_wants_of t_wants_of d_wants_of
  have F_Heap_init := funD_none (st := s_Heap_init) l_Heap_init c_Heap_init k_Heap_init t_Heap_init d_Heap_init
  have F_Heap_many := funD_none (st := s_Heap_many) l_Heap_many c_Heap_many k_Heap_many t_Heap_many d_Heap_many
  obtain ⟨dw, vw, bw⟩ := F_wants_of.binds1 (ps := ["sheet", "choice"]) 1 0 (by simp) rfl (fun T kV doc pm an cdv ct us its hu hi => match us, its, hu, hi with | [_], [_], _, _ => ⟨_, rfl, rfl⟩)
  obtain ⟨di, vi, bi⟩ := F_Heap_init.binds1 (ps := ["self", "rows"]) 2 1 (by simp) rfl (fun T kV doc pm an cdv ct us its hu hi => match us, its, hu, hi with | [_, _], [_], _, _ => ⟨_, rfl, rfl⟩)
  obtain ⟨dm, vm, bm⟩ := F_Heap_many.binds1 (ps := ["self", "form", "shade"]) 2 0 (by simp) rfl (fun T kV doc pm an cdv ct us its hu hi => match us, its, hu, hi with | [_, _], [_], _, _ => ⟨_, rfl, rfl⟩)
  have B : BT mg := ⟨PySem.W.mg_none_of X G z_sorted, PySem.W.mg_none_of X G z_tuple, PySem.W.mg_none_of X G z_len, PySem.W.mg_none_of X G z_sum, PySem.W.mg_none_of X G z_range, PySem.W.mg_none_of X G z_min, PySem.W.mg_none_of X G z_enumerate, PySem.W.mg_none_of X G z_zip, PySem.W.mg_none_of X G z_set, PySem.W.mg_none_of X G z_list, PySem.W.mg_none_of X G z_dict, PySem.W.mg_none_of X G z_all⟩
  have T : HT0 K mg C := ⟨⟨pg, hd, po, sa⟩, nP, PySem.W.mg_of X G aC, B⟩
  have oe : OexC K CN := ⟨⟨nm, q, NN0, bs, _, sn, sub, ab, col, dd, m0, m1, m2, m3, m5, xL, by rfl⟩, xs, xb, xt, xk⟩
  have NK : NKT K mg CN BN f_NoKits_init := ⟨PySem.W.mg_of X G aB, ⟨pb1, pb2, pb3⟩, PySem.W.mg_of X G aN, oe, a_NoKits_init, xf, xp⟩
  have eN : PySem.W.exmOne K (.ref CN) (.ref CN) = some true := PySem.W.exm_ref xb xd xt xss
  refine ⟨PySem.W.fnOf "law" "law" (defArgs s_law) (defBody s_law) (defScope s_law) .none kV_law dc_law pm_law an_law cd_law ct_law, fun s v => .of_eq rfl, fun base _ _ => ?_⟩
  have K_counted : Cl P w K mg base CX0 1 "counted" ["rows"] [] _ := cl_mk (PySem.W.mg_of X G a_counted) k_counted b_counted (ok_counted F_counted)
  have MK : Mkl P w K mg base C := ⟨_, _, di, ⟨mk, a_Heap_init, i_Heap_init, kc⟩, bi, vi, ok_Hinit F_Heap_init T K_counted⟩
  have R : Ml P w K mg base 1 C "rows" ["self"] [] (spHRows C) := ⟨_, _, [], ⟨a_Heap_rows, i_Heap_rows, k_Heap_rows⟩, b_Heap_rows, .nil, ok_Hrows F_Heap_rows T⟩
  have MM : Ml P w K mg base 1 C "many" ["self", "form", "shade"] [.non] (spHMany C) := ⟨_, _, dm, ⟨a_Heap_many, i_Heap_many, k_Heap_many⟩, bm, vm, ok_Hmany F_Heap_many T⟩
  have MK2 : Mlk P w K mg base C := ⟨_, _, g3, ⟨a_Heap_many, i_Heap_many, k_Heap_many⟩, many_kw t_Heap_many d_Heap_many, ok_Hmany F_Heap_many T⟩
  have PL : Ml P w K mg base 4 C "plus" ["self", "other"] [] (spHPlus C) := ⟨_, _, [], ⟨a_Heap_plus, i_Heap_plus, k_Heap_plus⟩, b_Heap_plus, .nil, ok_Hplus F_Heap_plus T MK⟩
  have K_lets : Cl P w K mg base CX0 2 "lets" ["heap", "want"] [] _ := cl_mk (PySem.W.mg_of X G a_lets) k_lets b_lets (ok_lets F_lets T R)
  have K_times : Cl P w K mg base CX0 4 "times" ["heap", "number"] [] _ := cl_mk (PySem.W.mg_of X G a_times) k_times b_times (ok_times F_times T MK R)
  have K_parts_left : Cl P w K mg base CX0 2 "parts_left" ["heap"] [] _ := cl_mk (PySem.W.mg_of X G a_parts_left) k_parts_left b_parts_left (ok_parts_left F_parts_left T R)
  have K_with_kits : Cl P w K mg base CX0 5 "with_kits" ["heap", "kits", "many"] [] _ := cl_mk (PySem.W.mg_of X G a_with_kits) k_with_kits b_with_kits (ok_with_kits F_with_kits T PL K_times)
  have K_wanted_at : Cl P w K mg base CX0 1 "wanted_at" ["wants", "form", "shades"] [] _ := cl_mk (PySem.W.mg_of X G a_wanted_at) k_wanted_at b_wanted_at (ok_wanted_at F_wanted_at B)
  have K_has_at : Cl P w K mg base CX0 2 "has_at" ["heap", "form", "shades"] [] _ := cl_mk (PySem.W.mg_of X G a_has_at) k_has_at b_has_at (ok_has_at F_has_at T MM MK2)
  have K_fills : Cl P w K mg base CX0 3 "fills" ["heap", "kits", "wants", "places", "many"] [] _ := cl_mk (PySem.W.mg_of X G a_fills) k_fills b_fills (ok_fills F_fills T K_has_at K_wanted_at)
  have K_spread : Cl P w K mg base CX0 3 "spread" ["heap", "wants", "gifts", "left", "k"] [] _ := cl_mk (PySem.W.mg_of X G a_spread) k_spread b_spread (ok_spread F_spread B K_lets)
  have K_way_of : Cl P w K mg base CX0 1 "way_of" ["parts", "holders", "part"] [] _ := cl_mk (PySem.W.mg_of X G a_way_of) k_way_of b_way_of (ok_way F_way_of)
  have K_lead : Cl P w K mg base CX0 4 "lead" ["heap", "wants", "gifts", "left", "k", "most"] [] _ := cl_mk (PySem.W.mg_of X G a_lead) k_lead b_lead (ok_lead F_lead B K_spread K_way_of)
  have K_led : Cl P w K mg base CX0 5 "led" ["heap", "wants"] [] _ := cl_mk (PySem.W.mg_of X G a_led) k_led b_led (ok_led F_led B K_spread K_lead K_parts_left)
  have K_as_gift : Cl P w K mg base CX0 1 "as_gift" ["some"] [] _ := cl_mk (PySem.W.mg_of X G a_as_gift) k_as_gift b_as_gift (ok_as_gift F_as_gift B)
  have K_shades_of : Cl P w K mg base CX0 1 "shades_of" ["wants", "some"] [] _ := cl_mk (PySem.W.mg_of X G a_shades_of) k_shades_of b_shades_of (ok_shades_of F_shades_of B)
  have K_deal : Cl P w K mg base CX0 6 "deal" ["heap", "wants"] [] _ := cl_mk (PySem.W.mg_of X G a_deal) k_deal b_deal (ok_deal F_deal B K_led K_as_gift K_shades_of)
  have K_wants_of : Cl P w K mg base CX0 1 "wants_of" ["sheet", "choice"] [.non] spWantsOf := ⟨_, _, dw, PySem.W.mg_of X G a_wants_of, k_wants_of, bw, vw, ok_wants_of F_wants_of B⟩
  have K_never_at : Cl P w K mg base CX0 7 "never_at" ["heap", "kits", "wants"] [] _ := cl_mk (PySem.W.mg_of X G a_never_at) k_never_at b_never_at (ok_never_at F_never_at B K_deal K_with_kits)
  have K_sums_of : Cl P w K mg base CX0 1 "sums_of" ["parts", "total"] [] _ := cl_mk (PySem.W.mg_of X G a_sums_of) k_sums_of b_sums_of (ok_sums_of F_sums_of B)
  have FW : Clx P w K mg base 8 "fewest" ["heap", "kits", "sheet"] (spFewest C CN) f_fewest _ := ⟨PySem.W.mg_of X G a_fewest, k_fewest, b_fewest, ok_fewest (dN := []) F_fewest B NK (ok_NK F_NoKits_init NK) b_NoKits_init K_wants_of K_never_at K_sums_of K_fills K_deal K_with_kits⟩
  have K_Ltold : Cl P w K mg base CX0 9 "_law_told" ["_law_heap", "_law_heaps", "_law_sheet_here"] [] _ := cl_mk (PySem.W.mg_of X G a_Ltold) k_Ltold b_Ltold (ok_told F_Ltold B NK.mgN eN FW)
  have K_Ltap : Cl P w K mg base CX0 1 "_law_tap" ["_law_script"] [] _ := cl_mk (PySem.W.mg_of X G a_Ltap) k_Ltap b_Ltap (ok_tap F_Ltap B)
  have K_Lpick : Cl P w K mg base CX0 1 "_law_pick" ["_law_tap_here", "_law_many"] [] _ := cl_mk (PySem.W.mg_of X G a_Lpick) k_Lpick b_Lpick (ok_pick F_Lpick B)
  have K_Lwords : Cl P w K mg base CX0 2 "_law_words" ["_law_tap_here"] [] _ := cl_mk (PySem.W.mg_of X G a_Lwords) k_Lwords b_Lwords (ok_words F_Lwords B K_Lpick)
  have K_Lrows : Cl P w K mg base CX0 2 "_law_rows" ["_law_tap_here", "_law_words_here", "_law_many", "_law_most_now"] [] _ := cl_mk (PySem.W.mg_of X G a_Lrows) k_Lrows b_Lrows (ok_rows F_Lrows B K_Lpick)
  have K_Lsome : Cl P w K mg base CX0 2 "_law_some" ["_law_tap_here", "_law_shades"] [] _ := cl_mk (PySem.W.mg_of X G a_Lsome) k_Lsome b_Lsome (ok_some F_Lsome B K_Lpick)
  have K_Lwants : Cl P w K mg base CX0 3 "_law_wants" ["_law_tap_here", "_law_words_here", "_law_many", "_law_most_now"] [] _ := cl_mk (PySem.W.mg_of X G a_Lwants) k_Lwants b_Lwants (ok_wants F_Lwants B K_Lpick K_Lsome)
  have K_Lsheet : Cl P w K mg base CX0 2 "_law_sheet" ["_law_tap_here", "_law_wants_here"] [] _ := cl_mk (PySem.W.mg_of X G a_Lsheet) k_Lsheet b_Lsheet (ok_sheet F_Lsheet B K_Lpick)
  have K_Lhas : Cl P w K mg base CX0 1 "_law_has" ["_law_rows_here", "_law_form", "_law_shades"] [] _ := cl_mk (PySem.W.mg_of X G a_Lhas) k_Lhas b_Lhas (ok_Lhas F_Lhas B)
  have K_Lwanted : Cl P w K mg base CX0 1 "_law_wanted" ["_law_wants_here", "_law_form", "_law_shades"] [] _ := cl_mk (PySem.W.mg_of X G a_Lwanted) k_Lwanted b_Lwanted (ok_Lwanted F_Lwanted B)
  have K_Ljoined : Cl P w K mg base CX0 1 "_law_joined" ["_law_one", "_law_other"] [] _ := cl_mk (PySem.W.mg_of X G a_Ljoined) k_Ljoined b_Ljoined (ok_joined F_Ljoined B)
  have K_Lplaces : Cl P w K mg base CX0 2 "_law_places" ["_law_wants_here"] [] _ := cl_mk (PySem.W.mg_of X G a_Lplaces) k_Lplaces b_Lplaces (ok_places F_Lplaces B K_Ljoined)
  have K_Lsums : Cl P w K mg base CX0 1 "_law_sums" ["_law_parts", "_law_total"] [] _ := cl_mk (PySem.W.mg_of X G a_Lsums) k_Lsums b_Lsums (ok_Lsums F_Lsums B)
  have K_Ltables : Cl P w K mg base CX0 3 "_law_tables" ["_law_rows_here", "_law_kits", "_law_wants_here"] [] _ := cl_mk (PySem.W.mg_of X G a_Ltables) k_Ltables b_Ltables (ok_tables F_Ltables B K_Lplaces K_Lwanted K_Lhas)
  have K_Lnever : Cl P w K mg base CX0 4 "_law_never" ["_law_rows_here", "_law_kits", "_law_wants_here"] [] _ := cl_mk (PySem.W.mg_of X G a_Lnever) k_Lnever b_Lnever (ok_Lnever F_Lnever B K_Ltables)
  have K_Lfewest : Cl P w K mg base CX0 4 "_law_fewest" ["_law_rows_here", "_law_kits", "_law_wants_here", "_law_most_now"] [] _ := cl_mk (PySem.W.mg_of X G a_Lfewest) k_Lfewest b_Lfewest (ok_Lfewest F_Lfewest B K_Ltables K_Lsums)
  have K_Lscene : Cl P w K mg base CX0 5 "_law_scene" ["_law_tap_here", "_law_most_now"] [] _ := cl_mk (PySem.W.mg_of X G a_Lscene) k_Lscene b_Lscene (ok_scene F_Lscene B K_Lpick K_Lwords K_Lrows K_Lwants K_Lnever K_Lfewest)
  have K_Lwider : Cl P w K mg base CX0 1 "_law_wider" ["_law_want"] [] _ := cl_mk (PySem.W.mg_of X G a_Lwider) k_Lwider b_Lwider (ok_wider F_Lwider B)
  exact ok_law F_law T MK PL K_Ltap K_Lpick K_Lscene K_Lsheet K_Lrows K_Ltold K_Lwider
theorem walk {l : PySem.W.OpenLaw} {q : Program} {loose : List Str} {XP : (Str → Option Value) → Heap → Prop} {YP : World → Heap → Prop} {d : DefRec} {K : Params → PySem.W.Frag} (hn : l.most = some 63) (hdf : d.params.defaults = [])
    (hY : ∀ (w : World) (h : Heap), YP w h → (K w.params).In h)
    (F : ∀ (w : World) (mg : Str → Option Value) (fa : Addr) (h : Heap), (K w.params).In h → h.Ns mainGlobals mg → mg d.name = some (.ref fa) →
      ∃ fd : FuncData, (∀ (s : Shared) (u : Value), BindsTo s fd ⟨[u], []⟩ [("_law_script", u)]) ∧ ∀ base : Heap, (K w.params).In base → base.Ns mainGlobals mg → FnOk l.prog w (K w.params) mg base CX0 10 fa fd ["_law_script"] (spLaw (K w.params))) :
    PySem.W.WalkO q loose XP YP l.row.toRowW d [] (fun f vs => PySem.call f vs) :=
  L2.walk_of (n := 63) (k := 10) (x := "_law_script") (CX := fun _ => CX0) (sp := fun w => spLaw (K w.params)) hn (by decide) hdf ⟨rfl, by decide, by decide⟩ hY F (fun _ _ a ns hl _ hS => ⟨a, ns, rfl, hS, hl, fun _ => rfl⟩) fun _ _ _ _ _ z => z
end K70
open PySem PySem.W PyProof.Rows
set_option maxRecDepth 100000 in
set_option maxHeartbeats 0 in
theorem PySem.Challenge.cw_partkits_k70_whole_kit_more_holds : PySem.Challenge.rw_partkits_k70_whole_kit_more.Holds := by
  w_on; o_law; k_head; (case hw => w_witness2)
  k_fill
  refine K70.walk (l := PySem.Challenge.rw_partkits_k70_whole_kit_more) rfl rfl (fun w h Y => PySem.W.kIn_of Y) ?F
  case F =>
    intro w mg fa h KX G hmg
    refine' K70.all_mk KX G hmg ?a_counted ?l_counted ?c_counted ?k_counted ?a_lets ?l_lets ?c_lets ?k_lets ?a_spread ?l_spread ?c_spread ?k_spread ?a_way_of ?l_way_of ?c_way_of ?k_way_of ?a_lead ?l_lead ?c_lead ?k_lead ?a_parts_left ?l_parts_left ?c_parts_left ?k_parts_left ?a_led ?l_led ?c_led ?k_led ?a_as_gift ?l_as_gift ?c_as_gift ?k_as_gift ?a_shades_of ?l_shades_of ?c_shades_of ?k_shades_of ?a_deal ?l_deal ?c_deal ?k_deal ?a_wants_of ?l_wants_of ?c_wants_of ?k_wants_of ?t_wants_of ?d_wants_of ?a_times ?l_times ?c_times ?k_times ?a_with_kits ?l_with_kits ?c_with_kits ?k_with_kits ?a_wanted_at ?l_wanted_at ?c_wanted_at ?k_wanted_at ?a_has_at ?l_has_at ?c_has_at ?k_has_at ?a_never_at ?l_never_at ?c_never_at ?k_never_at ?a_sums_of ?l_sums_of ?c_sums_of ?k_sums_of ?a_fills ?l_fills ?c_fills ?k_fills ?a_fewest ?l_fewest ?c_fewest ?k_fewest ?a_Ltap ?l_Ltap ?c_Ltap ?k_Ltap ?a_Lpick ?l_Lpick ?c_Lpick ?k_Lpick ?a_Lwords ?l_Lwords ?c_Lwords ?k_Lwords ?a_Lrows ?l_Lrows ?c_Lrows ?k_Lrows ?a_Lsome ?l_Lsome ?c_Lsome ?k_Lsome ?a_Lwants ?l_Lwants ?c_Lwants ?k_Lwants ?a_Lsheet ?l_Lsheet ?c_Lsheet ?k_Lsheet ?a_Lhas ?l_Lhas ?c_Lhas ?k_Lhas ?a_Lwanted ?l_Lwanted ?c_Lwanted ?k_Lwanted ?a_Ljoined ?l_Ljoined ?c_Ljoined ?k_Ljoined ?a_Lplaces ?l_Lplaces ?c_Lplaces ?k_Lplaces ?a_Lsums ?l_Lsums ?c_Lsums ?k_Lsums ?a_Ltables ?l_Ltables ?c_Ltables ?k_Ltables ?a_Lnever ?l_Lnever ?c_Lnever ?k_Lnever ?a_Lfewest ?l_Lfewest ?c_Lfewest ?k_Lfewest ?a_Lscene ?l_Lscene ?c_Lscene ?k_Lscene ?a_Ltold ?l_Ltold ?c_Ltold ?k_Ltold ?a_Lwider ?l_Lwider ?c_Lwider ?k_Lwider ?a_law ?l_law ?c_law ?k_law ?aC ?aN ?aB ?a_Heap_init ?i_Heap_init ?l_Heap_init ?c_Heap_init ?k_Heap_init ?t_Heap_init ?d_Heap_init ?a_Heap_rows ?i_Heap_rows ?l_Heap_rows ?c_Heap_rows ?k_Heap_rows ?a_Heap_many ?i_Heap_many ?l_Heap_many ?c_Heap_many ?k_Heap_many ?t_Heap_many ?d_Heap_many ?a_Heap_plus ?i_Heap_plus ?l_Heap_plus ?c_Heap_plus ?k_Heap_plus ?a_NoKits_init ?l_NoKits_init ?c_NoKits_init ?k_NoKits_init ?pg ?hd ?po ?sa ?mk ?kc ?nP ?xL ?xs ?xb ?xt ?xk ?xd ?xss ?xp ?xf ?pb1 ?pb2 ?pb3 ?z_sorted ?z_tuple ?z_len ?z_sum ?z_range ?z_min ?z_enumerate ?z_zip ?z_set ?z_list ?z_dict ?z_all
    (case a_counted => k_is)
    (case l_counted => k_is)
    (case c_counted => k_is)
    (case k_counted => k_is)
    (case a_lets => k_is)
    (case l_lets => k_is)
    (case c_lets => k_is)
    (case k_lets => k_is)
    (case a_spread => k_is)
    (case l_spread => k_is)
    (case c_spread => k_is)
    (case k_spread => k_is)
    (case a_way_of => k_is)
    (case l_way_of => k_is)
    (case c_way_of => k_is)
    (case k_way_of => k_is)
    (case a_lead => k_is)
    (case l_lead => k_is)
    (case c_lead => k_is)
    (case k_lead => k_is)
    (case a_parts_left => k_is)
    (case l_parts_left => k_is)
    (case c_parts_left => k_is)
    (case k_parts_left => k_is)
    (case a_led => k_is)
    (case l_led => k_is)
    (case c_led => k_is)
    (case k_led => k_is)
    (case a_as_gift => k_is)
    (case l_as_gift => k_is)
    (case c_as_gift => k_is)
    (case k_as_gift => k_is)
    (case a_shades_of => k_is)
    (case l_shades_of => k_is)
    (case c_shades_of => k_is)
    (case k_shades_of => k_is)
    (case a_deal => k_is)
    (case l_deal => k_is)
    (case c_deal => k_is)
    (case k_deal => k_is)
    (case a_wants_of => k_is)
    (case l_wants_of => k_is)
    (case c_wants_of => k_is)
    (case k_wants_of => k_is)
    (case t_wants_of => k_is)
    (case d_wants_of => exact rfl)
    (case a_times => k_is)
    (case l_times => k_is)
    (case c_times => k_is)
    (case k_times => k_is)
    (case a_with_kits => k_is)
    (case l_with_kits => k_is)
    (case c_with_kits => k_is)
    (case k_with_kits => k_is)
    (case a_wanted_at => k_is)
    (case l_wanted_at => k_is)
    (case c_wanted_at => k_is)
    (case k_wanted_at => k_is)
    (case a_has_at => k_is)
    (case l_has_at => k_is)
    (case c_has_at => k_is)
    (case k_has_at => k_is)
    (case a_never_at => k_is)
    (case l_never_at => k_is)
    (case c_never_at => k_is)
    (case k_never_at => k_is)
    (case a_sums_of => k_is)
    (case l_sums_of => k_is)
    (case c_sums_of => k_is)
    (case k_sums_of => k_is)
    (case a_fills => k_is)
    (case l_fills => k_is)
    (case c_fills => k_is)
    (case k_fills => k_is)
    (case a_fewest => k_is)
    (case l_fewest => k_is)
    (case c_fewest => k_is)
    (case k_fewest => k_is)
    (case a_Ltap => k_is)
    (case l_Ltap => k_is)
    (case c_Ltap => k_is)
    (case k_Ltap => k_is)
    (case a_Lpick => k_is)
    (case l_Lpick => k_is)
    (case c_Lpick => k_is)
    (case k_Lpick => k_is)
    (case a_Lwords => k_is)
    (case l_Lwords => k_is)
    (case c_Lwords => k_is)
    (case k_Lwords => k_is)
    (case a_Lrows => k_is)
    (case l_Lrows => k_is)
    (case c_Lrows => k_is)
    (case k_Lrows => k_is)
    (case a_Lsome => k_is)
    (case l_Lsome => k_is)
    (case c_Lsome => k_is)
    (case k_Lsome => k_is)
    (case a_Lwants => k_is)
    (case l_Lwants => k_is)
    (case c_Lwants => k_is)
    (case k_Lwants => k_is)
    (case a_Lsheet => k_is)
    (case l_Lsheet => k_is)
    (case c_Lsheet => k_is)
    (case k_Lsheet => k_is)
    (case a_Lhas => k_is)
    (case l_Lhas => k_is)
    (case c_Lhas => k_is)
    (case k_Lhas => k_is)
    (case a_Lwanted => k_is)
    (case l_Lwanted => k_is)
    (case c_Lwanted => k_is)
    (case k_Lwanted => k_is)
    (case a_Ljoined => k_is)
    (case l_Ljoined => k_is)
    (case c_Ljoined => k_is)
    (case k_Ljoined => k_is)
    (case a_Lplaces => k_is)
    (case l_Lplaces => k_is)
    (case c_Lplaces => k_is)
    (case k_Lplaces => k_is)
    (case a_Lsums => k_is)
    (case l_Lsums => k_is)
    (case c_Lsums => k_is)
    (case k_Lsums => k_is)
    (case a_Ltables => k_is)
    (case l_Ltables => k_is)
    (case c_Ltables => k_is)
    (case k_Ltables => k_is)
    (case a_Lnever => k_is)
    (case l_Lnever => k_is)
    (case c_Lnever => k_is)
    (case k_Lnever => k_is)
    (case a_Lfewest => k_is)
    (case l_Lfewest => k_is)
    (case c_Lfewest => k_is)
    (case k_Lfewest => k_is)
    (case a_Lscene => k_is)
    (case l_Lscene => k_is)
    (case c_Lscene => k_is)
    (case k_Lscene => k_is)
    (case a_Ltold => k_is)
    (case l_Ltold => k_is)
    (case c_Ltold => k_is)
    (case k_Ltold => k_is)
    (case a_Lwider => k_is)
    (case l_Lwider => k_is)
    (case c_Lwider => k_is)
    (case k_Lwider => k_is)
    (case a_law => k_is)
    (case l_law => k_is)
    (case c_law => k_is)
    (case k_law => k_is)
    (case aC => k_is)
    (case aN => k_is)
    (case aB => k_is)
    (case a_Heap_init => k_is)
    (case i_Heap_init => k_is)
    (case l_Heap_init => k_is)
    (case c_Heap_init => k_is)
    (case k_Heap_init => k_is)
    (case t_Heap_init => k_is)
    (case d_Heap_init => exact rfl)
    (case a_Heap_rows => k_is)
    (case i_Heap_rows => k_is)
    (case l_Heap_rows => k_is)
    (case c_Heap_rows => k_is)
    (case k_Heap_rows => k_is)
    (case a_Heap_many => k_is)
    (case i_Heap_many => k_is)
    (case l_Heap_many => k_is)
    (case c_Heap_many => k_is)
    (case k_Heap_many => k_is)
    (case t_Heap_many => k_is)
    (case d_Heap_many => exact rfl)
    (case a_Heap_plus => k_is)
    (case i_Heap_plus => k_is)
    (case l_Heap_plus => k_is)
    (case c_Heap_plus => k_is)
    (case k_Heap_plus => k_is)
    (case a_NoKits_init => k_is)
    (case l_NoKits_init => k_is)
    (case c_NoKits_init => k_is)
    (case k_NoKits_init => k_is)
    (case pg => k_is)
    (case hd => k_is)
    (case po => k_is)
    (case sa => k_is)
    (case mk => k_is)
    (case kc => k_is)
    (case nP => k_is)
    (case xL => k_is)
    (case xs => k_is)
    (case xb => k_is)
    (case xt => k_is)
    (case xk => k_is)
    (case xd => k_is)
    (case xss => k_is)
    (case xp => k_is)
    (case xf => k_is)
    (case pb1 => k_is)
    (case pb2 => k_is)
    (case pb3 => k_is)
    (case z_sorted => k_is)
    (case z_tuple => k_is)
    (case z_len => k_is)
    (case z_sum => k_is)
    (case z_range => k_is)
    (case z_min => k_is)
    (case z_enumerate => k_is)
    (case z_zip => k_is)
    (case z_set => k_is)
    (case z_list => k_is)
    (case z_dict => k_is)
    (case z_all => k_is)

end

import PyProof.Rows.All
import HandS.ForMost
import HandS.TupSets
import HandS.SetBool
import HandS.TupAny
import HandS.DictComp
import HandS.Zip
import HandS.Deep
import HandS.IsInst
import HandS.Walk
import HandS.Evl
import HandS.Conv
import KE.SortData
import KE.GoesMore
import KE.GoesComp
import KE.GoesSet
import KE.GoesNew
import KE.GoesEnum
import HandS.SetFor
import HandS.WordsDict
import HandS.More
import HandS.Defaults
import HandS.ExcInit
import HandS.ExcIs
import HandS.ExcField
import HandS.ExcOwn
import HandS.HotCalls
import KE.KExcIs
import Wide.All
import OpenK.AllK
import Wide.FinOn
import KE.KStateDown
import HandS.Head0
import HandS.Head1
import HandS.Head2
import HandS.HeadEnd
import HandS.HeadHook1
import HandS.HeadHook2
import HandS.HeadWalk
import PySem.Challenge.RW_turnbehind_k77_whole_trim
set_option Elab.async false
set_option linter.all false
set_option maxRecDepth 100000
set_option maxHeartbeats 4000000
/-! Own rules over the layer: sorted of data, sorted of a set of rows, a set comprehension of rows, zip of a tuple and a list, enumerate of a tuple, count of texts. -/
namespace Tb
open PySem PySem.Spec PyProof.Rows L2

/-! ### what is read off lies in the heap -/
mutual
theorem reads_lt {h : Heap} : ∀ {v : Value} {d : PyData} {as : List Addr}, Reads h v d as → ∀ a ∈ as, a < h.objs.size
  | _, _, _, .none, _, z => nomatch z
  | _, _, _, .bool _, _, z => nomatch z
  | _, _, _, .int _ _, _, z => nomatch z
  | _, _, _, .str _ _, _, z => nomatch z
  | _, _, _, .list h1 _ _ h4, a, z => by
    rcases List.mem_cons.mp z with e | e
    · rw [e]
      exact Heap.lt_size h1
    · exact reads_all_lt h4 a e
  | _, _, _, .tuple _ _ _ h4, a, z => reads_all_lt h4 a z
  | _, _, _, .dict h1 _ _ h4 h5, a, z => by
    rcases List.mem_append.mp z with e | e
    · rcases List.mem_cons.mp e with e | e
      · rw [e]
        exact Heap.lt_size h1
      · exact reads_all_lt h4 a e
    · exact reads_all_lt h5 a e
theorem reads_all_lt {h : Heap} : ∀ {vs : List Value} {ds : List PyData} {as : List Addr}, ReadsAll h vs ds as → ∀ a ∈ as, a < h.objs.size
  | _, _, _, .nil, _, z => nomatch z
  | _, _, _, .cons h1 h2, a, z => by
    rcases List.mem_append.mp z with e | e
    · exact reads_lt h1 a e
    · exact reads_all_lt h2 a e
end

/-! ### sorted: whatever is collected -/
open PySem.W in
/-- what is known of the collected values: they stand for bs, alike data of little depth -/
structure SortIn {β : Type} (R : Value → β → Prop) (enc : β → PyData) (h : Heap) (vs : List Value) (bs : List β) : Prop where
  is : EachIs R vs bs
  rd : EachIs (fun u b => ∃ as, Reads h u (enc b) as) vs bs
  al : AllAlike (bs.map enc)
  so : W.Sortable (bs.map enc)
  dp : ∀ b ∈ bs, (enc b).depth ≤ 8
  ln : bs.length ≤ sizeLine
section
variable {prog : Program} {w : World} {A : Around} {E : Value → Shared → Prop} {s : Shared}
open PySem.W in
/-- sorted(v), v anything that is collected into vs, which stand for bs -/
theorem sorted_collected {β : Type} {v : Value} {R : Value → β → Prop} {enc : β → PyData} {C : List Value → List β → Shared → Prop} {Q : Value → Shared → Prop} (hu : A.units + 20 < cLine)
    (hc : ∀ (Q' : List Value → Shared → Prop) (E' : Value → Shared → Prop), (∀ vs bs s', C vs bs s' → Q' vs s') → wpAny (model prog w) A.in1 (collect v) Q' E' s)
    (hC : ∀ vs bs s', C vs bs s' → SortIn R enc s'.heap vs bs)
    (hq : ∀ vs bs s' out c h' p, C vs bs s' → (∀ b o, s'.heap.get? b = some o → h'.get? b = some o) → s'.heap.objs.size ≤ p → h'.get? p = some (seqObj "list" (List.toArray out) c) → out.length = bs.length →
      EachIs R out (bs.mergeSort (dataLe false enc)) → Q (.ref p) { s' with heap := h' }) :
    wpAny (model prog w) A (call (.builtin "sorted") [v]) Q E s := by
  refine Calls.call_function_entry kind_sorted plain_sorted entry_sorted (args_sorted1 _) ?_
  unfold Builtin.«sorted»
  refine wpAny_bind (m := checkCount "sorted" 1 1 _) (wpAny_pure ?_)
  refine wpAny_bind (hc _ _ fun vs bs s1 hC1 => ?_)
  have S := hC vs bs s1 hC1
  have hl : vs.length = bs.length := S.is.length
  refine wpAny_bind (wpAny_newList ?_ (by rw [hl]; exact S.ln))
  have hoL : (s1.heap.push (seqObj "list" vs.toArray 0)).get? s1.heap.objs.size = some (seqObj "list" vs.toArray 0) := Heap.get?_push_size _ rfl
  have hu1 : A.in1.units + 12 < cLine := by
    show A.units + 1 + 12 < cLine
    omega
  refine wpAny_bind (wpAny_holding (list_sort_data (A := A.in1) (s := { s1 with heap := s1.heap.push (seqObj "list" vs.toArray 0) }) (R := R) (enc := enc) (bs := bs) hoL S.is (S.rd.mono fun u b ⟨as, r⟩ => ⟨as, PyProof.Rows.Reads.keeps (fun b o e => Heap.get?_push_of_some _ e) r, fun z => absurd (reads_lt r _ z) (Nat.lt_irrefl _)⟩)
    S.al S.so S.ln (fun b hb => by have := S.dp b hb; omega) fun out ho eo => ?_))
  obtain ⟨c, hc2⟩ := sortedHeap_at (vs := vs) (out := List.toArray out) hoL
  refine wpAny_pure ⟨_, rfl, hq vs bs s1 out c _ s1.heap.objs.size hC1 (fun b o e => ?_) (Nat.le_refl _) hc2 ho eo⟩
  have hlt := Heap.lt_size e
  rw [sortedHeap_old (Nat.ne_of_lt hlt) (by rw [size_push']; exact Nat.lt_succ_of_lt hlt)]
  exact Heap.get?_push_of_some _ e
end

/-! ### sorted over the layer -/
/-- the items with what they stand for -/
abbrev VD : Type := V × PyData
def RelVD (u : Value) (b : VD) : Prop := RelV b.1 u
open PySem.W in
theorem each_vd {X : Cx} {pins : List (Addr × Obj)} {σ : L2.St} {H : Hp} {s : Shared} (I : Inv X pins σ H s) : ∀ {xs : List V} {ds : List PyData} {us : List Value}, DpAll X.K H xs ds → Vals xs us →
    EachIs RelVD us (xs.zip ds) ∧ EachIs (fun u (b : VD) => ∃ as, Reads s.heap u b.2 as) us (xs.zip ds)
  | _, _, _, .nil, .nil => ⟨.nil, .nil⟩
  | _, _, _, .cons h1 h2, .cons r1 r2 => by
    obtain ⟨e1, e2⟩ := each_vd I h2 r2
    obtain ⟨as, q⟩ := Dp.reads I _ _ _ h1 r1
    exact ⟨.cons r1 e1, .cons ⟨as, q⟩ e2⟩
theorem dp_len {K : PySem.W.Frag} {H : Hp} : ∀ {xs : List V} {ds : List PyData}, DpAll K H xs ds → xs.length = ds.length
  | _, _, .nil => rfl
  | _, _, .cons _ t => by rw [List.length_cons, List.length_cons, dp_len t]
theorem dp_zip {K : PySem.W.Frag} {H : Hp} {xs : List V} {ds : List PyData} (h : DpAll K H xs ds) : (xs.zip ds).map Prod.snd = ds := by
  have := dp_len h
  exact List.map_snd_zip (by omega)
theorem dp_pairs {K : PySem.W.Frag} {H : Hp} : ∀ {xs : List V} {ds : List PyData}, DpAll K H xs ds → ∀ b ∈ xs.zip ds, Dp K H b.1 b.2
  | _, _, .nil, _, z => nomatch z
  | _, _, .cons h1 h2, b, z => by
    rcases List.mem_cons.mp z with e | e
    · rw [e]
      exact h1
    · exact dp_pairs h2 b e
theorem dp_of_pairs {K : PySem.W.Frag} {H : Hp} : ∀ {l : List VD}, (∀ b ∈ l, Dp K H b.1 b.2) → DpAll K H (l.map Prod.fst) (l.map Prod.snd)
  | [], _ => .nil
  | b :: l, h => .cons (h b List.mem_cons_self) (dp_of_pairs fun c hc => h c (List.mem_cons_of_mem _ hc))
open PySem.W in
theorem vals_of_each : ∀ {out : List Value} {l : List VD}, EachIs RelVD out l → Vals (l.map Prod.fst) out
  | _, _, .nil => .nil
  | _, _, .cons r t => .cons r (vals_of_each t)
/-- the data, sorted -/
def srtD (ds : List PyData) : List PyData := ds.mergeSort (PySem.W.dataLe false id)
open PySem.W in
theorem srt_pairs (l : List VD) : (l.mergeSort (dataLe false Prod.snd)).map Prod.snd = srtD (l.map Prod.snd) := sort_maps Prod.snd fun _ _ _ _ => rfl
/-- what sorted wants of the data -/
structure SortOk (ds : List PyData) : Prop where
  al : PySem.W.AllAlike ds
  so : PySem.W.Sortable ds
  dp : ∀ d ∈ ds, d.depth ≤ 8
  ln : ds.length ≤ sizeLine
/-- sorted(a list, a tuple) -/
def rSortedD (K : PySem.W.Frag) : List V → Hp → VK → Prop := fun vs H Q => ∃ (a : Addr) (xs : List V) (ds : List PyData), vs = [.ref a] ∧ (SqL K H a xs ∨ SqT K H a xs) ∧ DpAll K H xs ds ∧ SortOk ds ∧
  ∀ (p : Addr) (ys : List V), H p = none → DpAll K H ys (srtD ds) → Q (.ref p) (upd H p (.lst ys))
open PySem.W in
theorem cr_sortedD {X : Cx} (hu : X.A.units + 20 < cLine) : CallR X (.builtin "sorted") (rSortedD X.K) := by
  intro pins s σ H vs us Q I r h
  obtain ⟨a, xs, ds, rfl, hs, hd, S, q⟩ := h
  rw [Vals.ref1 r]
  have key : ∃ (T : String) (o : Obj) (its : List Value) (n : Nat), (T = "list" ∨ T = "tuple") ∧ s.heap.get? a = some o ∧ o.cls = .type T ∧ o.data = .seq its.toArray n ∧ Vals xs its := by
    rcases hs with hs | hs
    · obtain ⟨its, rv, ⟨o, n, ho, hc, _, hd⟩, _⟩ := I.list hs
      exact ⟨"list", o, its, n, .inl rfl, ho, hc, hd, rv⟩
    · obtain ⟨its, rv, ⟨o, ho, hc, n, hd⟩, _⟩ := I.tuple hs
      exact ⟨"tuple", o, its, n, .inr rfl, ho, hc, hd, rv⟩
  obtain ⟨T, o, its, n, hT, ho, hc, hdt, rv⟩ := key
  have hl1 := rv.length
  have hl2 := dp_len hd
  have ln := S.ln
  refine sorted_collected (β := VD) (R := RelVD) (enc := Prod.snd) (C := fun vs bs s' => vs = its ∧ bs = xs.zip ds ∧ ∃ h', s' = { s with heap := h' } ∧ ∀ b o, s.heap.get? b = some o → h'.get? b = some o) hu (fun Q' E' hq => ?_) (fun vs bs s' hC => ?_) fun vs bs s' out c h' p hC k hp hg ho eo => ?_
  · refine wpAny_collect_seq a hT ho hc hdt (fun h' k => ?_) (by rw [List.size_toArray]; omega)
    exact hq _ (xs.zip ds) _ ⟨rfl, rfl, h', rfl, k⟩
  · obtain ⟨rfl, rfl, h', rfl, k⟩ := hC
    obtain ⟨e1, e2⟩ := each_vd I hd rv
    refine ⟨e1, e2.mono fun u b ⟨as, r⟩ => ⟨as, PyProof.Rows.Reads.keeps k r⟩, ?_, ?_, fun b hb => S.dp _ (List.of_mem_zip hb).2, ?_⟩
    · rw [dp_zip hd]; exact S.al
    · rw [dp_zip hd]; exact S.so
    · rw [List.length_zip]; omega
  · obtain ⟨rfl, rfl, h1, rfl, k1⟩ := hC
    have I1 : Inv X pins σ H { s with heap := h1 } := I.kept (t' := s.toks) k1
    have hn : H p = none := I1.hok.fresh hp
    have hv := vals_of_each eo
    have hl3 : ((xs.zip ds).mergeSort (dataLe false Prod.snd)).length ≤ sizeLine := by
      rw [List.length_mergeSort, List.length_zip]; omega
    have hdp : DpAll X.K H (((xs.zip ds).mergeSort (dataLe false Prod.snd)).map Prod.fst) (srtD ds) := by
      have q1 := dp_of_pairs (K := X.K) (H := H) (l := (xs.zip ds).mergeSort (dataLe false Prod.snd)) fun b hb => dp_pairs hd b (List.mem_mergeSort.mp hb)
      rw [srt_pairs, dp_zip hd] at q1
      exact q1
    have J : Inv X pins σ (upd H p (.lst (((xs.zip ds).mergeSort (dataLe false Prod.snd)).map Prod.fst))) { s with heap := h' } :=
      I1.laid (t' := s.toks) k hp ⟨by rw [List.length_map]; exact hl3, out, c, hv, hg⟩
    exact ⟨.ref p, _, J, rfl, q p _ hn hdp⟩
end Tb
set_option Elab.async false
set_option linter.all false
set_option maxRecDepth 100000
set_option maxHeartbeats 4000000
namespace Tb
open PySem PySem.Spec PyProof.Rows L2

/-! ### {row for row in rows}, the rows tuples of ints -/
theorem nn1 {b N C D : Nat} (hb : b < N ∨ b = C) (hC : N + 1 ≤ C) (hD : N + 1 ≤ D) (h : D ≠ C) : ¬ b = N ∧ b ≠ D := by omega
theorem nn3 {D N : Nat} (h : N + 1 ≤ D) (e : D = N) : False := by omega
theorem nn2 {b N C : Nat} (hb : b < N + 1) (hC : N + 1 ≤ C) : b ≠ C := by omega
section
variable {prog : Program} {w : World} {A : Around} {E : Value → Shared → Prop} {env : Env} {s : Shared}
theorem set_of_rows {scope : Scope} {cl : List (Str × Addr)} {x : Str} {l : Addr} {xs : Array Value} {pa pe : Pos} {Q : Value → Shared → Prop} {s1 : Shared} (ks : List (Addr × List Int)) (hh : A.handled = none) (hu : A.units + 8 < cLine)
    (hcell : ∀ y ∈ scope.names, y.2 ≠ .cell) (hkind : scope.kind = .function) (hx : scope.names.lookup x = some .local) (hdb : (x == ("__debug__" : Str)) = false) (hl : s1.heap.IsList l xs) (hit : xs.toList = ks.map fun p => Value.ref p.1)
    (hk : ∀ p ∈ ks, IsT prog w s1.heap p.2 p.1) (few : ∀ L : List (List Int), L.Nodup → (∀ k ∈ L, k ∈ ks.map (·.2)) → L.length < 63)
    (h : ∀ D h' tk L es ep t, s1.heap.objs.size ≤ D → SetTR prog w h' D L es ep t → Got ks ks.length L → (∀ b o, s1.heap.get? b = some o → h'.get? b = some o) → Q (.ref D) { s1 with heap := h', toks := tk }) :
    wpAny (model prog w) A (pyIter (.ref l)) (ScGoes prog w A E env scope cl (.Name x pa) [] (.Name x pe) none Q) E s1 := by
  have hlt : (l : Nat) < s1.heap.objs.size := by obtain ⟨o, ho, _⟩ := hl; exact Heap.lt_size ho
  have hsz : xs.size = ks.length := by
    have q := congrArg List.length hit
    rw [Array.length_toList, List.length_map] at q
    exact q
  refine wpAny_pyIter_list hl ?_
  refine ⟨_, _, _, _, _, _, rfl, Goes.list hh s1.heap.objs.size l (Nat.ne_of_lt hlt) xs, ⟨⟨_, Heap.get?_push_size _ rfl, rfl, rfl⟩, hl.push _⟩, fun D C s₃ hB hD0 => ?_⟩
  obtain ⟨⟨h₃, tk₃, rfl⟩, old, nD, nC, hDC, hnm⟩ := hB
  have nC' : (s1.heap.objs.size + 1 : Nat) ≤ C := by
    have q : (s1.heap.push { cls := .type "list_iterator", data := .fields #[.ref l, .int 0 0] }).objs.size ≤ C := nC
    rw [Heap.size_push] at q
    exact q
  have nD' : (s1.heap.objs.size + 1 : Nat) ≤ D := by
    have q : (s1.heap.push { cls := .type "list_iterator", data := .fields #[.ref l, .int 0 0] }).objs.size ≤ D := nD
    rw [Heap.size_push] at q
    exact q
  have hDC' : (D : Nat) ≠ C := hDC
  have kx : (compEnvC scope cl C env).kindOf x = some .local := lookup_relabel_local hx
  have hp : ((compEnvC scope cl C env).scope.kind == .class || ((compEnvC scope cl C env).scope.kind == .module && (compEnvC scope cl C env).locals != (compEnvC scope cl C env).globals)) = false := by
    show (scope.kind == .class || (scope.kind == .module && _)) = false
    rw [hkind]; rfl
  have tupK : ∀ {h' : Heap}, (∀ b o, s1.heap.get? b = some o → h'.get? b = some o) → ∀ p ∈ ks, IsT prog w h' p.2 p.1 := fun k p hp => isT_keep (hk p hp) k
  refine ⟨fun i s₁ => ∃ h' tk m L es ep t, s₁ = { s1 with heap := h', toks := tk } ∧ h'.Ns C m ∧ SetTR prog w h' D L es ep t ∧ Got ks i L ∧ ∀ b o, s1.heap.get? b = some o → h'.get? b = some o,
    ⟨h₃, tk₃, _, [], #[], 0, _, rfl, hnm, setTR_fresh hD0, Got.zero ks, fun b o e => old b o (Heap.get?_push_of_some _ e)⟩, ?_, ?_, ?_⟩
  · rintro i s₁ h' tk ⟨h₄, tk₄, m, L, es, ep, t, rfl, n₄, R, g, k₄⟩ hk' _
    have off : ∀ b : Addr, (b < s1.heap.objs.size ∨ b = C) → b ∉ [s1.heap.objs.size] := fun b hb hm => (nn1 hb nC' nD' hDC').1 (by simpa using hm)
    have offD : D ∉ [s1.heap.objs.size] := fun hm => by
      have e : D = s1.heap.objs.size := by simpa using hm
      exact nn3 nD' e
    have kk : ∀ b o, s1.heap.get? b = some o → h'.get? b = some o := fun b o e => hk' b o (off _ (.inl (Heap.lt_size e))) (k₄ b o e)
    exact ⟨h', tk, m, L, es, ep, t, rfl, n₄.at' fun o e => hk' _ o (off _ (.inr rfl)) e, R.keep (fun o e => hk' D o offD e) (fun p hp => tupK kk p (List.mem_of_mem_take (g.sub p hp))), g, kk⟩
  · rintro i v s₁ hi hv st ⟨h₄, tk₄, m, L, es, ep, t, rfl, n₄, R, g, k₄⟩
    have hvi : ∃ p, ks[i]? = some p ∧ v = .ref p.1 := by
      have q : xs.toList[i]? = some v := by rw [Array.getElem?_toList]; exact hv
      rw [hit, List.getElem?_map] at q
      cases hq : ks[i]? with
      | none => rw [hq] at q; cases q
      | some p =>
        rw [hq] at q
        exact ⟨p, rfl, (Option.some.inj q).symm⟩
    obtain ⟨p, hp1, rfl⟩ := hvi
    refine wpAny_assign_Name (wpAny_storeName_local kx n₄ (fun h₅ n₅ s₅ => ?_) hp)
    refine wpAny_tests_nil ?_
    show wpAny _ _ _ _ _ _
    rw [eval_Name _ _ _ hdb]
    refine wpAny_bind (wpAny_standAt (wpAny_loadName_local hkind kx n₅ (v := .ref p.1) (if_pos rfl) ?_))
    have offC : ∀ b : Addr, b < s1.heap.objs.size + 1 → b ≠ C := fun b hb => nn2 hb nC'
    have k₅ : ∀ b o, s1.heap.get? b = some o → h₅.get? b = some o := fun b o e => s₅.extBut b o (offC b (Nat.lt_succ_of_lt (Heap.lt_size e))) (k₄ b o e)
    have R₅ : SetTR prog w h₅ D L es ep t := R.keep (fun o e => s₅.extBut D o hDC e) (fun q hq => tupK k₅ q (List.mem_of_mem_take (g.sub q hq)))
    have hxT : IsT prog w h₅ p.2 p.1 := tupK k₅ p (List.mem_of_getElem? hp1)
    have hlen : L.length < 63 := by
      have q := few (L.map (·.2)) R₅.nd fun k hk => by
        obtain ⟨z, hz, e⟩ := List.mem_map.mp hk
        exact List.mem_map.mpr ⟨z, List.mem_of_mem_take (g.sub z hz), e⟩
      rwa [List.length_map] at q
    refine wpAny_call_entry F.slot_set_add ⟨_, R₅.ob.choose_spec.1, R₅.ob.choose_spec.2.1.1⟩ F.entry_set_add ?_ (F.args_set_add_2 _ _)
    unfold Builtin.«set.add» Builtin.Frozenset.oneOther
    simp only [List.isEmpty_nil, bind_assoc]
    unfold Builtin.Frozenset.addrOf setAdd
    refine wpAny_bind (wpAny_pure ?_)
    refine wpAny_bind (wpAny_pure ?_)
    refine wpAny_bind (wpAny_holding ?_)
    have hu1 : A.in1.units < cLine := by
      show A.units + 1 < cLine
      omega
    refine wpAny_bind (wpAny_pyHash_tuple hu1 hxT ?_)
    refine add_at (s := { s1 with heap := h₅, toks := tk₄ + 1 + (p.2.length + 1) }) R₅ hxT hu1 (by omega) fun b h₆ L' es' ep' t' sb R₆ c1 c2 => ?_
    have g' : Got ks (i + 1) L' := by
      rcases Classical.em (p.2 ∈ L.map (·.2)) with c | c
      · rw [c1 c]; exact g.same hp1 c
      · exact g.more hp1 (c2 c)
    have offD : ∀ b : Addr, b < s1.heap.objs.size + 1 → b ≠ D := fun b hb => nn2 hb nD'
    have kk : ∀ b o, s1.heap.get? b = some o → h₆.get? b = some o := fun b o e => (sb.2 b (offD b (Nat.lt_succ_of_lt (Heap.lt_size e)))).trans (k₅ b o e)
    refine wpAny_pure ⟨_, rfl, ⟨h₆, _, _, L', es', ep', t', rfl, n₅.at' fun o e => (sb.2 C (fun z => hDC z.symm)).trans e, R₆, g', kk⟩, ?_, ?_⟩
    · exact st.1.at fun o e => (sb.2 _ (offD _ (Nat.lt_succ_self _))).trans (s₅.extBut _ o (offC _ (Nat.lt_succ_self _)) e)
    · exact st.2.at fun o e => (sb.2 _ (offD _ (Nat.lt_succ_of_lt hlt))).trans (s₅.extBut _ o (offC _ (Nat.lt_succ_of_lt hlt)) e)
  · rintro s₁ ⟨h₄, tk₄, m, L, es, ep, t, rfl, n₄, R, g, k₄⟩
    refine ⟨m, n₄, fun h' hs' => ?_⟩
    have kk : ∀ b o, s1.heap.get? b = some o → h'.get? b = some o := fun b o e => hs'.extBut b o (nn2 (Nat.lt_succ_of_lt (Heap.lt_size e)) nC') (k₄ b o e)
    rw [hsz] at g
    exact h D h' tk₄ L es ep t (Nat.le_trans (Nat.le_succ _) nD') (R.keep (fun o e => hs'.extBut D o hDC e) (fun q hq => tupK kk q (List.mem_of_mem_take (g.sub q hq)))) g kk
end
/-- {x for x in a list of tuples of ints}: a new set, few of them unlike -/
def tScT (K : PySem.W.Frag) (P : Program) (w : World) (ti : TE) : TE := fun σ H Q => ti σ H fun v H1 => ∃ (l : Addr) (ks : List (Addr × List Int)), v = .ref l ∧ SqL K H1 l (ks.map fun p => V.ref p.1) ∧ (∀ p ∈ ks, SqT K H1 p.1 (p.2.map V.int)) ∧
  (∀ L : List (List Int), L.Nodup → (∀ k ∈ L, k ∈ ks.map (·.2)) → L.length < 63) ∧ ∀ a L, H1 a = none → (∀ p ∈ L, p ∈ ks) → (∀ p ∈ ks, p.2 ∈ L.map (·.2)) → Q (.ref a) (upd H1 a (SetTO P w a L))
theorem pe_scT {X : Cx} {x : Str} {iter : Expr} {scope : Scope} {pa pe pos : Pos} {ti : TE} (hc : X.calm = true) (hu : X.A.units + 8 < cLine) (he : PE X iter ti) (hkind : scope.kind = .function := by rfl)
    (hcell : ∀ y ∈ scope.names, y.2 ≠ .cell := by decide +kernel) (hfree : ∀ y ∈ scope.names, y.2 ≠ .free := by decide +kernel) (hnames : ∀ y ∈ scope.names, y.2 = .local → scope.names.lookup y.1 = some .local := by decide +kernel)
    (hx : scope.names.lookup x = some .local := by rfl) (hdb : (x == ("__debug__" : Str)) = false := by decide) (hs : ∀ x, foldedSetIterable iter X.env x = pure x := by intro _; rfl) :
    PE X (.SetComp (.Name x pe) [⟨.Name x pa, iter, [], 0⟩] scope pos) (tScT X.K X.prog X.w ti) := by
  refine ⟨fun pins s σ H Q I h => ?_⟩
  refine SetComp_goes (closure_ok fun y hy e => absurd e (hfree y hy)) hcell hkind hnames (thn (he.run pins s σ H _ I h) fun xv s1 ⟨v, H1, I1, rv, l, ks, ev, hl, hk, few, q⟩ => ?_) hs
  subst ev
  obtain rfl : xv = Value.ref l := rv
  obtain ⟨its, rv2, pl, hz⟩ := I1.list hl
  refine set_of_rows (s1 := s1) ks (I1.ok.hd hc) hu hcell hkind hx hdb pl.isList (by simpa using refs_of_vals rv2) (fun p hp => I1.isT (hk p hp)) few fun D h' tk L es ep t hD R g k => ?_
  have hn : H1 D = none := I1.hok.fresh hD
  refine ⟨.ref D, upd H1 D (SetTO X.prog X.w D L), I1.laid (t' := tk) k hD (setTO_new R.t0), rfl, q D L hn (fun p hp => List.mem_of_mem_take (g.sub p hp)) fun p hp => g.all p (by rw [List.take_length]; exact hp)⟩

/-! ### sorted of such a set -/
abbrev rowD (k : List Int) : PyData := .tuple (k.map .int)
theorem dp_ints {K : PySem.W.Frag} {H : Hp} : ∀ k : List Int, DpAll K H (k.map V.int) (k.map PyData.int)
  | [] => .nil
  | i :: k => .cons (.int i) (dp_ints k)
theorem dp_row {K : PySem.W.Frag} {H : Hp} {a : Addr} {k : List Int} (h : SqT K H a (k.map V.int)) : Dp K H (.ref a) (rowD k) := .tup h (dp_ints k)
open PySem.W in
theorem rows_al (bs : List VD) (h : ∀ b ∈ bs, ∃ k, b.2 = rowD k) : AllAlike (bs.map Prod.snd) := by
  intro d hd d' hd'
  obtain ⟨b, hb, rfl⟩ := List.mem_map.mp hd
  obtain ⟨b', hb', rfl⟩ := List.mem_map.mp hd'
  obtain ⟨k, e⟩ := h b hb
  obtain ⟨k', e'⟩ := h b' hb'
  rw [e, e']
  show alikeAll _ _ = true
  exact alike_ints k k'
open PySem.W in
theorem rows_so (bs : List VD) (h : ∀ b ∈ bs, ∃ k, b.2 = rowD k ∧ k ≠ []) : Sortable (bs.map Prod.snd) := .inl fun d hd => by
  obtain ⟨b, hb, rfl⟩ := List.mem_map.mp hd
  obtain ⟨k, e, ne⟩ := h b hb
  cases k with
  | nil => exact absurd rfl ne
  | cons x r => exact ⟨.int x, r.map .int, e⟩
theorem perm_map_inv {α β : Type} {f : α → β} : ∀ {L : List α} {out : List β}, out.Perm (L.map f) → ∃ L' : List α, L'.Perm L ∧ out = L'.map f
  | [], out, h => ⟨[], List.Perm.nil, List.Perm.eq_nil h⟩
  | x :: r, out, h => by
    have hm : f x ∈ out := h.mem_iff.mpr List.mem_cons_self
    obtain ⟨a, b, rfl⟩ := List.append_of_mem hm
    have h2 : (a ++ b).Perm (r.map f) := (List.perm_middle.symm.trans h).cons_inv
    obtain ⟨L1, p1, e1⟩ := perm_map_inv h2
    obtain ⟨la, lb, rfl, ea, eb⟩ := List.map_eq_append_iff.mp e1.symm
    refine ⟨la ++ x :: lb, List.perm_middle.trans (p1.cons x), ?_⟩
    rw [List.map_append, List.map_cons, ea, eb]
/-- sorted(set of rows): every row once, in order -/
def rSortedST (K : PySem.W.Frag) (P : Program) (w : World) : List V → Hp → VK → Prop := fun vs H Q => ∃ (a : Addr) (L : List (Addr × List Int)), vs = [V.ref a] ∧ H a = some (SetTO P w a L) ∧ (∀ p ∈ L, SqT K H p.1 (p.2.map V.int)) ∧ (∀ p ∈ L, p.2 ≠ []) ∧
  ∀ (p : Addr) (ys : List V) (L' : List (Addr × List Int)), H p = none → (L.map (·.2)).Nodup → L'.Perm L → DpAll K H ys (srtD (L'.map fun q => rowD q.2)) → Q (.ref p) (upd H p (.lst ys))
abbrev vdOf (q : Addr × List Int) : VD := (.ref q.1, rowD q.2)
open PySem.W in
theorem cr_sortedST {X : Cx} (hc : X.calm = true) (hu : X.A.units + 20 < cLine) : CallR X (.builtin "sorted") (rSortedST X.K X.prog X.w) := by
  intro pins s σ H vs us Q I r h
  obtain ⟨a, L, rfl, ha, hk, hne, q⟩ := h
  have R0 : SetT0 X.prog X.w s.heap a L := (I.hok a _ ha).1
  obtain ⟨es, ep, t, R⟩ := R0.full fun p hp => I.isT (hk p hp)
  rw [Vals.ref1 r]
  obtain ⟨o, ho, hex, hd⟩ := R.ob
  have hsz := R.size
  have hfew := R.few
  have hes : es.toList.map (·.2) = L.map fun q => Value.ref q.1 := by
    rw [R.rows]
    unfold L2.rowsOf
    rw [List.map_map] <;> rfl
  refine sorted_collected (β := VD) (R := RelVD) (enc := Prod.snd) (C := fun vs bs s' => ∃ L' : List (Addr × List Int), L'.Perm L ∧ vs = L'.map (fun q => Value.ref q.1) ∧ bs = L'.map vdOf ∧ (∀ b o, s.heap.get? b = some o → s'.heap.get? b = some o) ∧ s'.gens = s.gens ∧ s'.os = s.os)
    hu (fun Q' E' hq => ?_) (fun vs bs s' hC => ?_) fun vs bs s' out c h' p hC k hp hg hol eo => ?_
  · refine collect_set (A := X.A.in1) (I.ok.hd hc) ⟨o, ho, hex.1, hd⟩ R.fits (by unfold scanBound; omega) R.tab.ris R.led fun s1 vs k1 hz g1 o1 pm => ?_
    rw [hes] at pm
    obtain ⟨L', pL, e⟩ := perm_map_inv pm
    exact hq _ (L'.map vdOf) _ ⟨L', pL, e, rfl, k1, g1, o1⟩
  · obtain ⟨L', pL, rfl, rfl, k1, g1, o1⟩ := hC
    have sub : ∀ z ∈ L', z ∈ L := fun z hz => pL.mem_iff.mp hz
    have e1 : ∀ l : List (Addr × List Int), EachIs RelVD (l.map fun q => Value.ref q.1) (l.map vdOf) := fun l => by
      induction l with
      | nil => exact .nil
      | cons x r ih => exact .cons rfl ih
    have e2 : ∀ l : List (Addr × List Int), (∀ z ∈ l, z ∈ L) → EachIs (fun u (b : VD) => ∃ as, Reads s'.heap u b.2 as) (l.map fun q => Value.ref q.1) (l.map vdOf) := fun l hl => by
      induction l with
      | nil => exact .nil
      | cons x r ih =>
        obtain ⟨as, rd⟩ := Dp.reads I (rowD x.2) (.ref x.1) (.ref x.1) (dp_row (hk x (hl x List.mem_cons_self))) rfl
        exact .cons ⟨as, PyProof.Rows.Reads.keeps k1 rd⟩ (ih fun z hz => hl z (List.mem_cons_of_mem _ hz))
    refine ⟨e1 L', e2 L' sub, rows_al _ fun b hb => ?_, rows_so _ fun b hb => ?_, fun b hb => ?_, ?_⟩
    · obtain ⟨z, _, rfl⟩ := List.mem_map.mp hb
      exact ⟨z.2, rfl⟩
    · obtain ⟨z, hz, rfl⟩ := List.mem_map.mp hb
      exact ⟨z.2, rfl, hne z (sub z hz)⟩
    · obtain ⟨z, _, rfl⟩ := List.mem_map.mp hb
      show (PyData.tuple (z.2.map .int)).depth ≤ 8
      rw [PyData.depth, depth_ints]
      decide
    · rw [List.length_map, pL.length_eq, sizeLine_eq]
      omega
  · obtain ⟨L', pL, rfl, rfl, k1, g1, o1⟩ := hC
    have sub : ∀ z ∈ L', z ∈ L := fun z hz => pL.mem_iff.mp hz
    obtain ⟨hp', gg, dd, tk, os⟩ := s'
    have eg : gg = s.gens := g1
    have eo1 : os = s.os := o1
    subst eg eo1
    have I1 : Inv X pins σ H ⟨hp', s.gens, dd, tk, s.os⟩ := I.call' (ch := []) rfl (Un.kept k1) (I.hok.kept k1) I.bare (fun _ z => nomatch z)
    have hn : H p = none := I1.hok.fresh hp
    have hv := vals_of_each eo
    have hl3 : ((L'.map vdOf).mergeSort (dataLe false Prod.snd)).length ≤ sizeLine := by
      rw [List.length_mergeSort, List.length_map, pL.length_eq, sizeLine_eq]; omega
    have hdp : DpAll X.K H (((L'.map vdOf).mergeSort (dataLe false Prod.snd)).map Prod.fst) (srtD (L'.map fun q => rowD q.2)) := by
      have q1 := dp_of_pairs (K := X.K) (H := H) (l := (L'.map vdOf).mergeSort (dataLe false Prod.snd)) fun b hb => by
        obtain ⟨z, hz, rfl⟩ := List.mem_map.mp (List.mem_mergeSort.mp hb)
        exact dp_row (hk z (sub z hz))
      rw [srt_pairs, List.map_map] at q1
      exact q1
    have J : Inv X pins σ (upd H p (.lst (((L'.map vdOf).mergeSort (dataLe false Prod.snd)).map Prod.fst))) ⟨h', s.gens, dd, tk, s.os⟩ :=
      I1.laid (t' := tk) k hp ⟨by rw [List.length_map]; exact hl3, out, c, hv, hg⟩
    exact ⟨.ref p, _, J, rfl, q p _ L' hn R.nd pL hdp⟩
end Tb
set_option Elab.async false
set_option linter.all false
set_option maxRecDepth 100000
set_option maxHeartbeats 4000000
namespace Tb
open PySem PySem.Spec PyProof.Rows L2

/-! ### zip of a tuple and a list -/
def ItzM (K : PySem.W.Frag) (a b : Addr) : It :=
  ⟨fun i H => ∃ (xs ys : List V) (x y : V), SqT K H a xs ∧ SqL K H b ys ∧ xs[i]? = some x ∧ ys[i]? = some y,
    fun i H v H' => ∃ T x y, v = .ref T ∧ H T = none ∧ H' = upd H T (.tup [x, y]) ∧ (∀ xs, SqT K H a xs → xs[i]? = some x) ∧ ∀ ys, SqL K H b ys → ys[i]? = some y,
    fun i H => ∃ xs ys : List V, SqT K H a xs ∧ SqL K H b ys ∧ i = min xs.length ys.length⟩
theorem lt5a {c N z : Nat} (h : c = N + 4 ∨ c = N + 2 ∨ c = N + 3 ∨ c = N ∨ c = N + 1) : N ≤ c := by omega
/-- the cells of a zip made at N -/
def zfp (N : Nat) : List Addr := [N + 4, N + 2, N + 3, N, N + 1]
theorem zfp_mem {N : Nat} {c : Addr} (h : c ∈ zfp N) : c = N + 4 ∨ c = N + 2 ∨ c = N + 3 ∨ c = N ∨ c = N + 1 := by simpa [zfp] using h
theorem zfp_of {N : Nat} {c : Addr} (z : c ∈ ([N + 4, N + 3, N, N + 1] : List Addr)) : c ∈ zfp N := by
  have z' : c = N + 4 ∨ c = N + 3 ∨ c = N ∨ c = N + 1 := by simpa using z
  rcases z' with z' | z' | z' | z' <;> simp [zfp, z']
theorem turn_zipM {P : Program} {w : World} {K : PySem.W.Frag} {elts : List Expr} {kk : Nat} {tpos : Pos} {a b : Addr} {N : Nat} (ha : a < N) (hb : b < N) :
    Turn P w K (.Tuple elts kk tpos) (ItzM K a b) (zfp N) (N + 4) (fun i h => IsZip h (N + 4) (N + 2) (N + 3) .none ∧ IsTupOf2 h (N + 2) (.ref N) (.ref (N + 1)) ∧ (∃ a1 a2, IsTupOf2 h (N + 3) a1 a2) ∧ h.IsTupleIter N a i ∧ h.IsListIter (N + 1) b i) where
  mem := by simp [zfp]
  obj := fun i h st c hc => by
    obtain ⟨hz, hTI, ⟨x, y, hTO⟩, ⟨o1, e1, _, d1⟩, ⟨o2, e2, _, d2⟩⟩ := st
    rcases zfp_mem hc with q | q | q | q | q
    · rw [q]; exact ⟨_, hz, fun v q => nomatch q⟩
    · rw [q]; exact ⟨_, hTI, fun v q => nomatch q⟩
    · rw [q]; exact ⟨_, hTO, fun v q => nomatch q⟩
    · rw [q]; exact ⟨o1, e1, fun v q => by rw [d1] at q; cases q⟩
    · rw [q]; exact ⟨o2, e2, fun v q => by rw [d2] at q; cases q⟩
  keep := fun i h h' st k => by
    obtain ⟨hz, hTI, ⟨x, y, hTO⟩, h1, h2⟩ := st
    exact ⟨k _ (by simp [zfp]) _ hz, k _ (by simp [zfp]) _ hTI, ⟨x, y, k _ (by simp [zfp]) _ hTO⟩, h1.at fun o q => k _ (by simp [zfp]) o q, h2.at fun o q => k _ (by simp [zfp]) o q⟩
  item := by
    intro X hP hw hK hc i pins s σ H E I hf st hg
    subst hP hw hK
    obtain ⟨xs, ys, x, y, hqx, hqy, hx, hy⟩ := hg
    obtain ⟨its, rv, p, _⟩ := I.tuple hqx
    obtain ⟨its2, rv2, p2, _⟩ := I.list hqy
    have hh : X.A.in1.handled = none := I.ok.hd hc
    have W := GoesN.zip2 (prog := X.prog) (w := X.w) (A := X.A) (elts := elts) (x1 := kk) (pos := tpos) (zip_sep2 (N := N) (fp1 := [a]) (fp2 := [b]) (by simpa using ha) (by simpa using hb))
      (Draws.tuple hh N a (Nat.ne_of_lt ha) its.toArray) (Draws.list hh (N + 1) b (Nat.ne_of_lt (Nat.lt_succ_of_lt hb)) its2.toArray)
    have l1 := rv.length
    have l2 := rv2.length
    have i1 := (List.getElem?_eq_some_iff.mp hx).1
    have i2 := (List.getElem?_eq_some_iff.mp hy).1
    have st' : IsZip s.heap (N + 4) (N + 2) (N + 3) .none ∧ IsTupOf2 s.heap (N + 2) (.ref N) (.ref (N + 1)) ∧ (∃ a1 a2, IsTupOf2 s.heap (N + 3) a1 a2) ∧ (s.heap.IsTupleIter N a i ∧ s.heap.IsTuple a its.toArray) ∧ (s.heap.IsListIter (N + 1) b i ∧ s.heap.IsList b its2.toArray) :=
      ⟨st.1, st.2.1, st.2.2.1, ⟨st.2.2.2.1, p⟩, ⟨st.2.2.2.2, p2.isList⟩⟩
    refine W.goes i s _ E (by simp only [List.size_toArray]; omega) st' fun v h' tk hY st2 hk htk => ?_
    obtain ⟨T, u, u2, rfl, hT, hu, hu2, oT, hoT, hcT, nT, hdT⟩ := hY
    obtain ⟨u', hu', ru⟩ := rv.get hx
    obtain ⟨u2', hu2', ru2⟩ := rv2.get hy
    have e1 : u = u' := Option.some.inj ((show its.toArray[i]? = some u from hu).symm.trans (by simpa using hu'))
    have e2 : u2 = u2' := Option.some.inj ((show its2.toArray[i]? = some u2 from hu2).symm.trans (by simpa using hu2'))
    subst e1 e2
    have new : ObjOk X.prog X.w (upd H T (.tup [x, y])) h' T (.tup [x, y]) :=
      ⟨by show 2 ≤ sizeLine; decide, [u, u2], .cons ru (.cons ru2 .nil), ⟨oT, hoT, hcT, nT, hdT⟩⟩
    have I1 : Inv X pins σ (upd H T (.tup [x, y])) { s with heap := h', toks := tk } :=
      I.turnedNew (t' := tk) (ch := zfp N) (fun c o hb q => hk c o (fun z => hb (zfp_of z)) q) hf hT new
    refine ⟨.ref T, _, I1, rfl, ⟨T, x, y, rfl, I.hok.fresh hT, rfl, fun l hl => by rw [I.tuple_inj hl hqx]; exact hx, fun l hl => by rw [I.list_inj hl hqy]; exact hy⟩, ⟨st2.1, st2.2.1, st2.2.2.1, st2.2.2.2.1.1, st2.2.2.2.2.1⟩, fun c hcm => ?_⟩
    have hlt : c < s.heap.objs.size := by
      obtain ⟨hz, hTI, ⟨x, y, hTO⟩, ⟨o1, e1, _, d1⟩, ⟨o2, e2, _, d2⟩⟩ := st
      rcases zfp_mem hcm with q | q | q | q | q
      · rw [q]; exact Heap.lt_size hz
      · rw [q]; exact Heap.lt_size hTI
      · rw [q]; exact Heap.lt_size hTO
      · rw [q]; exact Heap.lt_size e1
      · rw [q]; exact Heap.lt_size e2
    rw [upd_ne (Nat.ne_of_lt (Nat.lt_of_lt_of_le hlt hT))]
    exact (hf c hcm).1
  done := by
    intro X hP hw hK hc i pins s σ H E I hf st hg
    subst hP hw hK
    obtain ⟨xs, ys, hqx, hqy, hend⟩ := hg
    obtain ⟨its, rv, p, _⟩ := I.tuple hqx
    obtain ⟨its2, rv2, p2, _⟩ := I.list hqy
    have hh : X.A.in1.handled = none := I.ok.hd hc
    have W := GoesN.zip2 (prog := X.prog) (w := X.w) (A := X.A) (elts := elts) (x1 := kk) (pos := tpos) (zip_sep2 (N := N) (fp1 := [a]) (fp2 := [b]) (by simpa using ha) (by simpa using hb))
      (Draws.tuple hh N a (Nat.ne_of_lt ha) its.toArray) (Draws.list hh (N + 1) b (Nat.ne_of_lt (Nat.lt_succ_of_lt hb)) its2.toArray)
    have l1 := rv.length
    have l2 := rv2.length
    have st' : IsZip s.heap (N + 4) (N + 2) (N + 3) .none ∧ IsTupOf2 s.heap (N + 2) (.ref N) (.ref (N + 1)) ∧ (∃ a1 a2, IsTupOf2 s.heap (N + 3) a1 a2) ∧ (s.heap.IsTupleIter N a i ∧ s.heap.IsTuple a its.toArray) ∧ (s.heap.IsListIter (N + 1) b i ∧ s.heap.IsList b its2.toArray) :=
      ⟨st.1, st.2.1, st.2.2.1, ⟨st.2.2.2.1, p⟩, ⟨st.2.2.2.2, p2.isList⟩⟩
    have ei : i = min its.toArray.size its2.toArray.size := by
      simp only [List.size_toArray]
      omega
    rw [ei] at st'
    refine W.stops s _ E st' fun h' tk hk htk => ?_
    exact I.turnedL (t' := tk) (ch := zfp N) (fun c o hb q => hk c o (fun z => hb (zfp_of z)) q) hf
  self := fun A i s Q E st h => wpAny_pyIter_zip st.1 h
/-- zip(a tuple, a list) -/
def iZipM (K : PySem.W.Frag) (ta : TA) : TI := fun σ H R => ta σ H fun vs H1 => ∃ a b xs ys, vs = [.ref a, .ref b] ∧ SqT K H1 a xs ∧ SqL K H1 b ys ∧ R (ItzM K a b) H1
theorem pi_zipM {X : Cx} {e e2 : Expr} {ta : TA} {p pos tpos : Pos} {elts : List Expr} {kk : Nat} (hg : Gl X "zip") (hm : X.mg "zip" = none) (ha : PA X [e, e2] ta)
    (hs : starEach [e, e2] X.env = (false, eval e X.env) :: starEach [e2] X.env := by rfl) (hpl : (backTo pos (starEach [e2] X.env)).any (·.1) = false := by rfl) :
    PI X (.Tuple elts kk tpos) (.Call (.Name "zip" p) [e, e2] [] pos) (iZipM X.K ta) := by
  refine ⟨fun pins s σ H R I h => ?_⟩
  refine Call_ (ld_blt I hg hm PyProof.Rows.boot_zip (PyProof.Rows.callWith_type1 (thn (ha.run pos pins s σ H _ I h) fun us s1 ⟨vs, H1, I1, r1, a, b, xs, ys, ex, hqx, hqy, q⟩ => ?_) hs hpl))
  subst ex
  obtain ⟨u, ur, rfl, rx, r2⟩ : ∃ u ur, us = u :: ur ∧ RelV (.ref a) u ∧ Vals [.ref b] ur := by
    cases r1 with
    | cons r rr => exact ⟨_, _, rfl, r, rr⟩
  obtain rfl : u = Value.ref a := rx
  obtain ⟨u2, rfl, ru2⟩ := r2.one
  obtain rfl : u2 = Value.ref b := ru2
  obtain ⟨its, rv, p1, _⟩ := I1.tuple hqx
  obtain ⟨its2, rv2, p2, _⟩ := I1.list hqy
  have hla : a < s1.heap.objs.size := by
    obtain ⟨o1, ho1, _⟩ := id p1
    exact Heap.lt_size ho1
  have hlb : b < s1.heap.objs.size := p2.lt
  refine zip_begins2 (begins_tuple a its.toArray) (begins_list b its2.toArray) (show s1.heap.IsTuple a its.toArray from p1) p2.isList fun h' hz hTI hTO h1 h2 hsz hk => wpAny_pyIter_zip hz ?_
  have I2 : Inv X pins σ H1 { s1 with heap := h' } := I1.kept (t' := s1.toks) hk
  exact ⟨s1.heap.objs.size + 4, zfp s1.heap.objs.size, _, _, H1, rfl, I2, turn_zipM hla hlb, ⟨hz, hTI, ⟨_, _, hTO⟩, ⟨_, h1, rfl, rfl⟩, ⟨_, h2, rfl, rfl⟩⟩, fun c hcm => I1.fpOk (lt5a (z := 0) (zfp_mem hcm)) (I1.hok.fresh (lt5a (z := 0) (zfp_mem hcm))), q⟩
theorem walk_zipM {K : PySem.W.Frag} {a b : Addr} {xs ys : List V} {n : Nat} (hn : n = min xs.length ys.length) : Walk (ItzM K a b) n (fun H => SqT K H a xs ∧ SqL K H b ys) (YPair (fun i => xs[i]?) (fun i => ys[i]?)) := by
  subst hn
  refine ⟨fun i _ hi q => ?_, fun _ q => ⟨xs, ys, q.1, q.2, rfl⟩, fun i H v H' _ q y => ?_⟩
  · have h1 : i < xs.length := by omega
    have h2 : i < ys.length := by omega
    exact ⟨xs, ys, xs[i], ys[i], q.1, q.2, by simp [h1], by simp [h2]⟩
  · obtain ⟨T, x, z, h1, h2, h3, h4, h5⟩ := y
    exact ⟨T, x, z, h1, h2, h3, h4 xs q.1, h5 ys q.2⟩
theorem walk_zipT {K : PySem.W.Frag} {a b : Addr} {xs ys : List V} {n : Nat} (hn : n = min xs.length ys.length) : Walk (RZ.ItzT K a b) n (fun H => SqT K H a xs ∧ SqT K H b ys) (YPair (fun i => xs[i]?) (fun i => ys[i]?)) := by
  subst hn
  refine ⟨fun i _ hi q => ?_, fun _ q => ⟨xs, ys, q.1, q.2, by omega⟩, fun i H v H' _ q y => ?_⟩
  · have h1 : i < xs.length := by omega
    have h2 : i < ys.length := by omega
    exact ⟨xs, ys, xs[i], ys[i], q.1, q.2, by simp [h1], by simp [h2]⟩
  · obtain ⟨T, x, z, h1, h2, h3, h4, h5⟩ := y
    exact ⟨T, x, z, h1, h2, h3, h4 xs q.1, h5 ys q.2⟩

/-! ### enumerate of a tuple -/
set_option maxHeartbeats 1000000 in
theorem meets_enumT (l : Addr) (items : Array Value) :
    Meets (Builtin.«enumerate.__new__» ⟨[.type "enumerate", .ref l], []⟩) (fun _ R s => s.heap.IsTuple l items ∧
      R (.ok (.ret (.ref (s.heap.push { cls := .type "tuple_iterator", data := .fields #[.ref l, .int 0 0] }).objs.size)))
        { s with heap := (s.heap.push { cls := .type "tuple_iterator", data := .fields #[.ref l, .int 0 0] }).push { cls := .type "enumerate", data := .fields #[.none, .bool false, .ref s.heap.objs.size, rawInt 0, .none, .none] } }) :=
  .of_wp fun prog w A R s h => by
    obtain ⟨hp, g, d, tk, os⟩ := s
    obtain ⟨hl, h⟩ := h
    have hsub := sub_enumerate
    have q1 : ∀ {A' : Around} {E : Value → Shared → Prop} {Q : Value → Shared → Prop}, Q (.ref hp.objs.size) ⟨hp.push { cls := .type "tuple_iterator", data := .fields #[.ref l, .int 0 0] }, g, d, tk, os⟩ → wpAny (model prog w) A' (pyIter (.ref l)) Q E ⟨hp, g, d, tk, os⟩ :=
      fun q => (begins_tuple l items).iter prog w _ _ ⟨hp, g, d, tk, os⟩ _ hl q
    wp_walk using q1
    refine wpAny_stack_any fun st => wpAny_pure ?_
    split
    · rename_i c _ _ _ _ _
      by_cases hc : (c == Value.type "enumerate") = true
      · simp only [hc]
        wp_walk using q1
        exact ⟨_, rfl, h⟩
      · simp only [hc]
        wp_walk using q1
        exact ⟨_, rfl, h⟩
    · wp_walk using q1
      exact ⟨_, rfl, h⟩
theorem call_enumT {prog : Program} {w : World} {A : Around} {E : Value → Shared → Prop} {s : Shared} {l : Addr} {items : Array Value} {Q : Value → Shared → Prop} (hL : s.heap.IsTuple l items)
    (h : ∀ h', IsEnum h' (s.heap.objs.size + 1) s.heap.objs.size 0 .none → h'.IsTupleIter s.heap.objs.size l 0 → (∀ b o, s.heap.get? b = some o → h'.get? b = some o) → Q (.ref (s.heap.objs.size + 1)) { s with heap := h' }) :
    wpAny (model prog w) A (call (.type "enumerate") [.ref l]) Q E s := by
  refine callType_new F.called_enumerate (by decide) (F.typeCall_enumerate_1 _) (F.newCall_enumerate_1 _) (fun obj => F.args_object_init_2 obj _) F.entry_enumerate_new (meets_enumT l items) ⟨hL, ?_⟩
  have hz : (s.heap.push { cls := .type "tuple_iterator", data := .fields #[.ref l, .int 0 0] }).objs.size = s.heap.objs.size + 1 := Heap.size_push ..
  show _ ∧ _
  rw [hz]
  have he : IsEnum ((s.heap.push { cls := .type "tuple_iterator", data := .fields #[.ref l, .int 0 0] }).push
      { cls := .type "enumerate", data := .fields #[.none, .bool false, .ref s.heap.objs.size, rawInt 0, .none, .none] }) (s.heap.objs.size + 1) s.heap.objs.size 0 .none := by
    have q := Heap.get?_push_size (s.heap.push { cls := .type "tuple_iterator", data := .fields #[.ref l, .int 0 0] })
      (o := { cls := .type "enumerate", data := .fields #[.none, .bool false, .ref s.heap.objs.size, rawInt 0, .none, .none] }) rfl
    rw [hz] at q
    exact q
  exact ⟨⟨_, he, rfl⟩, h _ he ⟨_, Heap.get?_push_of_some _ (Heap.get?_push_size _ rfl), rfl, rfl⟩ fun b o x => Heap.get?_push_of_some _ (Heap.get?_push_of_some _ x)⟩
def IteT (K : PySem.W.Frag) (a : Addr) : It :=
  ⟨fun i H => ∃ (xs : List V) (x : V), SqT K H a xs ∧ xs[i]? = some x, fun i H v H' => ∃ T x, v = .ref T ∧ H T = none ∧ H' = upd H T (.tup [.int (i : Nat), x]) ∧ ∀ xs, SqT K H a xs → xs[i]? = some x,
    fun i H => ∃ xs : List V, SqT K H a xs ∧ i = xs.length⟩
theorem turn_enumT {P : Program} {w : World} {K : PySem.W.Frag} {elts : List Expr} {kk : Nat} {tpos : Pos} {a N : Addr} (ha : a < N) :
    Turn P w K (.Tuple elts kk tpos) (IteT K a) [N + 1, N] (N + 1) (fun i h => (∃ old, IsEnum h (N + 1) N (0 + (i : Int)) old) ∧ h.IsTupleIter N a i) where
  mem := by simp
  obj := fun i h st b hb => by
    obtain ⟨⟨old, he⟩, ⟨o, ho, hc, hd⟩⟩ := st
    have e' : b = N + 1 ∨ b = N := by simpa using hb
    rcases e' with z | z
    · rw [z]; exact ⟨_, he, fun v q => nomatch q⟩
    · rw [z]; exact ⟨o, ho, fun v q => by rw [hd] at q; cases q⟩
  keep := fun i h h' st k => let ⟨⟨old, he⟩, hi⟩ := st; ⟨⟨old, k (N + 1) (by simp) _ he⟩, hi.at fun o q => k N (by simp) o q⟩
  item := by
    intro X hP hw hK hc i pins s σ H E I hf st hg
    subst hP hw hK
    obtain ⟨xs, x, hq, hx⟩ := hg
    obtain ⟨its, rv, p, _⟩ := I.tuple hq
    have hh : X.A.in1.handled = none := I.ok.hd hc
    have l1 := rv.length
    have i1 := (List.getElem?_eq_some_iff.mp hx).1
    have W := GoesN.enumFrom (prog := X.prog) (w := X.w) (A := X.A) (elts := elts) (x1 := kk) (pos := tpos) 0 (Draws.tuple hh N a (Nat.ne_of_lt ha) its.toArray) (N + 1) (Nat.succ_ne_self N)
      (fun z => by
        have z' : N + 1 = N ∨ N + 1 = a := by simpa using z
        rcases z' with z' | z'
        · exact Nat.succ_ne_self N z'
        · exact absurd z' (Nat.ne_of_gt (Nat.lt_succ_of_lt ha))) (by simp)
    refine W.goes i s _ E (by rw [List.size_toArray]; omega) ⟨st.1, st.2, p⟩ fun v h' tk hY st2 hk htk => ?_
    obtain ⟨T, t, u, rfl, hT, hu, oT, hoT, hcT, nT, hdT⟩ := hY
    obtain ⟨u', hu', ru⟩ := rv.get hx
    have e1 : u = u' := Option.some.inj ((show its.toArray[i]? = some u from hu).symm.trans (by simpa using hu'))
    subst e1
    have e0 : (0 : Int) + (i : Int) = (i : Nat) := Int.zero_add _
    rw [e0] at hdT
    have new : ObjOk X.prog X.w (upd H T (.tup [.int (i : Nat), x])) h' T (.tup [.int (i : Nat), x]) :=
      ⟨by show 2 ≤ sizeLine; decide, [.int (i : Nat) t, u], .cons ⟨t, rfl⟩ (.cons ru .nil), ⟨oT, hoT, hcT, nT, hdT⟩⟩
    have I1 : Inv X pins σ (upd H T (.tup [.int (i : Nat), x])) { s with heap := h', toks := tk } :=
      I.turnedNew (t' := tk) (ch := [N + 1, N]) (fun c o hb q => hk c o hb q) hf hT new
    refine ⟨.ref T, _, I1, rfl, ⟨T, x, rfl, I.hok.fresh hT, rfl, fun l hl => by rw [I.tuple_inj hl hq]; exact hx⟩, ⟨st2.1, st2.2.1⟩, fun c hcm => ?_⟩
    have hlt : c < s.heap.objs.size := by
      obtain ⟨⟨old, he⟩, ⟨o, ho, _⟩⟩ := st
      have e' : c = N + 1 ∨ c = N := by simpa using hcm
      rcases e' with z | z
      · rw [z]; exact Heap.lt_size he
      · rw [z]; exact Heap.lt_size ho
    rw [upd_ne (Nat.ne_of_lt (Nat.lt_of_lt_of_le hlt hT))]
    exact (hf c hcm).1
  done := by
    intro X hP hw hK hc i pins s σ H E I hf st hg
    subst hP hw hK
    obtain ⟨xs, hq, rfl⟩ := hg
    obtain ⟨its, rv, p, _⟩ := I.tuple hq
    have hh : X.A.in1.handled = none := I.ok.hd hc
    have l1 := rv.length
    have W := GoesN.enumFrom (prog := X.prog) (w := X.w) (A := X.A) (elts := elts) (x1 := kk) (pos := tpos) 0 (Draws.tuple hh N a (Nat.ne_of_lt ha) its.toArray) (N + 1) (Nat.succ_ne_self N)
      (fun z => by
        have z' : N + 1 = N ∨ N + 1 = a := by simpa using z
        rcases z' with z' | z'
        · exact Nat.succ_ne_self N z'
        · exact absurd z' (Nat.ne_of_gt (Nat.lt_succ_of_lt ha))) (by simp)
    have e : xs.length = its.toArray.size := by rw [List.size_toArray]; exact l1
    rw [e] at st
    refine W.stops s _ E ⟨st.1, st.2, p⟩ fun h' tk hk htk => ?_
    exact I.turnedL (t' := tk) (ch := [N + 1, N]) (fun c o hb q => hk c o hb q) hf
  self := fun A i s Q E st h => let ⟨⟨_, he⟩, _⟩ := st; wpAny_pyIter_enum he h
def iEnumT (K : PySem.W.Frag) (ta : TA) : TI := fun σ H R => ta σ H fun vs H1 => ∃ a xs, vs = [.ref a] ∧ SqT K H1 a xs ∧ R (IteT K a) H1
theorem pi_enumT {X : Cx} {e : Expr} {ta : TA} {p pos tpos : Pos} {elts : List Expr} {kk : Nat} (hg : Gl X "enumerate") (hm : X.mg "enumerate" = none) (ha : PA X [e] ta) (hs : starEach [e] X.env = [(false, eval e X.env)] := by rfl) :
    PI X (.Tuple elts kk tpos) (.Call (.Name "enumerate" p) [e] [] pos) (iEnumT X.K ta) := by
  refine ⟨fun pins s σ H R I h => ?_⟩
  refine Call_ (ld_blt I hg hm boot_enumerate (PyProof.Rows.callWith_type1 (thn (ha.run pos pins s σ H _ I h) fun us s1 ⟨vs, H1, I1, r1, a, xs, ex, hq, q⟩ => ?_) hs rfl))
  subst ex
  obtain ⟨u, rfl, ru⟩ := r1.one
  obtain rfl : u = Value.ref a := ru
  obtain ⟨its, rv, p1, _⟩ := I1.tuple hq
  have hla : a < s1.heap.objs.size := by
    obtain ⟨o1, ho1, _⟩ := id p1
    exact Heap.lt_size ho1
  refine call_enumT (show s1.heap.IsTuple a its.toArray from p1) fun h' he hit hk => wpAny_pyIter_enum he ?_
  have I2 : Inv X pins σ H1 { s1 with heap := h' } := I1.kept (t' := s1.toks) hk
  refine ⟨s1.heap.objs.size + 1, [s1.heap.objs.size + 1, s1.heap.objs.size], _, _, H1, rfl, I2, turn_enumT hla, ⟨⟨.none, he⟩, hit⟩, fun b hb => ?_, q⟩
  have e' : b = s1.heap.objs.size + 1 ∨ b = s1.heap.objs.size := by simpa using hb
  have hle : s1.heap.objs.size ≤ b := by
    rcases e' with z | z
    · rw [z]; exact Nat.le_add_right _ _
    · rw [z]; exact Nat.le_refl _
  exact I1.fpOk hle (I1.hok.fresh hle)
theorem walk_enumT {K : PySem.W.Frag} {a : Addr} {xs : List V} : Walk (IteT K a) xs.length (fun H => SqT K H a xs) (YPair (fun i => some (.int (i : Nat))) (fun i => xs[i]?)) := by
  refine ⟨fun i _ hi q => ⟨xs, xs[i], q, by simp [hi]⟩, fun _ q => ⟨xs, q, rfl⟩, fun i H v H' _ q y => ?_⟩
  obtain ⟨T, x, h1, h2, h3, h4⟩ := y
  exact ⟨T, .int (i : Nat), x, h1, h2, h3, rfl, h4 xs q⟩

/-! ### xs.count(x), texts -/
def eqS (k : Str) (v : Value) : Bool := match v with
  | .str n _ => decide (n = k)
  | _ => false
theorem eqS_gives {k : Str} {t : Tok} : ∀ {us : List Value} {ns : List Str}, Vals (ns.map V.str) us → ∀ y ∈ us, MeetsSeq.EqGives y (.str k t) (eqS k y)
  | _, [], .nil => fun y hy => by cases hy
  | _, n :: ns, .cons r h => fun y hy => by
    rcases List.mem_cons.mp hy with e | e
    · obtain ⟨t', rfl⟩ := r
      rw [e]
      exact fun prog w A E s Q q => wpAny_eqBool_str q
    · exact eqS_gives h y e
theorem eqS_count {k : Str} : ∀ {us : List Value} {ns : List Str}, Vals (ns.map V.str) us → us.countP (eqS k) = ns.count k
  | _, [], .nil => rfl
  | _, n :: ns, .cons r h => by
    have ih := eqS_count (k := k) h
    obtain ⟨t', rfl⟩ := r
    rw [List.countP_cons, List.count_cons, ih]
    show _ + (if decide (n = k) = true then 1 else 0) = _ + _
    by_cases e : n = k
    · subst e; simp
    · simp [e]
def rCntS (K : PySem.W.Frag) : V → List V → Hp → VK → Prop := fun x xs H Q => ∃ (p : Addr) (ns : List Str) (k : Str), x = .ref p ∧ xs = [.str k] ∧ SqL K H p (ns.map V.str) ∧ Q (.int (ns.count k : Nat)) H
theorem mt_lcountS {X : Cx} : MtR X "list.count" (rCntS X.K) := by
  intro pins s σ H x xs v us Q I rx rxs h
  obtain ⟨p, ns, k, rfl, rfl, hs, q⟩ := h
  cases rx
  obtain ⟨u, rfl, ru⟩ := rxs.one
  obtain ⟨t, rfl⟩ := ru
  obtain ⟨its, rv, ⟨⟨cls, dd, data, sl⟩, n, ho, hc, hdn, hd⟩, hlen⟩ := I.list hs
  simp only at hc hd
  subst hc hd
  refine call_meets PySem.F.slot_list_count ⟨_, ho, rfl⟩ PySem.F.entry_list_count (PySem.F.args_list_count_2 _ _)
    (SeqAt.list_countAt p its.toArray n dd sl (.str k t) (eqS k)) ⟨ho, fun y hy => (eqS_gives rv y (by simpa using hy)).at _ _, ?_⟩
  have ec : its.toArray.toList.countP (eqS k) = ns.count k := eqS_count rv
  refine ⟨.int (ns.count k : Nat), H, I.tok _, ⟨s.toks, ?_⟩, q⟩
  show Value.int ((its.toArray.toList.countP (eqS k) : Nat) : Int) s.toks = Value.int ((ns.count k : Nat) : Int) s.toks
  rw [ec]
end Tb
set_option Elab.async false
set_option linter.all false
set_option maxRecDepth 100000
set_option maxHeartbeats 4000000
namespace Tb
open PySem PySem.Spec PyProof.Rows L2
/-- name = {k: v for ..} on one line, the name a local -/
theorem ps_setDc {X : Cx} {i : Nat} {y : Str} {py : Pos} {kx vx tg iter : Expr} {ifs : List Expr} {scope : Scope} {own : List (Str × Nat)} {pos spos : Pos} {wi : TI} {g : TG} {tt : TT} {tk tv : TE}
    (hc : X.calm = true) (hN : X.N.Nodup) (hy : X.N[i]? = some y) (hyl : X.env.scope.names.lookup y = some .local)
    (hsw : swapsWith (.DictComp kx vx [⟨tg, iter, ifs, 0⟩] scope pos) (some (.Name y py)) spos.line X.env = pure true) (hi : PI X tg iter wi) (ok : BlkOk X.N X.env.scope scope own)
    (hg : ∀ (s : Shared) (H : Hp) (C : Addr) (cl : List (Str × Addr)) (fp : List Addr), PG (X.blk s H scope (compEnvC scope cl C X.env) fp) tg g)
    (ht : ∀ (s : Shared) (H : Hp) (C : Addr) (cl : List (Str × Addr)) (fp : List Addr), PTs (X.blk s H scope (compEnvC scope cl C X.env) fp) ifs tt)
    (hk : ∀ (s : Shared) (H : Hp) (C : Addr) (cl : List (Str × Addr)) (fp : List Addr), PE (X.blk s H scope (compEnvC scope cl C X.env) fp) kx tk)
    (he : ∀ (s : Shared) (H : Hp) (C : Addr) (cl : List (Str × Addr)) (fp : List Addr), PE (X.blk s H scope (compEnvC scope cl C X.env) fp) vx tv) (hs : ∀ x, foldedSetIterable iter X.env x = pure x := by intro _; rfl) :
    PS X (.Assign [.Name y py] (.DictComp kx vx [⟨tg, iter, ifs, 0⟩] scope pos) spos) (tAsg (tDc wi g tt tk tv (own.map (·.2))) (gName i)) := by
  refine ⟨fun pins s σ H D I h => ?_⟩
  rw [exec_Assign_Name_used _ _ _ _ hsw]
  refine wpAny_bind (wpAny_standAt (wpAny_bind ?_))
  show wpAny _ X.A (do let _ ← comprehension (.DictComp kx vx [⟨tg, iter, ifs, 0⟩] scope pos) scope X.env (firstIterPos [⟨tg, iter, ifs, 0⟩] pos) newDict false (eval iter X.env) (some (assign (.Name y py) X.env))) _ _ s
  have h1 : tDc wi g tt tk tv (own.map (·.2)) σ H (fun x H1 => gName i x σ H1 D.nx) := h
  refine wpAny_bind (thn (dc_core (Qf := fun _ s' => SP X pins D .next s') hc hN I hi ok hg ht hk he hs h1 fun L C s' m H' I' q hn fp => ?_) fun _ s' hq => wpAny_pure (wpAny_pure hq))
  show wpAny _ _ (assign (.Name y py) X.env (.ref L)) _ _ _
  refine wpAny_assign_Name (store_ok2 (v := V.ref L) I' hN hy (.inl hyl) rfl (fun s2 I2 ⟨a, sb, ha⟩ => ?_) (.inr hyl))
  have haC : C ≠ a := by
    rcases ha with z | z
    · rw [z]
      exact fp.2.1
    · exact fun e => fp.2.2.2.2.1 y a z e.symm
  refine ⟨m, hn.sameBut sb haC, fun h3 sb3 => ⟨_, H', I2.turned (t' := s2.toks) (fun b o hb e => (sb3.2 b hb).trans e) fp.1 fp.2.1 fp.2.2.2.1 fp.2.2.2.2.1 fp.2.2.2.2.2, q⟩⟩
end Tb
set_option Elab.async false
set_option linter.all false
set_option maxRecDepth 100000
set_option maxHeartbeats 4000000
/-! The mirror: worlds and pieces as plain data, what the program computes of them, and the promises of the defs. -/
namespace Tb
open PySem PySem.Spec PyProof.Rows L2 Evl
abbrev Nm := Str
/-- (name, low, high) | (name, tail, head) -/
abbrev Wy := Str × Str × Str
structure Wd where
  places : List Nm
  ways : List Wy
  heads : List Nm
  crowd : List Int
structure Pc where
  w : Wd
  border : List Nm
/-! ### as Python data -/
abbrev nsD (l : List Nm) : PyData := .tuple (l.map .str)
abbrev wayD (w : Wy) : PyData := .tuple [.str w.1, .str w.2.1, .str w.2.2]
abbrev pairD (w : Nm × Nm) : PyData := .tuple [.str w.1, .str w.2]
abbrev cntD (w : Nm × Int) : PyData := .tuple [.str w.1, .int w.2]
abbrev webD (places : List Nm) (ways : List Wy) : PyData := .tuple [nsD places, .tuple (ways.map wayD)]
abbrev crD (n : Int) : PyData := .tuple [.int n, .tuple []]
abbrev worldD (W : Wd) : PyData := .tuple [webD W.places W.ways, nsD W.heads, .tuple (W.crowd.map crD)]
abbrev pieceD (p : Pc) : PyData := .tuple [worldD p.w, nsD p.border]
abbrev rowsD (r : List (List Int)) : PyData := .tuple (r.map rowD)
abbrev behD (r : List (List (List Int))) : PyData := .tuple (r.map rowsD)
/-! ### what is computed -/
def tl (w : Wy) (h : Nm) : Nm := if h = w.2.2 then w.2.1 else w.2.2
def tails (ways : List Wy) (heads : List Nm) : List Nm := (ways.zip heads).map fun q => tl q.1 q.2
def outs (ways : List Wy) (heads : List Nm) (x : Nm) : Nat := (tails ways heads).count x
def arrR (W : Wd) : List Wy := (W.ways.zip W.heads).map fun q => (q.1.1, tl q.1 q.2, q.2)
def arrS (W : Wd) : List (Nm × Nm) := (W.ways.zip W.heads).map fun q => (tl q.1 q.2, q.2)
def outsK (places : List Nm) (ways : List Wy) (heads : List Nm) : List (Key × V) := places.map fun x => (.inr x, .int (outs ways heads x : Nat))
def manyK (W : Wd) : List (Key × V) := (W.places.zip W.crowd).map fun q => (.inr q.1, .int q.2)
def dues (W : Wd) : List Int := (W.places.zip W.crowd).map fun q => (outs W.ways W.heads q.1 : Int) - q.2
/-- what can be come to from S -/
inductive Rch (W : Wd) (S : Nm → Prop) : Nm → Prop
  | src {x : Nm} : S x → Rch W S x
  | step {t h : Nm} : Rch W S t → (t, h) ∈ arrS W → Rch W S h
def srcs (p : Pc) (lit : List Int) (x : Nm) : Prop := (∃ k : Nat, (k : Int) ∈ lit ∧ p.border[k]? = some x) ∨ ∃ (i : Nat) (n : Int), p.w.places[i]? = some x ∧ p.w.crowd[i]? = some n ∧ 0 < n
open Classical in
/-- the names of the ways both of whose ends are in R -/
noncomputable def looseN (W : Wd) (R : Nm → Prop) : List Nm := (W.ways.filter fun w => decide (R w.2.1) && decide (R w.2.2)).map (·.1)
def ends (free : List Nm) (q : Wy × Nm) : List Nm := if q.1.1 ∈ free then [q.1.2.1, q.1.2.2] else [q.2]
def ptsF (free : List Nm) (rows : List (List Nm)) (q : Wy × Nm) : List (List Nm) := rows.flatMap fun row => (ends free q).map fun e => row ++ [e]
def pts (ways : List Wy) (heads : List Nm) (free : List Nm) : List (List Nm) := (ways.zip heads).foldl (ptsF free) [[]]
def goodH (p : Pc) (hs : List Nm) : Bool := (p.w.places.zip (dues p.w)).all fun q => decide (q.1 ∈ p.border) || decide (q.2 ≤ (outs p.w.ways hs q.1 : Int))
def rowOf (p : Pc) (hs : List Nm) : List Int := p.border.map fun b => (outs p.w.ways hs b : Int) - (outs p.w.ways p.w.heads b : Int)
def dd {α : Type} [DecidableEq α] : List α → List α
  | [] => []
  | x :: r => if x ∈ dd r then dd r else x :: dd r
def sortR (l : List (List Int)) : List (List Int) := l.mergeSort (PySem.W.dataLe false rowD)
def sortS (l : List Nm) : List Nm := l.mergeSort (PySem.W.dataLe false PyData.str)
def sortW (l : List Wy) : List Wy := l.mergeSort (PySem.W.dataLe false wayD)
noncomputable def rawRows (p : Pc) (lit : List Int) : List (List Int) := ((pts p.w.ways p.w.heads (looseN p.w (Rch p.w (srcs p lit)))).filter (goodH p)).map (rowOf p)
noncomputable def shifts (p : Pc) (lit : List Int) : List (List Int) := sortR (dd (rawRows p lit))
def litSets : Nat → List (List Int)
  | 0 => [[]]
  | n + 1 => litSets n ++ (litSets n).map fun r => r ++ [(n : Int)]
noncomputable def behav (p : Pc) : List (List (List Int)) := (litSets p.border.length).map (shifts p)
def liftW (W : Wd) (x : Nm) : Wd := { W with ways := ((W.ways.zip W.heads).filter fun q => decide (q.1.1 ≠ x)).map (·.1), heads := ((W.ways.zip W.heads).filter fun q => decide (q.1.1 ≠ x)).map (·.2) }
def lift (p : Pc) (x : Nm) : Pc := { p with w := liftW p.w x }
noncomputable def needless (p : Pc) : Option Nm := (p.w.ways.find? fun w => decide (behav (lift p w.1) = behav p)).map (·.1)
noncomputable def trimN : Nat → Pc → Pc
  | 0, p => p
  | n + 1, p => match needless p with
    | none => p
    | some x => trimN n (lift p x)
noncomputable def trim (p : Pc) : Pc := trimN p.w.ways.length p
def oD : Option Nm → PyData
  | none => .none
  | some x => .str x
/-! ### sound pieces -/
def ltS (a b : Nm) : Prop := a.cps.toList < b.cps.toList
structure OkW (W : Wd) : Prop where
  nd : W.places.Nodup
  cl : W.crowd.length = W.places.length
  hl : W.heads.length = W.ways.length
  lo : ∀ w ∈ W.ways, w.2.1 ∈ W.places ∧ w.2.2 ∈ W.places ∧ ltS w.2.1 w.2.2
  hd : ∀ q ∈ W.ways.zip W.heads, q.2 = q.1.2.1 ∨ q.2 = q.1.2.2
  nn : W.ways.Pairwise fun a b => ltS a.1 b.1
  ps : W.places.Pairwise ltS
  pl : W.places.length ≤ 10
  wl : W.ways.length ≤ 6
  c0 : ∀ n ∈ W.crowd, 0 ≤ n
structure Ok (p : Pc) : Prop where
  w : OkW p.w
  bn : p.border.Nodup
  bs : ∀ b ∈ p.border, b ∈ p.w.places
  bl : 1 ≤ p.border.length ∧ p.border.length ≤ 3
  sz : p.w.ways.length ≤ 5 ∨ p.border.length = 1
/-- a lit set of p, as ints -/
def LitOk (p : Pc) (lit : List Int) : Prop := lit.Nodup ∧ ∀ k ∈ lit, 0 ≤ k ∧ k < p.border.length
/-! ### the promises -/
def RetD (K : PySem.W.Frag) (d : PyData) (H : Hp) (Q : VK) : Prop := ∀ v H', Ex H H' → Dp K H' v d → Q v H'
def RetLs (K : PySem.W.Frag) (ds : List PyData) (H : Hp) (Q : VK) : Prop := ∀ p vs H', Ex H H' → H p = none → H' p = some (.lst vs) → DpAll K H' vs ds → Q (.ref p) H'
def RetK (kvs : List (Key × V)) (H : Hp) (Q : VK) : Prop := ∀ p H', Ex H H' → H p = none → H' p = some (.dK kvs) → Q (.ref p) H'
section
variable (K : PySem.W.Frag)
def spCheckNumber : Sp := fun vs H Q _ => ∃ n lo hi : Int, vs = [.int n, .int lo, .int hi] ∧ lo ≤ n ∧ n ≤ hi ∧ RetD K (.int n) H Q
def spArrowsReaches : Sp := fun vs H Q _ => ∃ W : Wd, DpAll K H vs [worldD W] ∧ W.ways.length ≤ 6 ∧ RetLs K ((arrR W).map wayD) H Q
def spManyAt : Sp := fun vs H Q _ => ∃ W : Wd, DpAll K H vs [worldD W] ∧ W.places.Nodup ∧ W.crowd.length = W.places.length ∧ W.places.length ≤ 10 ∧ RetK (manyK W) H Q
def spDues : Sp := fun vs H Q _ => ∃ W : Wd, DpAll K H vs [worldD W] ∧ OkW W ∧ RetD K (rowD (dues W)) H Q
def spArrowsShapes : Sp := fun vs H Q _ => ∃ W : Wd, DpAll K H vs [worldD W] ∧ W.ways.length ≤ 6 ∧ RetLs K ((arrS W).map pairD) H Q
def spWalkerCounts : Sp := fun vs H Q _ => ∃ W : Wd, DpAll K H vs [worldD W] ∧ W.crowd.length ≤ 10 ∧ RetLs K (W.crowd.map .int) H Q
def spWaysOut : Sp := fun vs H Q _ => ∃ (places : List Nm) (ways : List Wy) (heads : List Nm), DpAll K H vs [webD places ways, nsD heads] ∧ places.Nodup ∧ places.length ≤ 10 ∧ (∀ w ∈ ways, w.2.1 ∈ places ∧ w.2.2 ∈ places) ∧ RetK (outsK places ways heads) H Q
def spCheckLit : Sp := fun vs H Q _ => ∃ (p : Pc) (lit : List Int), DpAll K H vs [pieceD p, rowD lit] ∧ LitOk p lit ∧ RetD K .none H Q
def spLitReach : Sp := fun vs H Q _ => ∃ (p : Pc) (lit : List Int), DpAll K H vs [pieceD p, rowD lit] ∧ Ok p ∧ LitOk p lit ∧ ∀ r : List Nm, (∀ x, x ∈ r ↔ Rch p.w (srcs p lit) x) → RetLs K (r.map .str) H Q
def spPointings : Sp := fun vs H Q _ => ∃ (W : Wd) (free : List Nm), DpAll K H vs [worldD W, .list (free.map .str)] ∧ W.ways.length ≤ 6 ∧ RetLs K ((pts W.ways W.heads free).map nsD) H Q
def spShifts : Sp := fun vs H Q _ => ∃ (p : Pc) (lit : List Int), DpAll K H vs [pieceD p, rowD lit] ∧ Ok p ∧ LitOk p lit ∧ RetD K (rowsD (shifts p lit)) H Q
def spLitSets : Sp := fun vs H Q _ => ∃ n : Nat, vs = [.int n] ∧ n ≤ 3 ∧ RetLs K ((litSets n).map rowD) H Q
def spBehaviour : Sp := fun vs H Q _ => ∃ p : Pc, DpAll K H vs [pieceD p] ∧ Ok p ∧ RetD K (behD (behav p)) H Q
def spCheckBorders : Sp := fun vs H Q _ => ∃ p q : Pc, DpAll K H vs [pieceD p, pieceD q] ∧ p.border.length = q.border.length ∧ RetD K .none H Q
def spAreAlike : Sp := fun vs H Q _ => ∃ p q : Pc, DpAll K H vs [pieceD p, pieceD q] ∧ Ok p ∧ Ok q ∧ p.border.length = q.border.length ∧ ∀ b : Bool, (b = true ↔ behav p = behav q) → RetD K (.bool b) H Q
def spLiftWay : Sp := fun vs H Q _ => ∃ (p : Pc) (x : Nm), DpAll K H vs [pieceD p, .str x] ∧ x ∈ p.w.ways.map (·.1) ∧ p.w.ways.length ≤ 6 ∧ RetD K (pieceD (lift p x)) H Q
def spNeedlessWay : Sp := fun vs H Q _ => ∃ p : Pc, DpAll K H vs [pieceD p] ∧ Ok p ∧ RetD K (oD (needless p)) H Q
def spTrim : Sp := fun vs H Q _ => ∃ p : Pc, DpAll K H vs [pieceD p] ∧ Ok p ∧ RetD K (pieceD (trim p)) H Q
/-! the law's own -/
/-- a world whose heads are a tuple or a list -/
def worldQ (W : Wd) (hd : PyData) : PyData := .tuple [webD W.places W.ways, hd, .tuple (W.crowd.map crD)]
def HdQ (W : Wd) (hd : PyData) : Prop := hd = nsD W.heads ∨ hd = .list (W.heads.map .str)
/-- each head is one of the two ends, which are unlike -/
structure HdOk (W : Wd) : Prop where
  hl : W.heads.length = W.ways.length
  ne : ∀ w ∈ W.ways, w.2.1 ≠ w.2.2
  hd : ∀ q ∈ W.ways.zip W.heads, q.2 = q.1.2.1 ∨ q.2 = q.1.2.2
  wl : W.ways.length ≤ 6
def spLTail : Sp := fun vs H Q _ => ∃ (W : Wd) (hd : PyData) (k : Nat) (w : Wy) (h : Nm), DpAll K H vs [worldQ W hd, .int k] ∧ HdQ W hd ∧ W.ways[k]? = some w ∧ W.heads[k]? = some h ∧ w.2.1 ≠ w.2.2 ∧ (h = w.2.1 ∨ h = w.2.2) ∧ RetD K (.str (tl w h)) H Q
def spLLinks : Sp := fun vs H Q _ => ∃ (W : Wd) (hd : PyData), DpAll K H vs [worldQ W hd] ∧ HdQ W hd ∧ HdOk W ∧ RetLs K ((arrR W).map wayD) H Q
def spLPlain : Sp := fun vs H Q _ => ∃ W : Wd, DpAll K H vs [worldD W] ∧ W.crowd.length = W.places.length ∧ W.places.length ≤ 10 ∧ RetLs K ((W.places.zip W.crowd).map cntD) H Q
def spLCounts : Sp := fun vs H Q _ => ∃ W : Wd, DpAll K H vs [worldD W] ∧ W.crowd.length ≤ 10 ∧ RetLs K (W.crowd.map .int) H Q
def spLDueRow : Sp := fun vs H Q _ => ∃ W : Wd, DpAll K H vs [worldD W] ∧ OkW W ∧ RetD K (rowD (dues W)) H Q
def spLCome : Sp := fun vs H Q _ => ∃ (W : Wd) (os : List Nm), DpAll K H vs [worldD W, .list (os.map .str)] ∧ OkW W ∧ os.length ≤ 40 ∧ ∀ r : List Nm, (∀ x, x ∈ r ↔ Rch W (fun x => x ∈ W.places ∧ x ∈ os) x) → RetD K (nsD r) H Q
def spLLoadRow : Sp := fun vs H Q _ => ∃ p : Pc, DpAll K H vs [pieceD p] ∧ Ok p ∧ RetD K (rowD (p.border.map fun b => (outs p.w.ways p.w.heads b : Int))) H Q
def spLFlooded : Sp := fun vs H Q _ => ∃ (p : Pc) (lit : List Int), DpAll K H vs [pieceD p, .list (lit.map .int)] ∧ Ok p ∧ LitOk p lit ∧ ∀ r : List Nm, (∀ x, x ∈ r ↔ Rch p.w (srcs p lit) x) → RetD K (nsD r) H Q
def spLShiftRows : Sp := fun vs H Q _ => ∃ (p : Pc) (lit : List Int), DpAll K H vs [pieceD p, .list (lit.map .int)] ∧ Ok p ∧ LitOk p lit ∧ RetD K (rowsD (shifts p lit)) H Q
def spLBehaviourRow : Sp := fun vs H Q _ => ∃ p : Pc, DpAll K H vs [pieceD p] ∧ Ok p ∧ RetD K (behD (behav p)) H Q
/-- the world of these places, links and numbers -/
def buildW (spots : List Nm) (links : List Wy) (plain : List (Nm × Int)) : Wd where
  places := sortS spots
  ways := (sortW links).map fun l => (l.1, (sortS [l.2.1, l.2.2]).getD 0 "", (sortS [l.2.1, l.2.2]).getD 1 "")
  heads := (sortW links).map (·.2.2)
  crowd := (sortS spots).map fun x => ((plain.filter fun q => decide (q.1 = x)).map (·.2)).sum
def spLBuild : Sp := fun vs H Q _ => ∃ (sp : PyData) (spots : List Nm) (links : List Wy) (plain : List (Nm × Int)), DpAll K H vs [sp, .list (links.map wayD), .list (plain.map cntD), .list []] ∧ (sp = nsD spots ∨ sp = .list (spots.map .str)) ∧
  spots.length ≤ 40 ∧ links.length ≤ 40 ∧ plain.length ≤ 40 ∧ RetD K (worldD (buildW spots links plain)) H Q
def spLLifted : Sp := fun vs H Q _ => ∃ (p : Pc) (k : Nat) (w : Wy), DpAll K H vs [pieceD p, .int k] ∧ Ok p ∧ p.w.ways[k]? = some w ∧ RetD K (pieceD (lift p w.1)) H Q
/-- the number of the first way whose lifting leaves the behaviour -/
noncomputable def idle (p : Pc) (b : List (List (List Int))) : Option Nat := p.w.ways.findIdx? fun w => decide (behav (lift p w.1) = b)
def iD : Option Nat → PyData
  | none => .none
  | some k => .int k
def spLIdleWay : Sp := fun vs H Q _ => ∃ (p : Pc) (b : List (List (List Int))), DpAll K H vs [pieceD p, behD b] ∧ Ok p ∧ RetD K (iD (idle p b)) H Q
def spLTrimmed : Sp := fun vs H Q _ => ∃ p : Pc, DpAll K H vs [pieceD p] ∧ Ok p ∧ RetD K (pieceD (trim p)) H Q
/-- data of tuples, ints, texts and truth values, and its size -/
def plainD : PyData → Bool
  | .bool _ => true
  | .int _ => true
  | .str _ => true
  | .tuple xs => plainAll xs
  | _ => false
where plainAll : List PyData → Bool
  | [] => true
  | x :: r => plainD x && plainAll r
def szD : PyData → Nat
  | .tuple xs => szAll xs + 1
  | _ => 1
where szAll : List PyData → Nat
  | [] => 0
  | x :: r => szD x + szAll r
def spLEqual : Sp := fun vs H Q _ => ∃ d : PyData, DpAll K H vs [d, d] ∧ plainD d = true ∧ szD d ≤ 1000 ∧ RetD K (.bool true) H Q
/-! the draws: the store stands at s -/
def StO (H : Hp) (s : Addr) : Prop := ∃ (c : Addr) (ns : List Int) (a b d e : Int), H s = some (.lst [.ref c, .int a, .int b, .int d, .int e]) ∧ H c = some (.lst (ns.map .int)) ∧ ns.length ≤ 63 ∧ 0 ≤ a ∧ 0 ≤ b ∧ b < 1000003 ∧ 0 ≤ d ∧ 0 ≤ e
/-- all but the store as it was -/
def ExS (s : Addr) (H H' : Hp) : Prop := (∀ a o, a ≠ s → H a = some o → H' a = some o) ∧ StO H' s ∧ ∀ c r, H s = some (.lst (.ref c :: r)) → ∃ r', H' s = some (.lst (.ref c :: r'))
def spLStore : Sp := fun vs H Q _ => ∃ (a : Addr) (ns : List Int), vs = [.ref a] ∧ SqL K H a (ns.map V.int) ∧ ns.length ≤ 63 ∧ ∀ s H', Ex H H' → H s = none → StO H' s → Q (.ref s) H'
def spLTake (_ : PySem.W.Frag) : Sp := fun vs H Q _ => ∃ (s : Addr) (n : Int), vs = [.ref s, .int n] ∧ StO H s ∧ n ≤ 1000 ∧ ∀ r H', ExS s H H' → 0 ≤ r → (2 ≤ n → r < n) → (n < 2 → r = 0) → Q (.int r) H'
def spLRange (_ : PySem.W.Frag) : Sp := fun vs H Q _ => ∃ (s : Addr) (lo hi : Int), vs = [.ref s, .int lo, .int hi] ∧ StO H s ∧ lo ≤ hi ∧ hi - lo ≤ 900 ∧ ∀ r H', ExS s H H' → lo ≤ r → r ≤ hi → Q (.int r) H'
def spLUpto (_ : PySem.W.Frag) : Sp := fun vs H Q _ => ∃ (s : Addr) (lo hi : Int), vs = [.ref s, .int lo, .int hi] ∧ StO H s ∧ lo ≤ hi ∧ hi - lo ≤ 900 ∧ ∀ r H', ExS s H H' → lo ≤ r → r ≤ hi → Q (.int r) H'
def spLSeldom (_ : PySem.W.Frag) : Sp := fun vs H Q _ => ∃ (s : Addr) (n : Int), vs = [.ref s, .int n] ∧ StO H s ∧ n ≤ 1000 ∧ ∀ (b : Bool) H', ExS s H H' → Q (.bl b) H'
def spLOne (_ : PySem.W.Frag) : Sp := fun vs H Q _ => ∃ (s l : Addr) (xs : List Nm), vs = [.ref s, .ref l] ∧ StO H s ∧ H l = some (.lst (xs.map .str)) ∧ l ≠ s ∧ 1 ≤ xs.length ∧ xs.length ≤ 100 ∧ ∀ x H', ExS s H H' → x ∈ xs → Q (.str x) H'
def spLSome : Sp := fun vs H Q _ => ∃ (s t : Addr) (xs : List Nm) (n : Nat), vs = [.ref s, .ref t, .int n] ∧ StO H s ∧ SqT K H t (xs.map .str) ∧ n ≤ xs.length ∧ xs.length ≤ 100 ∧ xs.Nodup ∧
  ∀ (ys : List Nm) p H', ExS s H H' → H p = none → H' p = some (.lst (ys.map .str)) → ys.Nodup → (∀ y ∈ ys, y ∈ xs) → ys.length = n → Q (.ref p) H'
def spLName (_ : PySem.W.Frag) : Sp := fun vs H Q _ => ∃ s : Addr, vs = [.ref s] ∧ StO H s ∧ ∀ x H', ExS s H H' → x.length ≤ 8 → Q (.str x) H'
def spLNewName (_ : PySem.W.Frag) : Sp := fun vs H Q _ => ∃ (s l : Addr) (xs : List Nm), vs = [.ref s, .ref l] ∧ StO H s ∧ H l = some (.lst (xs.map .str)) ∧ l ≠ s ∧ xs.Nodup ∧ xs.length ≤ 20 ∧ ∀ x H', ExS s H H' → x ∉ xs → x.length ≤ 8 → Q (.str x) H'
/-- a sound web -/
structure OkN (places : List Nm) (ways : List Wy) : Prop where
  ps : places.Pairwise ltS
  lo : ∀ w ∈ ways, w.2.1 ∈ places ∧ w.2.2 ∈ places ∧ ltS w.2.1 w.2.2
  nn : ways.Pairwise fun a b => ltS a.1 b.1
def spLWeb : Sp := fun vs H Q _ => ∃ (s t : Addr) (a b : Int), vs = [.ref s, .ref t] ∧ StO H s ∧ SqT K H t [.int a, .int b] ∧ 2 ≤ a ∧ a ≤ 4 ∧ 0 ≤ b ∧ b ≤ 6 ∧
  ∀ places ways v H', ExS s H H' → Dp K H' v (webD places ways) → OkN places ways → 2 ≤ places.length → (places.length : Int) ≤ a → (ways.length : Int) ≤ b → Q v H'
def spLHeads : Sp := fun vs H Q _ => ∃ (s : Addr) (x : V) (places : List Nm) (ways : List Wy), vs = [.ref s, x] ∧ StO H s ∧ Dp K H x (webD places ways) ∧ ways.length ≤ 40 ∧
  ∀ heads v H', ExS s H H' → Dp K H' v (nsD heads) → heads.length = ways.length → (∀ q ∈ ways.zip heads, q.2 = q.1.2.1 ∨ q.2 = q.1.2.2) → Q v H'
def spLPiece : Sp := fun vs H Q _ => ∃ (s t : Addr) (n a b c : Int), vs = [.ref s, .int n, .ref t] ∧ StO H s ∧ SqT K H t [.int a, .int b, .int c] ∧ 1 ≤ n ∧ n ≤ 3 ∧ 3 ≤ a ∧ a ≤ 4 ∧ 0 ≤ b ∧ b ≤ 6 ∧ 0 ≤ c ∧ c ≤ 3 ∧ (b ≤ 5 ∨ n = 1) ∧
  ∀ p v H', ExS s H H' → Dp K H' v (pieceD p) → Ok p → Q v H'
def spLRefused : Sp := fun vs H Q _ => ∃ (p : Pc) (x : Nm), DpAll K H vs [pieceD p, .str x] ∧ x ∉ p.w.ways.map (·.1) ∧ p.w.ways.length ≤ 6 ∧ RetD K (.tuple [.str "Unknown", .str "way", .str x]) H Q
def spLaw : Sp := fun vs H Q _ => ∃ (a : Addr) (ns : List Int), vs = [.ref a] ∧ SqL K H a (ns.map V.int) ∧ ns.length ≤ 63 ∧ ∀ H', Q (.bl true) H'
end
/-! ### names of the rules' readings -/
abbrev rAddI : R2 := rI0 fun i j => .int (i + j)
abbrev rSubI : R2 := rI0 fun i j => .int (i - j)
abbrev rMulI : R2 := rI CMul fun i j => .int (i * j)
abbrev rModI : R2 := rI (fun _ j => j ≠ 0) fun i j => .int (i.fmod j)
abbrev rDivI : R2 := rI CDivN fun i j => .int (i.fdiv j)
abbrev rPowI : R2 := rI CPow fun i j => .int (i ^ j.toNat)
abbrev rLtI : R2 := rI0 fun i j => .bl (decide (i < j))
abbrev rLeI : R2 := rI0 fun i j => .bl (decide (i ≤ j))
abbrev rGtI : R2 := rI0 fun i j => .bl (decide (j < i))
abbrev rGeI : R2 := rI0 fun i j => .bl (decide (j ≤ i))
def rAddStr : R2 := fun x y H Q => ∃ i j, x = .str i ∧ y = .str j ∧ i.length + j.length ≤ sizeLine ∧ Q (.str (i ++ j)) H
def rIsNone : R2 := fun x y H Q => y = .non ∧ Q (.bl (decide (x = .non))) H
def rNotNone : R2 := fun x y H Q => y = .non ∧ Q (.bl (!decide (x = .non))) H
def rInt1 : List V → Hp → VK → Prop := fun xs H Q => (∃ i, xs = [.int i] ∧ Q (.int i) H) ∨ ∃ k, xs = [.bl k] ∧ Q (.int (if k then 1 else 0)) H
def rTupOf (K : PySem.W.Frag) : List V → Hp → VK → Prop := fun xs H Q => ∃ p ys, xs = [.ref p] ∧ ((SqL K H p ys ∧ ∀ l, H l = none → Q (.ref l) (upd H l (.tup ys))) ∨ (SqT K H p ys ∧ Q (.ref p) H))
def rMin2 : List V → Hp → VK → Prop := fun xs H Q => ∃ i j, xs = [.int i, .int j] ∧ Q (.int (if j < i then j else i)) H
end Tb
set_option Elab.async false
set_option linter.all false
set_option maxRecDepth 100000
set_option maxHeartbeats 4000000
/-! The readings of the defs, printed by gen.py. -/
namespace Tb
open PySem PySem.Spec PyProof.Rows L2 Evl
/-- check_number: slots 0 number, 1 low, 2 high -/
abbrev nCheckNumber : List Str := ["number", "low", "high"]
def tCheckNumber (K : PySem.W.Frag) : TS :=
    (tSeq (tIfS (tOr (tB (tCB (rIsi K) (tCons (tVar 0) (tCons (tC (.ty "bool")) tNil)))) (tNot (tB (tCB (rIsi K) (tCons (tVar 0) (tCons (tC (.ty "int")) tNil))))))
    tNever
    tNext)
    (tSeq (tIfS (tOr (tTest (tOp rLtI (tVar 0) (tVar 1))) (tTest (tOp rGtI (tVar 0) (tVar 2))))
    tNever
    tNext)
    (tRet (tVar 0))))
/-- arrows_reaches: slots 0 world, 1 web, 2 heads, 3 spare, 4 found, 5 way, 6 low, 7 high, 8 head, 9 tail -/
abbrev nArrowsReaches : List Str := ["world", "web", "heads", "spare", "found", "way", "low", "high", "head", "tail"]
def tArrowsReaches (K : PySem.W.Frag) : TS :=
    (tSeq (tAsg (tVar 0) (gTup K 3 (gCons (gName 1) (gCons (gName 2) (gCons (gName 3) gNil)))))
    (tSeq (tAsg (tLst tNil) (gName 4))
    (tSeq (tFor (RZ.iZipA K (tCons (tOp (rIxT K) (tVar 1) (tC (.int 1))) (tCons (tVar 2) tNil))) (gTup K 2 (gCons (gTup K 3 (gCons (gName 5) (gCons (gName 6) (gCons (gName 7) gNil)))) (gCons (gName 8) gNil)))
    (tSeq (tAsg (tIf (tTest (tOp rEq (tVar 8) (tVar 7))) (tVar 6) (tVar 7)) (gName 9))
    (tDrop (tBM K "list" rAppend (tVar 4) (tCons (tTup (tCons (tVar 5) (tCons (tVar 9) (tCons (tVar 8) tNil)))) tNil)))))
    (tRet (tVar 4)))))
/-- many_at: slots 0 world, 1 found, 2 place, 3 alike, 4 names -/
abbrev nManyAt : List Str := ["world", "found", "place", "alike", "names"]
def tManyAt (K : PySem.W.Frag) : TS :=
    (tSeq (tAsg tDNewK (gName 1))
    (tSeq (tFor (RZ.iZipA K (tCons (tOp (rIxT K) (tOp (rIxT K) (tVar 0) (tC (.int 0))) (tC (.int 0))) (tCons (tOp (rIxT K) (tVar 0) (tC (.int 2))) tNil))) (gTup K 2 (gCons (gName 2) (gCons (gTup K 2 (gCons (gName 3) (gCons (gName 4) gNil))) gNil)))
    (sDPut (tVar 1) (tVar 2) (tOp rAddI (tVar 3) (tCB (rLenS K) (tCons (tVar 4) tNil)))))
    (tRet (tVar 1))))
/-- arrows_shapes: slots 0 world, 1 ways, 2 heads, 3 head, 4 spare, 5 low, 6 high -/
abbrev nArrowsShapes : List Str := ["world", "ways", "heads", "head", "spare", "low", "high"]
def tArrowsShapes (K : PySem.W.Frag) : TS :=
    (tSeq (tAsg (tOp (rIxT K) (tOp (rIxT K) (tVar 0) (tC (.int 0))) (tC (.int 1))) (gName 1))
    (tSeq (tAsg (tOp (rIxT K) (tVar 0) (tC (.int 1))) (gName 2))
    (tRet (tLc (RZ.iZipA K (tCons (tVar 1) (tCons (tVar 2) tNil))) (gTup K 2 (gCons (gTup K 3 (gCons (gName 4) (gCons (gName 5) (gCons (gName 6) gNil)))) (gCons (gName 3) gNil))) tYes (tTup (tCons (tIf (tTest (tOp rEq (tVar 3) (tVar 6))) (tVar 5) (tVar 6)) (tCons (tVar 3) tNil))) [3, 4, 5, 6]))))
/-- walker_counts: slots 0 world, 1 alike, 2 names -/
abbrev nWalkerCounts : List Str := ["world", "alike", "names"]
def tWalkerCounts (K : PySem.W.Frag) : TS :=
    (tRet (tLc (iTup K (tOp (rIxT K) (tVar 0) (tC (.int 2)))) (gTup K 2 (gCons (gName 1) (gCons (gName 2) gNil))) tYes (tOp rAddI (tVar 1) (tCB (rLenS K) (tCons (tVar 2) tNil))) [1, 2]))
/-- ways_out: slots 0 web, 1 heads, 2 places, 3 ways, 4 outs, 5 spare, 6 low, 7 high, 8 head, 9 tail, 10 place -/
abbrev nWaysOut : List Str := ["web", "heads", "places", "ways", "outs", "spare", "low", "high", "head", "tail", "place"]
def tWaysOut (K : PySem.W.Frag) : TS :=
    (tSeq (tAsg (tVar 0) (gTup K 2 (gCons (gName 2) (gCons (gName 3) gNil))))
    (tSeq (tAsg (tDc (iTup K (tVar 2)) (gName 10) tYes (tVar 10) (tC (.int 0)) [10]) (gName 4))
    (tSeq (tFor (RZ.iZipA K (tCons (tVar 3) (tCons (tVar 1) tNil))) (gTup K 2 (gCons (gTup K 3 (gCons (gName 5) (gCons (gName 6) (gCons (gName 7) gNil)))) (gCons (gName 8) gNil)))
    (tSeq (tAsg (tIf (tTest (tOp rEq (tVar 8) (tVar 7))) (tVar 6) (tVar 7)) (gName 9))
    (sDAug (tVar 4) (tVar 9) (tC (.int 1)) rAdd)))
    (tRet (tVar 4)))))
/-- pointings: slots 0 world, 1 free, 2 rows, 3 way, 4 low, 5 high, 6 head, 7 ends, 8 row, 9 end -/
abbrev nPointings : List Str := ["world", "free", "rows", "way", "low", "high", "head", "ends", "row", "end"]
def tPointings (K : PySem.W.Frag) : TS :=
    (tSeq (tAsg (tLst (tCons (tTup tNil) tNil)) (gName 2))
    (tSeq (tFor (RZ.iZipA K (tCons (tOp (rIxT K) (tOp (rIxT K) (tVar 0) (tC (.int 0))) (tC (.int 1))) (tCons (tOp (rIxT K) (tVar 0) (tC (.int 1))) tNil))) (gTup K 2 (gCons (gTup K 3 (gCons (gName 3) (gCons (gName 4) (gCons (gName 5) gNil)))) (gCons (gName 6) gNil)))
    (tSeq (tAsg (tIf (tTest (tOp (rIn K false) (tVar 3) (tVar 1))) (tTup (tCons (tVar 4) (tCons (tVar 5) tNil))) (tTup (tCons (tVar 6) tNil))) (gName 7))
    (tAsg (tLc2 (iList K (tVar 2)) (gName 8) tYes (iTup K (tVar 7)) (gName 9) tYes (tOp (rCatA K) (tVar 8) (tTup (tCons (tVar 9) tNil))) [8, 9] [9]) (gName 2))))
    (tRet (tVar 2))))
/-- lit_sets: slots 0 many, 1 rows, 2 number, 3 row -/
abbrev nLitSets : List Str := ["many", "rows", "number", "row"]
def tLitSets (K : PySem.W.Frag) : TS :=
    (tSeq (tAsg (tLst (tCons (tTup tNil) tNil)) (gName 1))
    (tSeq (tFor (iRng1 (tCons (tVar 0) tNil)) (gName 2)
    (tAsg (tOp rCat (tVar 1) (tLc (iList K (tVar 1)) (gName 3) tYes (tOp (rCatA K) (tVar 3) (tTup (tCons (tVar 2) tNil))) [3])) (gName 1)))
    (tRet (tVar 1))))
/-- check_borders: slots 0 one, 1 other -/
abbrev nCheckBorders : List Str := ["one", "other"]
def tCheckBorders (K : PySem.W.Frag) : TS :=
    (tIfS (tTest (tOp rNe (tCB (rLenS K) (tCons (tOp (rIxT K) (tVar 0) (tC (.int 1))) tNil)) (tCB (rLenS K) (tCons (tOp (rIxT K) (tVar 1) (tC (.int 1))) tNil))))
    tNever
    tNext)
/-- lift_way: slots 0 piece, 1 way, 2 places, 3 ways, 4 heads, 5 crowd, 6 border, 7 kept, 8 web, 9 row, 10 head -/
abbrev nLiftWay : List Str := ["piece", "way", "places", "ways", "heads", "crowd", "border", "kept", "web", "row", "head"]
def tLiftWay (K : PySem.W.Frag) : TS :=
    (tSeq (tAsg (tVar 0) (gTup K 2 (gCons (gTup K 3 (gCons (gTup K 2 (gCons (gName 2) (gCons (gName 3) gNil))) (gCons (gName 4) (gCons (gName 5) gNil)))) (gCons (gName 6) gNil))))
    (tSeq (tIfS (tTest (tOp (rIn K true) (tVar 1) (tLc (iTup K (tVar 3)) (gName 9) tYes (tOp (rIxT K) (tVar 9) (tC (.int 0))) [9])))
    tNever
    tNext)
    (tSeq (tAsg (tLc (RZ.iZipA K (tCons (tVar 3) (tCons (tVar 4) tNil))) (gTup K 2 (gCons (gName 9) (gCons (gName 10) gNil))) (tTest (tOp rNe (tOp (rIxT K) (tVar 9) (tC (.int 0))) (tVar 1))) (tTup (tCons (tVar 9) (tCons (tVar 10) tNil))) [9, 10]) (gName 7))
    (tSeq (tAsg (tTup (tCons (tVar 2) (tCons (tCB (rTupOf K) (tCons (tLc (iList K (tVar 7)) (gTup K 2 (gCons (gName 9) (gCons (gName 10) gNil))) tYes (tVar 9) [9, 10]) tNil)) tNil))) (gName 8))
    (tRet (tTup (tCons (tTup (tCons (tVar 8) (tCons (tCB (rTupOf K) (tCons (tLc (iList K (tVar 7)) (gTup K 2 (gCons (gName 9) (gCons (gName 10) gNil))) tYes (tVar 10) [9, 10]) tNil)) (tCons (tVar 5) tNil)))) (tCons (tVar 6) tNil))))))))
/-- _law_store: slots 0 _law_script, 1 _law_cell -/
abbrev nLStore : List Str := ["_law_script", "_law_cell"]
def tLStore (K : PySem.W.Frag) : TS :=
    (tRet (tLst (tCons (tLc (iList K (tVar 0)) (gName 1) tYes (tCB rInt1 (tCons (tVar 1) tNil)) [1]) (tCons (tC (.int 0)) (tCons (tC (.int 0)) (tCons (tC (.int 0)) (tCons (tC (.int 0)) tNil)))))))
/-- _law_take: slots 0 _law_store_here, 1 _law_many, 2 _law_cell, 3 _law_drawn, 4 _law_first, 5 _law_second -/
abbrev nLTake : List Str := ["_law_store_here", "_law_many", "_law_cell", "_law_drawn", "_law_first", "_law_second"]
def tLTake (K : PySem.W.Frag) : TS :=
    (tSeq (tIfS (tTest (tOp rLtI (tVar 1) (tC (.int 2))))
    (tRet (tC (.int 0)))
    tNext)
    (tSeq (tIfS (tAnd (tTest (tOp rEq (tOp (rIxL K) (tVar 0) (tC (.int 3))) (tC (.int 0)))) (tTest (tOp rLtI (tOp (rIxL K) (tVar 0) (tC (.int 1))) (tCB (rLenS K) (tCons (tOp (rIxL K) (tVar 0) (tC (.int 0))) tNil)))))
    (tSeq (tAsg (tOp (rIxL K) (tOp (rIxL K) (tVar 0) (tC (.int 0))) (tOp (rIxL K) (tVar 0) (tC (.int 1)))) (gName 2))
    (tSeq (tAsg (tOp rAddI (tOp (rIxL K) (tVar 0) (tC (.int 1))) (tC (.int 1))) (gSub (tVar 0) (tC (.int 1)) rSetL))
    (tSeq (tAsg (tOp rModI (tCB rInt1 (tCons (tOp rAddI (tOp rAddI (tOp rMulI (tOp (rIxL K) (tVar 0) (tC (.int 2))) (tC (.int 31))) (tVar 2)) (tC (.int 5))) tNil)) (tC (.int 1000003))) (gSub (tVar 0) (tC (.int 2)) rSetL))
    (tIfS (tTest (tOp rGeI (tVar 2) (tOp rPowI (tC (.int 10)) (tC (.int 18)))))
    (tAsg (tVar 2) (gSub (tVar 0) (tC (.int 3)) rSetL))
    tNext))))
    tNext)
    (tSeq (tIfS (tTest (tOp rGtI (tOp (rIxL K) (tVar 0) (tC (.int 3))) (tC (.int 0))))
    (tSeq (tAsg (tOp rModI (tCB rInt1 (tCons (tOp (rIxL K) (tVar 0) (tC (.int 3))) tNil)) (tVar 1)) (gName 3))
    (tSeq (tAsg (tOp rDivI (tOp (rIxL K) (tVar 0) (tC (.int 3))) (tVar 1)) (gSub (tVar 0) (tC (.int 3)) rSetL))
    (tRet (tVar 3))))
    tNext)
    (tSeq (tAsg (tOp rAddI (tOp (rIxL K) (tVar 0) (tC (.int 4))) (tC (.int 1))) (gSub (tVar 0) (tC (.int 4)) rSetL))
    (tSeq (tAsg (tOp rModI (tCB rInt1 (tCons (tOp rAddI (tOp rAddI (tOp rMulI (tOp (rIxL K) (tVar 0) (tC (.int 2))) (tC (.int 7919))) (tOp rMulI (tOp (rIxL K) (tVar 0) (tC (.int 4))) (tC (.int 104729)))) (tC (.int 17))) tNil)) (tC (.int 1000003))) (gName 4))
    (tSeq (tAsg (tOp rModI (tCB rInt1 (tCons (tOp rAddI (tOp rMulI (tOp rAddI (tVar 4) (tC (.int 101))) (tOp rAddI (tOp rDivI (tVar 4) (tC (.int 1000))) (tC (.int 37)))) (tVar 4)) tNil)) (tC (.int 999983))) (gName 5))
    (tRet (tOp rModI (tCB rInt1 (tCons (tVar 5) tNil)) (tVar 1)))))))))
/-- _law_build: slots 0 _law_spots, 1 _law_links_here, 2 _law_plain_here, 3 _law_homes, 4 _law_rows, 5 _law_points, 6 _law_row, 7 _law_pair, 8 _law_crowd, 9 _law_spot, 10 _law_many -/
abbrev nLBuild : List Str := ["_law_spots", "_law_links_here", "_law_plain_here", "_law_homes", "_law_rows", "_law_points", "_law_row", "_law_pair", "_law_crowd", "_law_spot", "_law_many"]
def tLBuild (K : PySem.W.Frag) : TS :=
    (tSeq (tAsg (tLst tNil) (gName 4))
    (tSeq (tAsg (tLst tNil) (gName 5))
    (tSeq (tFor (iList K (tCB (rSortedD K) (tCons (tVar 1) tNil))) (gName 6)
    (tSeq (tAsg (tCB (rSortedD K) (tCons (tLst (tCons (tOp (rIxT K) (tVar 6) (tC (.int 1))) (tCons (tOp (rIxT K) (tVar 6) (tC (.int 2))) tNil))) tNil)) (gName 7))
    (tSeq (tDrop (tBM K "list" rAppend (tVar 4) (tCons (tTup (tCons (tOp (rIxT K) (tVar 6) (tC (.int 0))) (tCons (tOp (rIxL K) (tVar 7) (tC (.int 0))) (tCons (tOp (rIxL K) (tVar 7) (tC (.int 1))) tNil)))) tNil)))
    (tDrop (tBM K "list" rAppend (tVar 5) (tCons (tOp (rIxT K) (tVar 6) (tC (.int 2))) tNil))))))
    (tSeq (tAsg (tLst tNil) (gName 8))
    (tSeq (tFor (iList K (tCB (rSortedD K) (tCons (tVar 0) tNil))) (gName 9)
    (tSeq (tAsg (tCB (rSum K) (tCons (tLc (iList K (tVar 2)) (gName 7) (tTest (tOp rEq (tOp (rIxT K) (tVar 7) (tC (.int 0))) (tVar 9))) (tOp (rIxT K) (tVar 7) (tC (.int 1))) [7]) tNil)) (gName 10))
    (tDrop (tBM K "list" rAppend (tVar 8) (tCons (tTup (tCons (tVar 10) (tCons (tCB (rTupOf K) (tCons (tCB (rSortedD K) (tCons (tLc (iList K (tVar 3)) (gName 7) (tTest (tOp rEq (tOp (rIx K) (tVar 7) (tC (.int 1))) (tVar 9))) (tOp (rIx K) (tVar 7) (tC (.int 0))) [7]) tNil)) tNil)) tNil))) tNil)))))
    (tRet (tTup (tCons (tTup (tCons (tCB (rTupOf K) (tCons (tCB (rSortedD K) (tCons (tVar 0) tNil)) tNil)) (tCons (tCB (rTupOf K) (tCons (tVar 4) tNil)) tNil))) (tCons (tCB (rTupOf K) (tCons (tVar 5) tNil)) (tCons (tCB (rTupOf K) (tCons (tVar 8) tNil)) tNil))))))))))
/-- _law_tail: slots 0 _law_world, 1 _law_k, 2 _law_row -/
abbrev nLTail : List Str := ["_law_world", "_law_k", "_law_row"]
def tLTail (K : PySem.W.Frag) : TS :=
    (tSeq (tAsg (tOp (rIxT K) (tOp (rIxT K) (tOp (rIxT K) (tVar 0) (tC (.int 0))) (tC (.int 1))) (tVar 1)) (gName 2))
    (tSeq (tIfS (tTest (tOp rEq (tOp (rIx K) (tOp (rIxT K) (tVar 0) (tC (.int 1))) (tVar 1)) (tOp (rIxT K) (tVar 2) (tC (.int 1)))))
    (tRet (tOp (rIxT K) (tVar 2) (tC (.int 2))))
    tNext)
    (tRet (tOp (rIxT K) (tVar 2) (tC (.int 1))))))
/-- _law_plain: slots 0 _law_world, 1 _law_k -/
abbrev nLPlain : List Str := ["_law_world", "_law_k"]
def tLPlain (K : PySem.W.Frag) : TS :=
    (tRet (tLc (iRng1 (tCons (tCB (rLenS K) (tCons (tOp (rIxT K) (tVar 0) (tC (.int 2))) tNil)) tNil)) (gName 1) tYes (tTup (tCons (tOp (rIxT K) (tOp (rIxT K) (tOp (rIxT K) (tVar 0) (tC (.int 0))) (tC (.int 0))) (tVar 1)) (tCons (tOp (rIxT K) (tOp (rIxT K) (tOp (rIxT K) (tVar 0) (tC (.int 2))) (tVar 1)) (tC (.int 0))) tNil))) [1]))
/-- _law_counts: slots 0 _law_world, 1 _law_pair -/
abbrev nLCounts : List Str := ["_law_world", "_law_pair"]
def tLCounts (K : PySem.W.Frag) : TS :=
    (tRet (tLc (iTup K (tOp (rIxT K) (tVar 0) (tC (.int 2)))) (gName 1) tYes (tOp rAddI (tOp (rIxT K) (tVar 1) (tC (.int 0))) (tCB (rLenS K) (tCons (tOp (rIxT K) (tVar 1) (tC (.int 1))) tNil))) [1]))
/-- _law_equal: slots 0 _law_told, 1 _law_right, 2 _law_pairs, 3 _law_k, 4 _law_pair, 5 _law_one_here, 6 _law_two, 7 _law_j -/
abbrev nLEqual : List Str := ["_law_told", "_law_right", "_law_pairs", "_law_k", "_law_pair", "_law_one_here", "_law_two", "_law_j"]
def tLEqual (K : PySem.W.Frag) : TS :=
    (tSeq (tAsg (tLst (tCons (tTup (tCons (tVar 0) (tCons (tVar 1) tNil))) tNil)) (gName 2))
    (tSeq (tFor (iRng1 (tCons (tC (.int 200000)) tNil)) (gName 3)
    (tSeq (tIfS (tTest (tOp rEq (tCB (rLenS K) (tCons (tVar 2) tNil)) (tC (.int 0))))
    (tRet (tC (.bl true)))
    tNext)
    (tSeq (tAsg (tBM0 K "list" rPop (tVar 2)) (gName 4))
    (tSeq (tAsg (tOp (rIxT K) (tVar 4) (tC (.int 0))) (gName 5))
    (tSeq (tAsg (tOp (rIxT K) (tVar 4) (tC (.int 1))) (gName 6))
    (tIfS (tOr (tB (tCB (rIsi K) (tCons (tVar 6) (tCons (tC (.ty "tuple")) tNil)))) (tB (tCB (rIsi K) (tCons (tVar 6) (tCons (tC (.ty "list")) tNil)))))
    (tSeq (tIfS (tOr (tTest (tOp rNe (tCB (rIsi K) (tCons (tVar 6) (tCons (tC (.ty "tuple")) tNil))) (tCB (rIsi K) (tCons (tVar 5) (tCons (tC (.ty "tuple")) tNil))))) (tTest (tOp rNe (tCB (rIsi K) (tCons (tVar 6) (tCons (tC (.ty "list")) tNil))) (tCB (rIsi K) (tCons (tVar 5) (tCons (tC (.ty "list")) tNil))))))
    (tRet (tC (.bl false)))
    tNext)
    (tSeq (tIfS (tTest (tOp rNe (tCB (rLenS K) (tCons (tVar 5) tNil)) (tCB (rLenS K) (tCons (tVar 6) tNil))))
    (tRet (tC (.bl false)))
    tNext)
    (tDrop (tBM K "list" rExtend (tVar 2) (tCons (tLc (iRng1 (tCons (tCB (rLenS K) (tCons (tVar 6) tNil)) tNil)) (gName 7) tYes (tTup (tCons (tOp (rIx K) (tVar 5) (tVar 7)) (tCons (tOp (rIx K) (tVar 6) (tVar 7)) tNil))) [7]) tNil)))))
    (tIfS (tTest (tOp rIsNone (tVar 6) (tC .non)))
    (tIfS (tTest (tOp rNotNone (tVar 5) (tC .non)))
    (tRet (tC (.bl false)))
    tNext)
    (tIfS (tOr (tTest (tOp rNe (tCB (rIsi K) (tCons (tVar 6) (tCons (tC (.ty "bool")) tNil))) (tCB (rIsi K) (tCons (tVar 5) (tCons (tC (.ty "bool")) tNil))))) (tTest (tOp rNe (tCB (rIsi K) (tCons (tVar 6) (tCons (tC (.ty "str")) tNil))) (tCB (rIsi K) (tCons (tVar 5) (tCons (tC (.ty "str")) tNil))))))
    (tRet (tC (.bl false)))
    (tIfS (tOr (tNot (tB (tCB (rIsiT K) (tCons (tVar 5) (tCons (tTup (tCons (tC (.ty "bool")) (tCons (tC (.ty "int")) (tCons (tC (.ty "str")) tNil)))) tNil))))) (tTest (tOp rNe (tVar 5) (tVar 6))))
    (tRet (tC (.bl false)))
    tNext)))))))))
    (tRet (tOp rEq (tCB (rLenS K) (tCons (tVar 2) tNil)) (tC (.int 0))))))
/-- dues: slots 0 world, 1 outs, 2 spare, 3 tail, 4 head, 5 many, 6 place -/
abbrev nDues : List Str := ["world", "outs", "spare", "tail", "head", "many", "place"]
def tDues (K : PySem.W.Frag) : TS :=
    (tSeq (tAsg (tDc (iTup K (tOp (rIxT K) (tOp (rIxT K) (tVar 0) (tC (.int 0))) (tC (.int 0)))) (gName 6) tYes (tVar 6) (tC (.int 0)) [6]) (gName 1))
    (tSeq (tFor (iList K (tCall (spArrowsReaches K) [] E0 (tCons (tVar 0) tNil))) (gTup K 3 (gCons (gName 2) (gCons (gName 3) (gCons (gName 4) gNil))))
    (sDAug (tVar 1) (tVar 3) (tC (.int 1)) rAdd))
    (tSeq (tAsg (tCall (spManyAt K) [] E0 (tCons (tVar 0) tNil)) (gName 5))
    (tRet (tCB (rTupOf K) (tCons (tLc (iTup K (tOp (rIxT K) (tOp (rIxT K) (tVar 0) (tC (.int 0))) (tC (.int 0)))) (gName 6) tYes (tOp rSubI (tDGet (tVar 1) (tVar 6)) (tDGet (tVar 5) (tVar 6))) [6]) tNil))))))
/-- check_lit: slots 0 piece, 1 lit, 2 last, 3 item, 4 at -/
abbrev nCheckLit : List Str := ["piece", "lit", "last", "item", "at"]
def tCheckLit (K : PySem.W.Frag) : TS :=
    (tSeq (tAsg (tOp rSubI (tCB (rLenS K) (tCons (tOp (rIxT K) (tVar 0) (tC (.int 1))) tNil)) (tC (.int 1))) (gName 2))
    (tSeq (tFor (iTup K (tVar 1)) (gName 3)
    (tDrop (tCall (spCheckNumber K) [] E0 (tCons (tVar 3) (tCons (tC (.int 0)) (tCons (tVar 2) tNil))))))
    (tFor (iEnumT K (tCons (tVar 1) tNil)) (gTup K 2 (gCons (gName 4) (gCons (gName 3) gNil)))
    (tIfS (tTest (tOp (rIn K false) (tVar 3) (tSl (rSlA K) (tVar 1) tNoPart (tPart (tVar 4)))))
    tNever
    tNext))))
/-- lit_reach: slots 0 piece, 1 lit, 2 world, 3 border, 4 found, 5 place, 6 count, 7 steps, 8 growing, 9 tail, 10 head, 11 number -/
abbrev nLitReach : List Str := ["piece", "lit", "world", "border", "found", "place", "count", "steps", "growing", "tail", "head", "number"]
def tLitReach (K : PySem.W.Frag) : TS :=
    (tSeq (tAsg (tVar 0) (gTup K 2 (gCons (gName 2) (gCons (gName 3) gNil))))
    (tSeq (tAsg (tLc (iTup K (tVar 1)) (gName 11) tYes (tOp (rIxT K) (tVar 3) (tVar 11)) [11]) (gName 4))
    (tSeq (tFor (iZipM K (tCons (tOp (rIxT K) (tOp (rIxT K) (tVar 2) (tC (.int 0))) (tC (.int 0))) (tCons (tCall (spWalkerCounts K) [] E0 (tCons (tVar 2) tNil)) tNil))) (gTup K 2 (gCons (gName 5) (gCons (gName 6) gNil)))
    (tIfS (tTest (tOp rGtI (tVar 6) (tC (.int 0))))
    (tDrop (tBM K "list" rAppend (tVar 4) (tCons (tVar 5) tNil)))
    tNext))
    (tSeq (tAsg (tCall (spArrowsShapes K) [] E0 (tCons (tVar 2) tNil)) (gName 7))
    (tSeq (tAsg (tC (.bl true)) (gName 8))
    (tSeq (tWhile (tB (tVar 8))
    (tSeq (tAsg (tC (.bl false)) (gName 8))
    (tFor (iList K (tVar 7)) (gTup K 2 (gCons (gName 9) (gCons (gName 10) gNil)))
    (tIfS (tAnd (tTest (tOp (rIn K false) (tVar 9) (tVar 4))) (tTest (tOp (rIn K true) (tVar 10) (tVar 4))))
    (tSeq (tDrop (tBM K "list" rAppend (tVar 4) (tCons (tVar 10) tNil)))
    (tAsg (tC (.bl true)) (gName 8)))
    tNext))))
    (tRet (tVar 4))))))))
/-- _law_range: slots 0 _law_store_here, 1 _law_low, 2 _law_high -/
abbrev nLRange : List Str := ["_law_store_here", "_law_low", "_law_high"]
def tLRange (K : PySem.W.Frag) : TS :=
    (tRet (tOp rAddI (tVar 1) (tCall (spLTake K) [] E0 (tCons (tVar 0) (tCons (tOp rAddI (tOp rSubI (tVar 2) (tVar 1)) (tC (.int 1))) tNil)))))
/-- _law_seldom: slots 0 _law_store_here, 1 _law_many -/
abbrev nLSeldom : List Str := ["_law_store_here", "_law_many"]
def tLSeldom (K : PySem.W.Frag) : TS :=
    (tRet (tOp rEq (tCall (spLTake K) [] E0 (tCons (tVar 0) (tCons (tVar 1) tNil))) (tC (.int 1))))
/-- _law_one: slots 0 _law_store_here, 1 _law_row -/
abbrev nLOne : List Str := ["_law_store_here", "_law_row"]
def tLOne (K : PySem.W.Frag) : TS :=
    (tRet (tOp (rIxL K) (tVar 1) (tCall (spLTake K) [] E0 (tCons (tVar 0) (tCons (tCB (rLenS K) (tCons (tVar 1) tNil)) tNil)))))
/-- _law_some: slots 0 _law_store_here, 1 _law_row, 2 _law_many, 3 _law_left, 4 _law_found, 5 _law_k -/
abbrev nLSome : List Str := ["_law_store_here", "_law_row", "_law_many", "_law_left", "_law_found", "_law_k"]
def tLSome (K : PySem.W.Frag) : TS :=
    (tSeq (tAsg (tCB (rListS K) (tCons (tVar 1) tNil)) (gName 3))
    (tSeq (tAsg (tLst tNil) (gName 4))
    (tSeq (tFor (iRng1 (tCons (tCB rMin2 (tCons (tVar 2) (tCons (tCB (rLenS K) (tCons (tVar 3) tNil)) tNil))) tNil)) (gName 5)
    (tDrop (tBM K "list" rAppend (tVar 4) (tCons (tBM K "list" rPopAt (tVar 3) (tCons (tCall (spLTake K) [] E0 (tCons (tVar 0) (tCons (tCB (rLenS K) (tCons (tVar 3) tNil)) tNil))) tNil)) tNil))))
    (tRet (tVar 4)))))
/-- _law_heads: slots 0 _law_store_here, 1 _law_web_here, 2 _law_kind, 3 _law_found, 4 _law_row, 5 _law_side -/
abbrev nLHeads : List Str := ["_law_store_here", "_law_web_here", "_law_kind", "_law_found", "_law_row", "_law_side"]
def tLHeads (K : PySem.W.Frag) : TS :=
    (tSeq (tAsg (tCall (spLTake K) [] E0 (tCons (tVar 0) (tCons (tC (.int 5)) tNil))) (gName 2))
    (tSeq (tAsg (tLst tNil) (gName 3))
    (tSeq (tFor (iTup K (tOp (rIxT K) (tVar 1) (tC (.int 1)))) (gName 4)
    (tSeq (tAsg (tVar 2) (gName 5))
    (tSeq (tIfS (tOr (tTest (tOp rEq (tVar 2) (tC (.int 0)))) (tTest (tOp rGtI (tVar 2) (tC (.int 2)))))
    (tAsg (tOp rAddI (tC (.int 1)) (tCall (spLTake K) [] E0 (tCons (tVar 0) (tCons (tC (.int 2)) tNil)))) (gName 5))
    tNext)
    (tDrop (tBM K "list" rAppend (tVar 3) (tCons (tOp (rIxT K) (tVar 4) (tVar 5)) tNil))))))
    (tRet (tCB (rTupOf K) (tCons (tVar 3) tNil))))))
/-- _law_links: slots 0 _law_world, 1 _law_k -/
abbrev nLLinks : List Str := ["_law_world", "_law_k"]
def tLLinks (K : PySem.W.Frag) : TS :=
    (tRet (tLc (iRng1 (tCons (tCB (rLenS K) (tCons (tOp (rIxT K) (tVar 0) (tC (.int 1))) tNil)) tNil)) (gName 1) tYes (tTup (tCons (tOp (rIxT K) (tOp (rIxT K) (tOp (rIxT K) (tOp (rIxT K) (tVar 0) (tC (.int 0))) (tC (.int 1))) (tVar 1)) (tC (.int 0))) (tCons (tCall (spLTail K) [] E0 (tCons (tVar 0) (tCons (tVar 1) tNil))) (tCons (tOp (rIx K) (tOp (rIxT K) (tVar 0) (tC (.int 1))) (tVar 1)) tNil)))) [1]))
/-- _law_due_row: slots 0 _law_world, 1 _law_counts_here, 2 _law_found, 3 _law_k, 4 _law_out, 5 _law_j -/
abbrev nLDueRow : List Str := ["_law_world", "_law_counts_here", "_law_found", "_law_k", "_law_out", "_law_j"]
def tLDueRow (K : PySem.W.Frag) : TS :=
    (tSeq (tAsg (tCall (spLCounts K) [] E0 (tCons (tVar 0) tNil)) (gName 1))
    (tSeq (tAsg (tLst tNil) (gName 2))
    (tSeq (tFor (iRng1 (tCons (tCB (rLenS K) (tCons (tVar 1) tNil)) tNil)) (gName 3)
    (tSeq (tAsg (tCB (rLenS K) (tCons (tLc (iRng1 (tCons (tCB (rLenS K) (tCons (tOp (rIxT K) (tVar 0) (tC (.int 1))) tNil)) tNil)) (gName 5) (tTest (tOp rEq (tCall (spLTail K) [] E0 (tCons (tVar 0) (tCons (tVar 5) tNil))) (tOp (rIxT K) (tOp (rIxT K) (tOp (rIxT K) (tVar 0) (tC (.int 0))) (tC (.int 0))) (tVar 3)))) (tVar 5) [5]) tNil)) (gName 4))
    (tDrop (tBM K "list" rAppend (tVar 2) (tCons (tOp rSubI (tVar 4) (tOp (rIxL K) (tVar 1) (tVar 3))) tNil)))))
    (tRet (tCB (rTupOf K) (tCons (tVar 2) tNil))))))
/-- _law_come: slots 0 _law_world, 1 _law_origins, 2 _law_found, 3 _law_turn, 4 _law_k, 5 _law_spot -/
abbrev nLCome : List Str := ["_law_world", "_law_origins", "_law_found", "_law_turn", "_law_k", "_law_spot"]
def tLCome (K : PySem.W.Frag) : TS :=
    (tSeq (tAsg (tLc (iTup K (tOp (rIxT K) (tOp (rIxT K) (tVar 0) (tC (.int 0))) (tC (.int 0)))) (gName 5) (tTest (tOp (rIn K false) (tVar 5) (tVar 1))) (tVar 5) [5]) (gName 2))
    (tSeq (tFor (iRng1 (tCons (tCB (rLenS K) (tCons (tOp (rIxT K) (tOp (rIxT K) (tVar 0) (tC (.int 0))) (tC (.int 0))) tNil)) tNil)) (gName 3)
    (tFor (iRng1 (tCons (tCB (rLenS K) (tCons (tOp (rIxT K) (tVar 0) (tC (.int 1))) tNil)) tNil)) (gName 4)
    (tIfS (tAnd (tTest (tOp (rIn K false) (tCall (spLTail K) [] E0 (tCons (tVar 0) (tCons (tVar 4) tNil))) (tVar 2))) (tTest (tOp (rIn K true) (tOp (rIxT K) (tOp (rIxT K) (tVar 0) (tC (.int 1))) (tVar 4)) (tVar 2))))
    (tDrop (tBM K "list" rAppend (tVar 2) (tCons (tOp (rIxT K) (tOp (rIxT K) (tVar 0) (tC (.int 1))) (tVar 4)) tNil)))
    tNext)))
    (tRet (tCB (rTupOf K) (tCons (tCB (rSortedD K) (tCons (tVar 2) tNil)) tNil)))))
/-- shifts: slots 0 piece, 1 lit, 2 world, 3 border, 4 web, 5 found, 6 loose, 7 least, 8 before, 9 rows, 10 heads, 11 outs, 12 way, 13 low, 14 high, 15 place, 16 due, 17 row -/
abbrev nShifts : List Str := ["piece", "lit", "world", "border", "web", "found", "loose", "least", "before", "rows", "heads", "outs", "way", "low", "high", "place", "due", "row"]
def tShifts (P : Program) (w : World) (K : PySem.W.Frag) : TS :=
    (tSeq (tDrop (tCall (spCheckLit K) [] E0 (tCons (tVar 0) (tCons (tVar 1) tNil))))
    (tSeq (tAsg (tVar 0) (gTup K 2 (gCons (gName 2) (gCons (gName 3) gNil))))
    (tSeq (tAsg (tOp (rIxT K) (tVar 2) (tC (.int 0))) (gName 4))
    (tSeq (tAsg (tCall (spLitReach K) [] E0 (tCons (tVar 0) (tCons (tVar 1) tNil))) (gName 5))
    (tSeq (tAsg (tLc (iTup K (tOp (rIxT K) (tVar 4) (tC (.int 1)))) (gTup K 3 (gCons (gName 12) (gCons (gName 13) (gCons (gName 14) gNil)))) (tAnd (tTest (tOp (rIn K false) (tVar 13) (tVar 5))) (tTest (tOp (rIn K false) (tVar 14) (tVar 5)))) (tVar 12) [12, 13, 14]) (gName 6))
    (tSeq (tAsg (tDc (RZ.iZipA K (tCons (tOp (rIxT K) (tVar 4) (tC (.int 0))) (tCons (tCall (spDues K) [] E0 (tCons (tVar 2) tNil)) tNil))) (gTup K 2 (gCons (gName 15) (gCons (gName 16) gNil))) (tTest (tOp (rIn K true) (tVar 15) (tVar 3))) (tVar 15) (tVar 16) [15, 16]) (gName 7))
    (tSeq (tAsg (tCall (spWaysOut K) [] E0 (tCons (tVar 4) (tCons (tOp (rIxT K) (tVar 2) (tC (.int 1))) tNil))) (gName 8))
    (tSeq (tAsg (tLst tNil) (gName 9))
    (tSeq (tFor (iList K (tCall (spPointings K) [] E0 (tCons (tVar 2) (tCons (tVar 6) tNil)))) (gName 10)
    (tSeq (tAsg (tCall (spWaysOut K) [] E0 (tCons (tVar 4) (tCons (tVar 10) tNil))) (gName 11))
    (tIfS (tB (tCB (rAll K) (tCons (tLockE (tLc (iKeys (tVar 7)) (gName 15) tYes (tOp rGeI (tDGet (tVar 11) (tVar 15)) (tDGet (tVar 7) (tVar 15))) [15])) tNil)))
    (tDrop (tBM K "list" rAppend (tVar 9) (tCons (tCB (rTupOf K) (tCons (tLc (iTup K (tVar 3)) (gName 15) tYes (tOp rSubI (tDGet (tVar 11) (tVar 15)) (tDGet (tVar 8) (tVar 15))) [15]) tNil)) tNil)))
    tNext)))
    (tRet (tCB (rTupOf K) (tCons (tCB (rSortedST K P w) (tCons (tScT K P w (tVar 9)) tNil)) tNil))))))))))))
/-- _law_upto: slots 0 _law_store_here, 1 _law_low, 2 _law_high, 3 _law_kind -/
abbrev nLUpto : List Str := ["_law_store_here", "_law_low", "_law_high", "_law_kind"]
def tLUpto (K : PySem.W.Frag) : TS :=
    (tSeq (tAsg (tCall (spLTake K) [] E0 (tCons (tVar 0) (tCons (tC (.int 6)) tNil))) (gName 3))
    (tSeq (tIfS (tTest (tOp rEq (tVar 3) (tC (.int 0))))
    (tRet (tVar 1))
    tNext)
    (tSeq (tIfS (tTest (tOp rEq (tVar 3) (tC (.int 1))))
    (tRet (tCB rMax2 (tCons (tVar 1) (tCons (tVar 2) tNil))))
    tNext)
    (tRet (tCall (spLRange K) [] E0 (tCons (tVar 0) (tCons (tVar 1) (tCons (tVar 2) tNil))))))))
/-- _law_name: slots 0 _law_store_here, 1 _law_small, 2 _law_signs, 3 _law_kind, 4 _law_many, 5 _law_at, 6 _law_sign, 7 _law_found, 8 _law_k -/
abbrev nLName : List Str := ["_law_store_here", "_law_small", "_law_signs", "_law_kind", "_law_many", "_law_at", "_law_sign", "_law_found", "_law_k"]
def tLName (K : PySem.W.Frag) : TS :=
    (tSeq (tAsg (tC (.str "abcdefghijklmnopqrstuvwxyz")) (gName 1))
    (tSeq (tAsg (tOp rAddStr (tVar 1) (tC (.str "0123456789"))) (gName 2))
    (tSeq (tAsg (tCall (spLTake K) [] E0 (tCons (tVar 0) (tCons (tC (.int 6)) tNil))) (gName 3))
    (tSeq (tIfS (tTest (tOp rEq (tVar 3) (tC (.int 0))))
    (tRet (tOp rIxS (tVar 1) (tCall (spLTake K) [] E0 (tCons (tVar 0) (tCons (tC (.int 26)) tNil)))))
    tNext)
    (tSeq (tIfS (tTest (tOp rEq (tVar 3) (tC (.int 1))))
    (tRet (tOp rAddStr (tOp rIxS (tC (.str "abuwz")) (tCall (spLTake K) [] E0 (tCons (tVar 0) (tCons (tC (.int 5)) tNil)))) (tOp rIxS (tC (.str "0123456789")) (tCall (spLTake K) [] E0 (tCons (tVar 0) (tCons (tC (.int 10)) tNil))))))
    tNext)
    (tSeq (tIfS (tTest (tOp rEq (tVar 3) (tC (.int 2))))
    (tRet (tCall (spLOne K) [] E0 (tCons (tVar 0) (tCons (tLst (tCons (tC (.str "by")) (tCons (tC (.str "to")) (tCons (tC (.str "seq")) (tCons (tC (.str "while")) (tCons (tC (.str "until")) (tCons (tC (.str "each")) (tCons (tC (.str "as")) (tCons (tC (.str "place")) (tCons (tC (.str "way")) (tCons (tC (.str "walkers")) (tCons (tC (.str "walker")) (tCons (tC (.str "b0")) (tCons (tC (.str "b1")) (tCons (tC (.str "f0")) (tCons (tC (.str "s0")) (tCons (tC (.str "s1")) (tCons (tC (.str "none")) (tCons (tC (.str "a")) (tCons (tC (.str "a0")) (tCons (tC (.str "a00")) (tCons (tC (.str "aa")) (tCons (tC (.str "z")) (tCons (tC (.str "zz")) (tCons (tC (.str "zzzzzzzz")) tNil))))))))))))))))))))))))) tNil))))
    tNext)
    (tSeq (tIfS (tTest (tOp rEq (tVar 3) (tC (.int 5))))
    (tSeq (tAsg (tCall (spLRange K) [] E0 (tCons (tVar 0) (tCons (tC (.int 2)) (tCons (tC (.int 8)) tNil)))) (gName 4))
    (tSeq (tAsg (tCall (spLTake K) [] E0 (tCons (tVar 0) (tCons (tVar 4) tNil))) (gName 5))
    (tSeq (tAsg (tOp rIxS (tVar 1) (tCall (spLTake K) [] E0 (tCons (tVar 0) (tCons (tC (.int 26)) tNil)))) (gName 6))
    (tSeq (tIfS (tTest (tOp rGtI (tVar 5) (tC (.int 0))))
    (tAsg (tOp rIxS (tVar 2) (tCall (spLTake K) [] E0 (tCons (tVar 0) (tCons (tC (.int 36)) tNil)))) (gName 6))
    tNext)
    (tRet (tOp rAddStr (tOp rAddStr (tSl rSlS (tC (.str "aaaaaaaa")) tNoPart (tPart (tVar 5))) (tVar 6)) (tSl rSlS (tC (.str "aaaaaaaa")) tNoPart (tPart (tOp rSubI (tOp rSubI (tVar 4) (tC (.int 1))) (tVar 5))))))))))
    tNext)
    (tSeq (tAsg (tC (.int 8)) (gName 4))
    (tSeq (tIfS (tTest (tOp rEq (tVar 3) (tC (.int 3))))
    (tAsg (tCall (spLRange K) [] E0 (tCons (tVar 0) (tCons (tC (.int 1)) (tCons (tC (.int 8)) tNil)))) (gName 4))
    tNext)
    (tSeq (tAsg (tOp rIxS (tVar 1) (tCall (spLTake K) [] E0 (tCons (tVar 0) (tCons (tC (.int 26)) tNil)))) (gName 7))
    (tSeq (tFor (iRng1 (tCons (tOp rSubI (tVar 4) (tC (.int 1))) tNil)) (gName 8)
    (tAsg (tOp rAddStr (tVar 7) (tOp rIxS (tVar 2) (tCall (spLTake K) [] E0 (tCons (tVar 0) (tCons (tC (.int 36)) tNil))))) (gName 7)))
    (tRet (tVar 7)))))))))))))
/-- _law_load_row: slots 0 _law_piece_here, 1 _law_spot, 2 _law_row -/
abbrev nLLoadRow : List Str := ["_law_piece_here", "_law_spot", "_law_row"]
def tLLoadRow (K : PySem.W.Frag) : TS :=
    (tRet (tCB (rTupOf K) (tCons (tLc (iTup K (tOp (rIxT K) (tVar 0) (tC (.int 1)))) (gName 1) tYes (tCB (rLenS K) (tCons (tLc (iList K (tCall (spLLinks K) [] E0 (tCons (tOp (rIxT K) (tVar 0) (tC (.int 0))) tNil))) (gName 2) (tTest (tOp rEq (tOp (rIxT K) (tVar 2) (tC (.int 1))) (tVar 1))) (tVar 2) [2]) tNil)) [1]) tNil)))
/-- _law_flooded: slots 0 _law_piece_here, 1 _law_lit, 2 _law_counts_here, 3 _law_spots, 4 _law_k -/
abbrev nLFlooded : List Str := ["_law_piece_here", "_law_lit", "_law_counts_here", "_law_spots", "_law_k"]
def tLFlooded (K : PySem.W.Frag) : TS :=
    (tSeq (tAsg (tCall (spLCounts K) [] E0 (tCons (tOp (rIxT K) (tVar 0) (tC (.int 0))) tNil)) (gName 2))
    (tSeq (tAsg (tOp (rIxT K) (tOp (rIxT K) (tOp (rIxT K) (tVar 0) (tC (.int 0))) (tC (.int 0))) (tC (.int 0))) (gName 3))
    (tRet (tCall (spLCome K) [] E0 (tCons (tOp (rIxT K) (tVar 0) (tC (.int 0))) (tCons (tOp rCat (tLc (iList K (tVar 1)) (gName 4) tYes (tOp (rIxT K) (tOp (rIxT K) (tVar 0) (tC (.int 1))) (tVar 4)) [4]) (tLc (iRng1 (tCons (tCB (rLenS K) (tCons (tVar 3) tNil)) tNil)) (gName 4) (tTest (tOp rGtI (tOp (rIxL K) (tVar 2) (tVar 4)) (tC (.int 0)))) (tOp (rIxT K) (tVar 3) (tVar 4)) [4])) tNil))))))
/-- _law_lifted: slots 0 _law_piece_here, 1 _law_k, 2 _law_links_here -/
abbrev nLLifted : List Str := ["_law_piece_here", "_law_k", "_law_links_here"]
def tLLifted (K : PySem.W.Frag) : TS :=
    (tSeq (tAsg (tCall (spLLinks K) [] E0 (tCons (tOp (rIxT K) (tVar 0) (tC (.int 0))) tNil)) (gName 2))
    (tSeq (tDrop (tBM K "list" rPopAt (tVar 2) (tCons (tVar 1) tNil)))
    (tRet (tTup (tCons (tCall (spLBuild K) [] E0 (tCons (tOp (rIxT K) (tOp (rIxT K) (tOp (rIxT K) (tVar 0) (tC (.int 0))) (tC (.int 0))) (tC (.int 0))) (tCons (tVar 2) (tCons (tCall (spLPlain K) [] E0 (tCons (tOp (rIxT K) (tVar 0) (tC (.int 0))) tNil)) (tCons (tLst tNil) tNil))))) (tCons (tOp (rIxT K) (tVar 0) (tC (.int 1))) tNil))))))
/-- behaviour: slots 0 piece, 1 lit -/
abbrev nBehaviour : List Str := ["piece", "lit"]
def tBehaviour (K : PySem.W.Frag) : TS :=
    (tRet (tCB (rTupOf K) (tCons (tLc (iList K (tCall (spLitSets K) [] E0 (tCons (tCB (rLenS K) (tCons (tOp (rIxT K) (tVar 0) (tC (.int 1))) tNil)) tNil))) (gName 1) tYes (tCall (spShifts K) [] E0 (tCons (tVar 0) (tCons (tVar 1) tNil))) [1]) tNil)))
/-- _law_new_name: slots 0 _law_store_here, 1 _law_taken, 2 _law_signs, 3 _law_name_here, 4 _law_stem, 5 _law_k -/
abbrev nLNewName : List Str := ["_law_store_here", "_law_taken", "_law_signs", "_law_name_here", "_law_stem", "_law_k"]
def tLNewName (K : PySem.W.Frag) : TS :=
    (tSeq (tAsg (tC (.str "abcdefghijklmnopqrstuvwxyz0123456789")) (gName 2))
    (tSeq (tAsg (tCall (spLName K) [] E0 (tCons (tVar 0) tNil)) (gName 3))
    (tSeq (tAsg (tSl rSlS (tVar 3) tNoPart (tPart (tC (.int 6)))) (gName 4))
    (tSeq (tFor (iRng1 (tCons (tOp rAddI (tCB (rLenS K) (tCons (tVar 1) tNil)) (tC (.int 1))) tNil)) (gName 5)
    (tSeq (tIfS (tTest (tOp (rIn K true) (tVar 3) (tVar 1)))
    (tRet (tVar 3))
    tNext)
    (tAsg (tOp rAddStr (tOp rAddStr (tVar 4) (tOp rIxS (tVar 2) (tOp rModI (tCB rInt1 (tCons (tOp rDivI (tVar 5) (tC (.int 36))) tNil)) (tC (.int 36))))) (tOp rIxS (tVar 2) (tOp rModI (tCB rInt1 (tCons (tVar 5) tNil)) (tC (.int 36))))) (gName 3))))
    (tRet (tVar 3))))))
/-- _law_shift_rows: slots 0 _law_piece_here, 1 _law_lit, 2 _law_world, 3 _law_wet, 4 _law_loose, 5 _law_power, 6 _law_k, 7 _law_lows, 8 _law_old, 9 _law_found, 10 _law_number, 11 _law_points, 12 _law_rest, 13 _law_tails, 14 _law_good, 15 _law_row -/
abbrev nLShiftRows : List Str := ["_law_piece_here", "_law_lit", "_law_world", "_law_wet", "_law_loose", "_law_power", "_law_k", "_law_lows", "_law_old", "_law_found", "_law_number", "_law_points", "_law_rest", "_law_tails", "_law_good", "_law_row"]
def tLShiftRows (K : PySem.W.Frag) : TS :=
    (tSeq (tAsg (tOp (rIxT K) (tVar 0) (tC (.int 0))) (gName 2))
    (tSeq (tAsg (tCall (spLFlooded K) [] E0 (tCons (tVar 0) (tCons (tVar 1) tNil))) (gName 3))
    (tSeq (tAsg (tLc (iRng1 (tCons (tCB (rLenS K) (tCons (tOp (rIxT K) (tVar 2) (tC (.int 1))) tNil)) tNil)) (gName 6) (tAnd (tTest (tOp (rIn K false) (tOp (rIxT K) (tOp (rIxT K) (tOp (rIxT K) (tOp (rIxT K) (tVar 2) (tC (.int 0))) (tC (.int 1))) (tVar 6)) (tC (.int 1))) (tVar 3))) (tTest (tOp (rIn K false) (tOp (rIxT K) (tOp (rIxT K) (tOp (rIxT K) (tOp (rIxT K) (tVar 2) (tC (.int 0))) (tC (.int 1))) (tVar 6)) (tC (.int 2))) (tVar 3)))) (tVar 6) [6]) (gName 4))
    (tSeq (tAsg (tC (.int 1)) (gName 5))
    (tSeq (tFor (iList K (tVar 4)) (gName 6)
    (tAsg (tOp rMulI (tVar 5) (tC (.int 2))) (gName 5)))
    (tSeq (tAsg (tCall (spLDueRow K) [] E0 (tCons (tVar 2) tNil)) (gName 7))
    (tSeq (tAsg (tCall (spLLoadRow K) [] E0 (tCons (tVar 0) tNil)) (gName 8))
    (tSeq (tAsg (tLst tNil) (gName 9))
    (tSeq (tFor (iRng1 (tCons (tVar 5) tNil)) (gName 10)
    (tSeq (tAsg (tCB (rListS K) (tCons (tOp (rIxT K) (tVar 2) (tC (.int 1))) tNil)) (gName 11))
    (tSeq (tAsg (tVar 10) (gName 12))
    (tSeq (tFor (iList K (tVar 4)) (gName 6)
    (tSeq (tAsg (tOp (rIxT K) (tOp (rIxT K) (tOp (rIxT K) (tOp (rIxT K) (tVar 2) (tC (.int 0))) (tC (.int 1))) (tVar 6)) (tOp rAddI (tC (.int 1)) (tOp rModI (tCB rInt1 (tCons (tVar 12) tNil)) (tC (.int 2))))) (gSub (tVar 11) (tVar 6) rSetL))
    (tAsg (tOp rDivI (tVar 12) (tC (.int 2))) (gName 12))))
    (tSeq (tAsg (tLc (iList K (tCall (spLLinks K) [] E0 (tCons (tTup (tCons (tOp (rIxT K) (tVar 2) (tC (.int 0))) (tCons (tVar 11) (tCons (tOp (rIxT K) (tVar 2) (tC (.int 2))) tNil)))) tNil))) (gName 15) tYes (tOp (rIxT K) (tVar 15) (tC (.int 1))) [15]) (gName 13))
    (tSeq (tAsg (tC (.bl true)) (gName 14))
    (tSeq (tFor (iRng1 (tCons (tCB (rLenS K) (tCons (tVar 7) tNil)) tNil)) (gName 6)
    (tIfS (tAnd (tTest (tOp (rIn K true) (tOp (rIxT K) (tOp (rIxT K) (tOp (rIxT K) (tVar 2) (tC (.int 0))) (tC (.int 0))) (tVar 6)) (tOp (rIxT K) (tVar 0) (tC (.int 1))))) (tTest (tOp rLtI (tBM K "list" (rCntS K) (tVar 13) (tCons (tOp (rIxT K) (tOp (rIxT K) (tOp (rIxT K) (tVar 2) (tC (.int 0))) (tC (.int 0))) (tVar 6)) tNil)) (tOp (rIxT K) (tVar 7) (tVar 6)))))
    (tAsg (tC (.bl false)) (gName 14))
    tNext))
    (tSeq (tAsg (tCB (rTupOf K) (tCons (tLc (iRng1 (tCons (tCB (rLenS K) (tCons (tVar 8) tNil)) tNil)) (gName 6) tYes (tOp rSubI (tBM K "list" (rCntS K) (tVar 13) (tCons (tOp (rIxT K) (tOp (rIxT K) (tVar 0) (tC (.int 1))) (tVar 6)) tNil)) (tOp (rIxT K) (tVar 8) (tVar 6))) [6]) tNil)) (gName 15))
    (tIfS (tAnd (tB (tVar 14)) (tTest (tOp (rNotInD K) (tVar 15) (tVar 9))))
    (tDrop (tBM K "list" rAppend (tVar 9) (tCons (tVar 15) tNil)))
    tNext)))))))))
    (tRet (tCB (rTupOf K) (tCons (tCB (rSortedD K) (tCons (tVar 9) tNil)) tNil))))))))))))
/-- are_alike: slots 0 one, 1 other -/
abbrev nAreAlike : List Str := ["one", "other"]
def tAreAlike (K : PySem.W.Frag) : TS :=
    (tSeq (tDrop (tCall (spCheckBorders K) [] E0 (tCons (tVar 0) (tCons (tVar 1) tNil))))
    (tRet (tOp (rEqD K) (tCall (spBehaviour K) [] E0 (tCons (tVar 0) tNil)) (tCall (spBehaviour K) [] E0 (tCons (tVar 1) tNil)))))
/-- needless_way: slots 0 piece, 1 wanted, 2 way, 3 low, 4 high -/
abbrev nNeedlessWay : List Str := ["piece", "wanted", "way", "low", "high"]
def tNeedlessWay (K : PySem.W.Frag) : TS :=
    (tSeq (tAsg (tCall (spBehaviour K) [] E0 (tCons (tVar 0) tNil)) (gName 1))
    (tSeq (tFor (iTup K (tOp (rIxT K) (tOp (rIxT K) (tOp (rIxT K) (tVar 0) (tC (.int 0))) (tC (.int 0))) (tC (.int 1)))) (gTup K 3 (gCons (gName 2) (gCons (gName 3) (gCons (gName 4) gNil))))
    (tIfS (tTest (tOp (rEqD K) (tCall (spBehaviour K) [] E0 (tCons (tCall (spLiftWay K) [] E0 (tCons (tVar 0) (tCons (tVar 2) tNil))) tNil)) (tVar 1)))
    (tRet (tVar 2))
    tNext))
    (tRet (tC .non))))
/-- _law_web: slots 0 _law_store_here, 1 _law_sizes, 2 _law_spots, 3 _law_k, 4 _law_kind, 5 _law_labels, 6 _law_rows, 7 _law_label, 8 _law_low, 9 _law_step, 10 _law_pair -/
abbrev nLWeb : List Str := ["_law_store_here", "_law_sizes", "_law_spots", "_law_k", "_law_kind", "_law_labels", "_law_rows", "_law_label", "_law_low", "_law_step", "_law_pair"]
def tLWeb (K : PySem.W.Frag) : TS :=
    (tSeq (tAsg (tLst tNil) (gName 2))
    (tSeq (tFor (iRng1 (tCons (tCall (spLUpto K) [] E0 (tCons (tVar 0) (tCons (tC (.int 2)) (tCons (tOp (rIxT K) (tVar 1) (tC (.int 0))) tNil)))) tNil)) (gName 3)
    (tDrop (tBM K "list" rAppend (tVar 2) (tCons (tCall (spLNewName K) [] E0 (tCons (tVar 0) (tCons (tVar 2) tNil))) tNil))))
    (tSeq (tAsg (tCB (rSortedD K) (tCons (tVar 2) tNil)) (gName 2))
    (tSeq (tAsg (tCall (spLTake K) [] E0 (tCons (tVar 0) (tCons (tC (.int 6)) tNil))) (gName 4))
    (tSeq (tAsg (tLst tNil) (gName 5))
    (tSeq (tAsg (tLst tNil) (gName 6))
    (tSeq (tFor (iRng1 (tCons (tCall (spLUpto K) [] E0 (tCons (tVar 0) (tCons (tC (.int 0)) (tCons (tOp (rIxT K) (tVar 1) (tC (.int 1))) tNil)))) tNil)) (gName 3)
    (tSeq (tAsg (tCall (spLNewName K) [] E0 (tCons (tVar 0) (tCons (tVar 5) tNil))) (gName 7))
    (tSeq (tDrop (tBM K "list" rAppend (tVar 5) (tCons (tVar 7) tNil)))
    (tSeq (tAsg (tC (.int 0)) (gName 8))
    (tSeq (tAsg (tC (.int 1)) (gName 9))
    (tSeq (tIfS (tTest (tOp rEq (tVar 4) (tC (.int 1))))
    (tAsg (tOp rModI (tCB rInt1 (tCons (tVar 3) tNil)) (tCB (rLenS K) (tCons (tVar 2) tNil))) (gName 8))
    tNext)
    (tSeq (tIfS (tTest (tOp rGtI (tVar 4) (tC (.int 2))))
    (tAsg (tCall (spLTake K) [] E0 (tCons (tVar 0) (tCons (tCB (rLenS K) (tCons (tVar 2) tNil)) tNil))) (gName 8))
    tNext)
    (tSeq (tIfS (tTest (tOp rGtI (tVar 4) (tC (.int 1))))
    (tAsg (tOp rAddI (tC (.int 1)) (tCall (spLTake K) [] E0 (tCons (tVar 0) (tCons (tOp rSubI (tCB (rLenS K) (tCons (tVar 2) tNil)) (tC (.int 1))) tNil)))) (gName 9))
    tNext)
    (tSeq (tAsg (tCB (rSortedD K) (tCons (tLst (tCons (tOp (rIxL K) (tVar 2) (tVar 8)) (tCons (tOp (rIxL K) (tVar 2) (tOp rModI (tCB rInt1 (tCons (tOp rAddI (tVar 8) (tVar 9)) tNil)) (tCB (rLenS K) (tCons (tVar 2) tNil)))) tNil))) tNil)) (gName 10))
    (tDrop (tBM K "list" rAppend (tVar 6) (tCons (tTup (tCons (tVar 7) (tCons (tOp (rIxL K) (tVar 10) (tC (.int 0))) (tCons (tOp (rIxL K) (tVar 10) (tC (.int 1))) tNil)))) tNil))))))))))))
    (tRet (tTup (tCons (tCB (rTupOf K) (tCons (tVar 2) tNil)) (tCons (tCB (rTupOf K) (tCons (tCB (rSortedD K) (tCons (tVar 6) tNil)) tNil)) tNil)))))))))))
/-- _law_behaviour_row: slots 0 _law_piece_here, 1 _law_found, 2 _law_number, 3 _law_lit, 4 _law_k -/
abbrev nLBehaviourRow : List Str := ["_law_piece_here", "_law_found", "_law_number", "_law_lit", "_law_k"]
def tLBehaviourRow (K : PySem.W.Frag) : TS :=
    (tSeq (tAsg (tLst tNil) (gName 1))
    (tSeq (tFor (iRng1 (tCons (tOp (rIxL K) (tLst (tCons (tC (.int 2)) (tCons (tC (.int 4)) (tCons (tC (.int 8)) tNil)))) (tOp rSubI (tCB (rLenS K) (tCons (tOp (rIxT K) (tVar 0) (tC (.int 1))) tNil)) (tC (.int 1)))) tNil)) (gName 2)
    (tSeq (tAsg (tLc (iRng1 (tCons (tCB (rLenS K) (tCons (tOp (rIxT K) (tVar 0) (tC (.int 1))) tNil)) tNil)) (gName 4) (tTest (tOp rEq (tOp rModI (tCB rInt1 (tCons (tOp rDivI (tVar 2) (tOp (rIxL K) (tLst (tCons (tC (.int 1)) (tCons (tC (.int 2)) (tCons (tC (.int 4)) tNil)))) (tVar 4))) tNil)) (tC (.int 2))) (tC (.int 1)))) (tVar 4) [4]) (gName 3))
    (tDrop (tBM K "list" rAppend (tVar 1) (tCons (tCall (spLShiftRows K) [] E0 (tCons (tVar 0) (tCons (tVar 3) tNil))) tNil)))))
    (tRet (tCB (rTupOf K) (tCons (tVar 1) tNil)))))
/-- trim: slots 0 piece, 1 trimmed, 2 way -/
abbrev nTrim : List Str := ["piece", "trimmed", "way"]
def tTrim (K : PySem.W.Frag) : TS :=
    (tSeq (tAsg (tVar 0) (gName 1))
    (tSeq (tAsg (tCall (spNeedlessWay K) [] E0 (tCons (tVar 1) tNil)) (gName 2))
    (tSeq (tWhile (tTest (tOp rNotNone (tVar 2) (tC .non)))
    (tSeq (tAsg (tCall (spLiftWay K) [] E0 (tCons (tVar 1) (tCons (tVar 2) tNil))) (gName 1))
    (tAsg (tCall (spNeedlessWay K) [] E0 (tCons (tVar 1) tNil)) (gName 2))))
    (tRet (tVar 1)))))
/-- _law_piece: slots 0 _law_store_here, 1 _law_many, 2 _law_sizes, 3 _law_web_here, 4 _law_spots, 5 _law_k, 6 _law_border, 7 _law_inner, 8 _law_plain_here, 9 _law_points, 10 _law_rows, 11 _law_spot -/
abbrev nLPiece : List Str := ["_law_store_here", "_law_many", "_law_sizes", "_law_web_here", "_law_spots", "_law_k", "_law_border", "_law_inner", "_law_plain_here", "_law_points", "_law_rows", "_law_spot"]
def tLPiece (K : PySem.W.Frag) : TS :=
    (tSeq (tAsg (tCall (spLWeb K) [] E0 (tCons (tVar 0) (tCons (tTup (tCons (tCB rMax2 (tCons (tC (.int 2)) (tCons (tOp (rIxT K) (tVar 2) (tC (.int 0))) tNil))) (tCons (tCB rMin2 (tCons (tC (.int 6)) (tCons (tOp (rIxT K) (tVar 2) (tC (.int 1))) tNil))) tNil))) tNil))) (gName 3))
    (tSeq (tAsg (tCB (rListS K) (tCons (tOp (rIxT K) (tVar 3) (tC (.int 0))) tNil)) (gName 4))
    (tSeq (tFor (iRng1 (tCons (tOp rSubI (tVar 1) (tCB (rLenS K) (tCons (tOp (rIxT K) (tVar 3) (tC (.int 0))) tNil))) tNil)) (gName 5)
    (tDrop (tBM K "list" rAppend (tVar 4) (tCons (tCall (spLNewName K) [] E0 (tCons (tVar 0) (tCons (tVar 4) tNil))) tNil))))
    (tSeq (tAsg (tTup (tCons (tCB (rTupOf K) (tCons (tCB (rSortedD K) (tCons (tVar 4) tNil)) tNil)) (tCons (tOp (rIxT K) (tVar 3) (tC (.int 1))) tNil))) (gName 3))
    (tSeq (tAsg (tCall (spLSome K) [] E0 (tCons (tVar 0) (tCons (tOp (rIxT K) (tVar 3) (tC (.int 0))) (tCons (tVar 1) tNil)))) (gName 6))
    (tSeq (tAsg (tLc (iTup K (tOp (rIxT K) (tVar 3) (tC (.int 0)))) (gName 11) (tTest (tOp (rIn K true) (tVar 11) (tVar 6))) (tVar 11) [11]) (gName 7))
    (tSeq (tAsg (tLst tNil) (gName 8))
    (tSeq (tFor (iRng1 (tCons (tCall (spLUpto K) [] E0 (tCons (tVar 0) (tCons (tC (.int 0)) (tCons (tOp (rIxT K) (tVar 2) (tC (.int 2))) tNil)))) tNil)) (gName 5)
    (tIfS (tTest (tOp rGtI (tCB (rLenS K) (tCons (tVar 7) tNil)) (tC (.int 0))))
    (tDrop (tBM K "list" rAppend (tVar 8) (tCons (tTup (tCons (tCall (spLOne K) [] E0 (tCons (tVar 0) (tCons (tVar 7) tNil))) (tCons (tC (.int 1)) tNil))) tNil)))
    tNext))
    (tSeq (tAsg (tCall (spLHeads K) [] E0 (tCons (tVar 0) (tCons (tVar 3) tNil))) (gName 9))
    (tSeq (tAsg (tCall (spLLinks K) [] E0 (tCons (tTup (tCons (tVar 3) (tCons (tVar 9) (tCons (tTup tNil) tNil)))) tNil)) (gName 10))
    (tRet (tTup (tCons (tCall (spLBuild K) [] E0 (tCons (tVar 4) (tCons (tVar 10) (tCons (tVar 8) (tCons (tLst tNil) tNil))))) (tCons (tCB (rTupOf K) (tCons (tVar 6) tNil)) tNil))))))))))))))
/-- _law_idle_way: slots 0 _law_piece_here, 1 _law_row, 2 _law_k -/
abbrev nLIdleWay : List Str := ["_law_piece_here", "_law_row", "_law_k"]
def tLIdleWay (K : PySem.W.Frag) : TS :=
    (tSeq (tFor (iRng1 (tCons (tCB (rLenS K) (tCons (tOp (rIxT K) (tOp (rIxT K) (tVar 0) (tC (.int 0))) (tC (.int 1))) tNil)) tNil)) (gName 2)
    (tIfS (tTest (tOp (rEqD K) (tCall (spLBehaviourRow K) [] E0 (tCons (tCall (spLLifted K) [] E0 (tCons (tVar 0) (tCons (tVar 2) tNil))) tNil)) (tVar 1)))
    (tRet (tVar 2))
    tNext))
    (tRet (tC .non)))
/-- _law_trimmed: slots 0 _law_piece_here, 1 _law_row, 2 _law_turn, 3 _law_k -/
abbrev nLTrimmed : List Str := ["_law_piece_here", "_law_row", "_law_turn", "_law_k"]
def tLTrimmed (K : PySem.W.Frag) : TS :=
    (tSeq (tAsg (tCall (spLBehaviourRow K) [] E0 (tCons (tVar 0) tNil)) (gName 1))
    (tSeq (tFor (iRng1 (tCons (tC (.int 6)) tNil)) (gName 2)
    (tSeq (tAsg (tCall (spLIdleWay K) [] E0 (tCons (tVar 0) (tCons (tVar 1) tNil))) (gName 3))
    (tSeq (tIfS (tTest (tOp rIsNone (tVar 3) (tC .non)))
    tBreak
    tNext)
    (tAsg (tCall (spLLifted K) [] E0 (tCons (tVar 0) (tCons (tVar 3) tNil))) (gName 0)))))
    (tRet (tVar 0))))
/-- law: slots 0 _law_script, 1 _law_store_here, 2 _law_many, 3 _law_sizes, 4 _law_piece_here, 5 _law_right, 6 _law_k, 7 _law_less, 8 _law_label, 9 _law_row -/
abbrev nLaw : List Str := ["_law_script", "_law_store_here", "_law_many", "_law_sizes", "_law_piece_here", "_law_right", "_law_k", "_law_less", "_law_label", "_law_row"]
def tLaw (K : PySem.W.Frag) : TS :=
    (tSeq (tAsg (tCall (spLStore K) [] E0 (tCons (tVar 0) tNil)) (gName 1))
    (tSeq (tAsg (tCall (spLRange K) [] E0 (tCons (tVar 1) (tCons (tC (.int 1)) (tCons (tC (.int 3)) tNil)))) (gName 2))
    (tSeq (tAsg (tTup (tCons (tC (.int 4)) (tCons (tOp rSubI (tC (.int 6)) (tVar 2)) (tCons (tC (.int 3)) tNil)))) (gName 3))
    (tSeq (tIfS (tB (tCall (spLSeldom K) [] E0 (tCons (tVar 1) (tCons (tC (.int 12)) tNil))))
    (tSeq (tAsg (tC (.int 1)) (gName 2))
    (tAsg (tTup (tCons (tC (.int 3)) (tCons (tC (.int 6)) (tCons (tC (.int 3)) tNil)))) (gName 3)))
    tNext)
    (tSeq (tAsg (tCall (spLPiece K) [] E0 (tCons (tVar 1) (tCons (tVar 2) (tCons (tVar 3) tNil)))) (gName 4))
    (tSeq (tAsg (tCall (spLTrimmed K) [] E0 (tCons (tVar 4) tNil)) (gName 5))
    (tSeq (tIfS (tOr (tNot (tB (tCall (spLEqual K) [] E0 (tCons (tCall (spTrim K) [] E0 (tCons (tVar 4) tNil)) (tCons (tVar 5) tNil))))) (tNot (tB (tCall (spLEqual K) [] E0 (tCons (tCall (spAreAlike K) [] E0 (tCons (tVar 5) (tCons (tVar 4) tNil))) (tCons (tC (.bl true)) tNil))))))
    (tRet (tC (.bl false)))
    tNext)
    (tSeq (tFor (iRng1 (tCons (tCB (rLenS K) (tCons (tOp (rIxT K) (tOp (rIxT K) (tVar 5) (tC (.int 0))) (tC (.int 1))) tNil)) tNil)) (gName 6)
    (tSeq (tAsg (tCall (spLLifted K) [] E0 (tCons (tVar 5) (tCons (tVar 6) tNil))) (gName 7))
    (tIfS (tOr (tNot (tB (tCall (spLEqual K) [] E0 (tCons (tCall (spLiftWay K) [] E0 (tCons (tVar 5) (tCons (tOp (rIxT K) (tOp (rIxT K) (tOp (rIxT K) (tOp (rIxT K) (tOp (rIxT K) (tVar 5) (tC (.int 0))) (tC (.int 0))) (tC (.int 1))) (tVar 6)) (tC (.int 0))) tNil))) (tCons (tVar 7) tNil))))) (tNot (tB (tCall (spLEqual K) [] E0 (tCons (tCall (spAreAlike K) [] E0 (tCons (tVar 7) (tCons (tVar 5) tNil))) (tCons (tC (.bl false)) tNil))))))
    (tRet (tC (.bl false)))
    tNext)))
    (tSeq (tIfS (tTest (tOp rGtI (tCB (rLenS K) (tCons (tOp (rIxT K) (tOp (rIxT K) (tVar 4) (tC (.int 0))) (tC (.int 1))) tNil)) (tC (.int 0))))
    (tSeq (tAsg (tCall (spLTake K) [] E0 (tCons (tVar 1) (tCons (tCB (rLenS K) (tCons (tOp (rIxT K) (tOp (rIxT K) (tVar 4) (tC (.int 0))) (tC (.int 1))) tNil)) tNil))) (gName 6))
    (tSeq (tAsg (tCall (spLLifted K) [] E0 (tCons (tVar 4) (tCons (tVar 6) tNil))) (gName 7))
    (tSeq (tIfS (tNot (tB (tCall (spLEqual K) [] E0 (tCons (tCall (spLiftWay K) [] E0 (tCons (tVar 4) (tCons (tOp (rIxT K) (tOp (rIxT K) (tOp (rIxT K) (tOp (rIxT K) (tOp (rIxT K) (tVar 4) (tC (.int 0))) (tC (.int 0))) (tC (.int 1))) (tVar 6)) (tC (.int 0))) tNil))) (tCons (tVar 7) tNil)))))
    (tRet (tC (.bl false)))
    tNext)
    (tIfS (tNot (tB (tCall (spLEqual K) [] E0 (tCons (tCall (spAreAlike K) [] E0 (tCons (tVar 4) (tCons (tVar 7) tNil))) (tCons (tOp (rEqD K) (tCall (spLBehaviourRow K) [] E0 (tCons (tVar 4) tNil)) (tCall (spLBehaviourRow K) [] E0 (tCons (tVar 7) tNil))) tNil)))))
    (tRet (tC (.bl false)))
    tNext))))
    tNext)
    (tSeq (tAsg (tCall (spLOne K) [] E0 (tCons (tVar 1) (tCons (tLst (tCons (tCall (spLName K) [] E0 (tCons (tVar 1) tNil)) (tCons (tC (.str "")) (tCons (tC (.str "A b")) (tCons (tOp (rIxT K) (tOp (rIxT K) (tVar 4) (tC (.int 1))) (tC (.int 0))) tNil))))) tNil))) (gName 8))
    (tSeq (tIfS (tTest (tOp (rIn K true) (tVar 8) (tLc (iTup K (tOp (rIxT K) (tOp (rIxT K) (tOp (rIxT K) (tVar 4) (tC (.int 0))) (tC (.int 0))) (tC (.int 1)))) (gName 9) tYes (tOp (rIxT K) (tVar 9) (tC (.int 0))) [9])))
    (tIfS (tNot (tB (tCall (spLEqual K) [] E0 (tCons (tCall (spLRefused K) [] E0 (tCons (tVar 4) (tCons (tVar 8) tNil))) (tCons (tTup (tCons (tC (.str "Unknown")) (tCons (tC (.str "way")) (tCons (tVar 8) tNil)))) tNil)))))
    (tRet (tC (.bl false)))
    tNext)
    tNext)
    (tRet (tAndV (tCall (spLEqual K) [] E0 (tCons (tCall (spTrim K) [] E0 (tCons (tVar 5) tNil)) (tCons (tVar 5) tNil))) (tCall (spLEqual K) [] E0 (tCons (tCall (spTrim K) [] E0 (tCons (tVar 4) tNil)) (tCons (tVar 5) tNil))))))))))))))))
end Tb
set_option Elab.async false
set_option linter.all false
set_option maxRecDepth 100000
set_option maxHeartbeats 4000000
/-! Evaluation to deep data: what a reading yields, as PyData, in every extension of the heap. -/
namespace Tb
open PySem PySem.Spec PyProof.Rows L2 Evl
/-! ### heaps -/
mutual
theorem dp_ex {K : PySem.W.Frag} {H H' : Hp} (e : Ex H H') : ∀ {v : V} {d : PyData}, Dp K H v d → Dp K H' v d
  | _, _, .non => .non
  | _, _, .bl b => .bl b
  | _, _, .int i => .int i
  | _, _, .str x => .str x
  | _, _, .lst h1 h2 => .lst (ex_l e h1) (dps_ex e h2)
  | _, _, .tup h1 h2 => .tup (ex_t e h1) (dps_ex e h2)
theorem dps_ex {K : PySem.W.Frag} {H H' : Hp} (e : Ex H H') : ∀ {vs : List V} {ds : List PyData}, DpAll K H vs ds → DpAll K H' vs ds
  | _, _, .nil => .nil
  | _, _, .cons h1 h2 => .cons (dp_ex e h1) (dps_ex e h2)
end
/-- the tuples stand -/
def TX (H H' : Hp) : Prop := (∀ a xs, H a = some (.tup xs) → H' a = some (.tup xs)) ∧ ∀ a o xs, H a = some (.frz o (.tup xs)) → H' a = some (.frz o (.tup xs))
theorem TX.refl (H : Hp) : TX H H := ⟨fun _ _ h => h, fun _ _ _ h => h⟩
theorem TX.trans {H H1 H2 : Hp} (a : TX H H1) (b : TX H1 H2) : TX H H2 := ⟨fun x xs h => b.1 x xs (a.1 x xs h), fun x o xs h => b.2 x o xs (a.2 x o xs h)⟩
theorem TX.of {H H' : Hp} (e : Ex H H') : TX H H' := ⟨fun a xs h => e a _ h, fun a o xs h => e a _ h⟩
theorem TX.put {H : Hp} {l : Addr} {u o : HO} (h : H l = some u) (m : Mut (some u)) : TX H (upd H l o) :=
  ⟨fun a xs e => by rw [upd_ne (ne_of e h fun z => by rw [← z] at m; exact m)]; exact e, fun a ob xs e => by rw [upd_ne (ne_of e h fun z => by rw [← z] at m; exact m)]; exact e⟩
theorem TX.updL {H : Hp} {l : Addr} {xs : List V} {o : HO} (h : H l = some (.lst xs)) : TX H (upd H l o) := TX.put h trivial
/-- data of tuples and flat things -/
def Tp : PyData → Bool
  | .none => true
  | .bool _ => true
  | .int _ => true
  | .str _ => true
  | .tuple xs => all xs
  | _ => false
where all : List PyData → Bool
  | [] => true
  | x :: r => Tp x && all r
theorem tp_cons {d : PyData} {ds : List PyData} : Tp.all (d :: ds) = true ↔ Tp d = true ∧ Tp.all ds = true := by
  show (Tp d && Tp.all ds) = true ↔ _
  rw [Bool.and_eq_true]
theorem tp_tup {ds : List PyData} : Tp (.tuple ds) = Tp.all ds := rfl
theorem tp_map {α : Type} {f : α → PyData} (h : ∀ a, Tp (f a) = true) : ∀ l : List α, Tp.all (l.map f) = true
  | [] => rfl
  | a :: l => tp_cons.mpr ⟨h a, tp_map h l⟩
theorem tp_mem {ds : List PyData} (h : Tp.all ds = true) : ∀ d ∈ ds, Tp d = true := by
  induction ds with
  | nil => intro d hd; cases hd
  | cons x r ih =>
    obtain ⟨h1, h2⟩ := tp_cons.mp h
    intro d hd
    rcases List.mem_cons.mp hd with e | e
    · rw [e]; exact h1
    · exact ih h2 d e
mutual
theorem dp_tx {K : PySem.W.Frag} {H H' : Hp} (e : TX H H') : ∀ {v : V} {d : PyData}, Dp K H v d → Tp d = true → Dp K H' v d
  | _, _, .non, _ => .non
  | _, _, .bl b, _ => .bl b
  | _, _, .int i, _ => .int i
  | _, _, .str x, _ => .str x
  | _, _, .lst _ _, h => by cases h
  | _, _, .tup h1 h2, h => .tup (by
      rcases h1 with (h1 | ⟨o, h1⟩) | h1
      · exact .inl (.inl (e.1 _ _ h1))
      · exact .inl (.inr ⟨o, e.2 _ _ _ h1⟩)
      · exact .inr h1) (dps_tx e h2 h)
theorem dps_tx {K : PySem.W.Frag} {H H' : Hp} (e : TX H H') : ∀ {vs : List V} {ds : List PyData}, DpAll K H vs ds → Tp.all ds = true → DpAll K H' vs ds
  | _, _, .nil, _ => .nil
  | _, _, .cons h1 h2, h => .cons (dp_tx e h1 (tp_cons.mp h).1) (dps_tx e h2 (tp_cons.mp h).2)
end
section
variable {K : PySem.W.Frag} {H H' : Hp} {v : V} {vs : List V} {d : PyData} {ds : List PyData}
theorem dp_int {i : Int} (h : Dp K H v (.int i)) : v = .int i := by cases h; rfl
theorem dp_str {x : Str} (h : Dp K H v (.str x)) : v = .str x := by cases h; rfl
theorem dp_bool {b : Bool} (h : Dp K H v (.bool b)) : v = .bl b := by cases h; rfl
theorem dp_none (h : Dp K H v .none) : v = .non := by cases h; rfl
theorem dp_tup (h : Dp K H v (.tuple ds)) : ∃ a xs, v = .ref a ∧ SqT K H a xs ∧ DpAll K H xs ds := by cases h with | tup h1 h2 => exact ⟨_, _, rfl, h1, h2⟩
theorem dp_lst (h : Dp K H v (.list ds)) : ∃ a xs, v = .ref a ∧ SqL K H a xs ∧ DpAll K H xs ds := by cases h with | lst h1 h2 => exact ⟨_, _, rfl, h1, h2⟩
theorem dps_get : ∀ {vs : List V} {ds : List PyData} {i : Nat} {d : PyData}, DpAll K H vs ds → ds[i]? = some d → ∃ v, vs[i]? = some v ∧ Dp K H v d
  | _, _, _, _, .nil, e => by simp at e
  | _, _, 0, _, .cons h _, e => by simp at e; subst e; exact ⟨_, rfl, h⟩
  | _, _, i + 1, _, .cons _ t, e => by
    obtain ⟨v, h1, h2⟩ := dps_get (i := i) t (by simpa using e)
    exact ⟨v, by simpa using h1, h2⟩
theorem dps_get' {vs : List V} {ds : List PyData} {i : Nat} {v : V} (h : DpAll K H vs ds) (e : vs[i]? = some v) : ∃ d, ds[i]? = some d ∧ Dp K H v d := by
  have hi := (List.getElem?_eq_some_iff.mp e).1
  have hl := dp_len h
  obtain ⟨w, h1, h2⟩ := dps_get (i := i) h (List.getElem?_eq_getElem (by omega))
  rw [e] at h1
  cases h1
  exact ⟨_, List.getElem?_eq_getElem (by omega), h2⟩
theorem dps_app : ∀ {vs : List V} {ds : List PyData} {v : V} {d : PyData}, DpAll K H vs ds → Dp K H v d → DpAll K H (vs ++ [v]) (ds ++ [d])
  | _, _, _, _, .nil, h => .cons h .nil
  | _, _, _, _, .cons h t, h2 => .cons h (dps_app t h2)
theorem dps_cat : ∀ {vs ws : List V} {ds es : List PyData}, DpAll K H vs ds → DpAll K H ws es → DpAll K H (vs ++ ws) (ds ++ es)
  | _, _, _, _, .nil, h => h
  | _, _, _, _, .cons h t, h2 => .cons h (dps_cat t h2)
theorem dps_strs : ∀ {vs : List V} {xs : List Str}, DpAll K H vs (xs.map .str) → vs = xs.map .str
  | _, [], h => by cases h; rfl
  | _, x :: xs, h => by
    cases h with
    | cons h1 h2 => rw [dp_str h1, dps_strs h2]; rfl
theorem dps_ints : ∀ {vs : List V} {xs : List Int}, DpAll K H vs (xs.map .int) → vs = xs.map .int
  | _, [], h => by cases h; rfl
  | _, x :: xs, h => by
    cases h with
    | cons h1 h2 => rw [dp_int h1, dps_ints h2]; rfl
theorem dps_of_strs : ∀ xs : List Str, DpAll K H (xs.map V.str) (xs.map .str)
  | [] => .nil
  | x :: xs => .cons (.str x) (dps_of_strs xs)
theorem dp1 (h : DpAll K H vs [d]) : ∃ v, vs = [v] ∧ Dp K H v d := by
  cases h with
  | cons h1 h2 => cases h2; exact ⟨_, rfl, h1⟩
theorem dp2 {e : PyData} (h : DpAll K H vs [d, e]) : ∃ v w, vs = [v, w] ∧ Dp K H v d ∧ Dp K H w e := by
  cases h with
  | cons h1 h2 =>
    obtain ⟨w, rfl, h3⟩ := dp1 h2
    exact ⟨_, _, rfl, h1, h3⟩
theorem dp3 {e f : PyData} (h : DpAll K H vs [d, e, f]) : ∃ v w u, vs = [v, w, u] ∧ Dp K H v d ∧ Dp K H w e ∧ Dp K H u f := by
  cases h with
  | cons h1 h2 =>
    obtain ⟨w, u, rfl, h3, h4⟩ := dp2 h2
    exact ⟨_, _, _, rfl, h1, h3, h4⟩
end
theorem ex_keep {H0 H : Hp} {l : Addr} {o : HO} (e : Ex H0 H) (h : H0 l = none) : Ex H0 (upd H l o) := Ex.mut e h
theorem tp_str {x : Str} : Tp (.str x) = true := rfl
theorem tp_int {i : Int} : Tp (.int i) = true := rfl
theorem tp_ns (l : List Nm) : Tp (nsD l) = true := tp_map (fun _ => rfl) l
theorem tp_row (l : List Int) : Tp (rowD l) = true := tp_map (fun _ => rfl) l
theorem tp_way (w : Wy) : Tp (wayD w) = true := rfl
theorem tp_pair (w : Nm × Nm) : Tp (pairD w) = true := rfl
theorem tp_cnt (w : Nm × Int) : Tp (cntD w) = true := rfl
theorem tp_rows (l : List (List Int)) : Tp (rowsD l) = true := tp_map tp_row l
theorem tp_beh (l : List (List (List Int))) : Tp (behD l) = true := tp_map tp_rows l
theorem tp_web (p : List Nm) (w : List Wy) : Tp (webD p w) = true := tp_cons.mpr ⟨tp_ns p, tp_cons.mpr ⟨tp_map tp_way w, rfl⟩⟩
theorem tp_cr (n : Int) : Tp (crD n) = true := rfl
theorem tp_world (W : Wd) : Tp (worldD W) = true := tp_cons.mpr ⟨tp_web _ _, tp_cons.mpr ⟨tp_ns _, tp_cons.mpr ⟨tp_map tp_cr _, rfl⟩⟩⟩
theorem tp_piece (p : Pc) : Tp (pieceD p) = true := tp_cons.mpr ⟨tp_world _, tp_cons.mpr ⟨tp_ns _, rfl⟩⟩

/-! ### what evaluates to what data -/
def EvD (K : PySem.W.Frag) (te : TE) (σ : L2.St) (H : Hp) (d : PyData) : Prop := ∀ H1, Ex H H1 → ∀ Q : VK, (∀ v H2, Ex H1 H2 → Dp K H2 v d → Q v H2) → te σ H1 Q
def EvDs (K : PySem.W.Frag) (ta : TA) (σ : L2.St) (H : Hp) (ds : List PyData) : Prop := ∀ H1, Ex H H1 → ∀ Q : List V → Hp → Prop, (∀ vs H2, Ex H1 H2 → DpAll K H2 vs ds → Q vs H2) → ta σ H1 Q
/-- a new list -/
def EvN (K : PySem.W.Frag) (te : TE) (σ : L2.St) (H : Hp) (ds : List PyData) : Prop := ∀ H1, Ex H H1 → ∀ Q : VK, (∀ p vs H2, Ex H1 H2 → H1 p = none → H2 p = some (.lst vs) → DpAll K H2 vs ds → Q (.ref p) H2) → te σ H1 Q
/-- a value that stands at H already -/
def EvP (K : PySem.W.Frag) (te : TE) (σ : L2.St) (H : Hp) (d : PyData) : Prop := ∃ v, Dp K H v d ∧ Ev te σ H v
section
variable {K : PySem.W.Frag} {σ : L2.St} {H H' : Hp} {ta tb te tx tl : TE} {tas tr : TA} {t u : TT} {x y z v : V} {d e : PyData} {ds es : List PyData}
theorem EvD.mono (e : Ex H H') (h : EvD K te σ H d) : EvD K te σ H' d := fun H1 a Q q => h H1 (e.trans a) Q q
theorem EvDs.mono (e : Ex H H') (h : EvDs K tas σ H ds) : EvDs K tas σ H' ds := fun H1 a Q q => h H1 (e.trans a) Q q
theorem EvN.mono (e : Ex H H') (h : EvN K te σ H ds) : EvN K te σ H' ds := fun H1 a Q q => h H1 (e.trans a) Q q
theorem EvP.mono (e : Ex H H') (h : EvP K te σ H d) : EvP K te σ H' d := let ⟨v, h1, h2⟩ := h; ⟨v, dp_ex e h1, h2.mono e⟩
theorem ep_var {i : Nat} (h : σ[i]? = some (some v)) (hd : Dp K H v d) : EvP K (tVar i) σ H d := ⟨v, hd, ev_var h⟩
theorem EvP.toD (h : EvP K te σ H d) : EvD K te σ H d := fun H1 a Q q => by
  obtain ⟨v, h1, h2⟩ := h
  exact h2 H1 a Q fun H2 b => q v H2 b (dp_ex (a.trans b) h1)
theorem ed_var {i : Nat} (h : σ[i]? = some (some v)) (hd : Dp K H v d) : EvD K (tVar i) σ H d := (ep_var h hd).toD
theorem ed_ev (h : Ev te σ H v) (hd : Dp K H v d) : EvD K te σ H d := EvP.toD ⟨v, hd, h⟩
theorem ed_int {i : Int} (h : Ev te σ H (.int i)) : EvD K te σ H (.int i) := ed_ev h (.int i)
theorem ed_str {i : Str} (h : Ev te σ H (.str i)) : EvD K te σ H (.str i) := ed_ev h (.str i)
theorem ed_bl {b : Bool} (h : Ev te σ H (.bl b)) : EvD K te σ H (.bool b) := ed_ev h (.bl b)
theorem ei {i : Int} (h : EvD K te σ H (.int i)) : Ev te σ H (.int i) := fun H1 a Q q => h H1 a Q fun v H2 b hd => by rw [dp_int hd]; exact q H2 b
theorem es_ {i : Str} (h : EvD K te σ H (.str i)) : Ev te σ H (.str i) := fun H1 a Q q => h H1 a Q fun v H2 b hd => by rw [dp_str hd]; exact q H2 b
theorem eb {b : Bool} (h : EvD K te σ H (.bool b)) : Ev te σ H (.bl b) := fun H1 a Q q => h H1 a Q fun v H2 c hd => by rw [dp_bool hd]; exact q H2 c
theorem en (h : EvD K te σ H .none) : Ev te σ H .non := fun H1 a Q q => h H1 a Q fun v H2 c hd => by rw [dp_none hd]; exact q H2 c
theorem eds_nil : EvDs K tNil σ H [] := fun H1 _ Q q => q [] H1 (Ex.refl H1) .nil
theorem eds_cons (h : EvD K ta σ H d) (h2 : EvDs K tr σ H ds) : EvDs K (tCons ta tr) σ H (d :: ds) := fun H1 a Q q =>
  h H1 a _ fun v H2 b hv => h2 H2 (a.trans b) _ fun vs H3 c hvs => q (v :: vs) H3 (b.trans c) (.cons (dp_ex c hv) hvs)
theorem eds1 (h : EvD K ta σ H d) : EvDs K (tCons ta tNil) σ H [d] := eds_cons h eds_nil
theorem eds2 (h : EvD K ta σ H d) (h2 : EvD K tb σ H e) : EvDs K (tCons ta (tCons tb tNil)) σ H [d, e] := eds_cons h (eds1 h2)
theorem ed_tup (h : EvDs K tas σ H ds) (hz : ds.length ≤ 100000 := by (simp only [List.length_cons, List.length_nil]; omega)) : EvD K (tTup tas) σ H (.tuple ds) := fun H1 a Q q =>
  h H1 a _ fun vs H2 b hv => ⟨sz_of (by rw [dp_len hv]; exact hz), fun p hp => q (.ref p) _ (b.trans (Ex.new hp)) (.tup (st_of upd_same) (dps_ex (Ex.new hp) hv))⟩
theorem en_lst (h : EvDs K tas σ H ds) (hz : ds.length ≤ 100000 := by (simp only [List.length_cons, List.length_nil]; omega)) : EvN K (tLst tas) σ H ds := fun H1 a Q q =>
  h H1 a _ fun vs H2 b hv => ⟨sz_of (by rw [dp_len hv]; exact hz), fun p hp => q p vs _ (b.trans (Ex.new hp)) (fresh_back b hp) upd_same (dps_ex (Ex.new hp) hv)⟩
theorem EvN.toD (h : EvN K te σ H ds) : EvD K te σ H (.list ds) := fun H1 a Q q => h H1 a Q fun p vs H2 b _ hp hv => q (.ref p) H2 b (.lst (sq_of hp) hv)
theorem at_nat {α : Type} {xs : List α} {k : Nat} {y : α} (h : xs[k]? = some y) : atI xs (k : Int) = some y := atI_nat h
theorem ep_ixT {k : Nat} (h : EvP K ta σ H (.tuple ds)) (hi : Ev tb σ H (.int k)) (hk : ds[k]? = some d) : EvP K (tOp (rIxT K) ta tb) σ H d := by
  obtain ⟨v, h1, h2⟩ := h
  obtain ⟨a, xs, rfl, hs, hd⟩ := dp_tup h1
  obtain ⟨y, hy, hyd⟩ := dps_get (i := k) hd hk
  exact ⟨y, hyd, ev_op h2 hi (rv_ixT hs (at_nat hy))⟩
theorem ed_ixT {k : Nat} (h : EvD K ta σ H (.tuple ds)) (hi : Ev tb σ H (.int k)) (hk : ds[k]? = some d) : EvD K (tOp (rIxT K) ta tb) σ H d := fun H1 a Q q =>
  h H1 a _ fun v H2 b hv => hi H2 (a.trans b) _ fun H3 c => by
    obtain ⟨p, xs, rfl, hs, hd⟩ := dp_tup hv
    obtain ⟨y, hy, hyd⟩ := dps_get (i := k) hd hk
    exact ⟨p, xs, k, y, rfl, rfl, ex_t c hs, at_nat hy, q y H3 (b.trans c) (dp_ex c hyd)⟩
theorem ep_ixL {k : Nat} (h : EvP K ta σ H (.list ds)) (hi : Ev tb σ H (.int k)) (hk : ds[k]? = some d) : EvP K (tOp (rIxL K) ta tb) σ H d := by
  obtain ⟨v, h1, h2⟩ := h
  obtain ⟨a, xs, rfl, hs, hd⟩ := dp_lst h1
  obtain ⟨y, hy, hyd⟩ := dps_get (i := k) hd hk
  exact ⟨y, hyd, ev_op h2 hi (rv_ixL hs (at_nat hy))⟩
theorem ed_ixL {k : Nat} (h : EvD K ta σ H (.list ds)) (hi : Ev tb σ H (.int k)) (hk : ds[k]? = some d) : EvD K (tOp (rIxL K) ta tb) σ H d := fun H1 a Q q =>
  h H1 a _ fun v H2 b hv => hi H2 (a.trans b) _ fun H3 c => by
    obtain ⟨p, xs, rfl, hs, hd⟩ := dp_lst hv
    obtain ⟨y, hy, hyd⟩ := dps_get (i := k) hd hk
    exact ⟨p, xs, k, y, rfl, rfl, ex_l c hs, at_nat hy, q y H3 (b.trans c) (dp_ex c hyd)⟩
theorem ed_ixQ {k : Nat} (h : EvD K ta σ H e) (he : e = .tuple ds ∨ e = .list ds) (hi : Ev tb σ H (.int k)) (hk : ds[k]? = some d) : EvD K (tOp (rIx K) ta tb) σ H d := fun H1 a Q q =>
  h H1 a _ fun v H2 b hv => hi H2 (a.trans b) _ fun H3 c => by
    rcases he with rfl | rfl
    · obtain ⟨p, xs, rfl, hs, hd⟩ := dp_tup hv
      obtain ⟨y, hy, hyd⟩ := dps_get (i := k) hd hk
      exact .inr (.inl ⟨p, xs, k, y, rfl, rfl, ex_t c hs, at_nat hy, q y H3 (b.trans c) (dp_ex c hyd)⟩)
    · obtain ⟨p, xs, rfl, hs, hd⟩ := dp_lst hv
      obtain ⟨y, hy, hyd⟩ := dps_get (i := k) hd hk
      exact .inl ⟨p, xs, k, y, rfl, rfl, ex_l c hs, at_nat hy, q y H3 (b.trans c) (dp_ex c hyd)⟩
theorem ed_len (h : EvD K ta σ H e) (he : e = .tuple ds ∨ e = .list ds) : Ev (tCB (rLenS K) (tCons ta tNil)) σ H (.int (ds.length : Nat)) := fun H1 a Q q =>
  h H1 a _ fun v H2 b hv => by
    rcases he with rfl | rfl
    · obtain ⟨p, xs, rfl, hs, hd⟩ := dp_tup hv
      refine ⟨p, xs, rfl, .inr hs, ?_⟩
      rw [dp_len hd]
      exact q H2 b
    · obtain ⟨p, xs, rfl, hs, hd⟩ := dp_lst hv
      refine ⟨p, xs, rfl, .inl hs, ?_⟩
      rw [dp_len hd]
      exact q H2 b
theorem ed_lenT (h : EvD K ta σ H (.tuple ds)) : Ev (tCB (rLenS K) (tCons ta tNil)) σ H (.int (ds.length : Nat)) := ed_len h (.inl rfl)
theorem ed_lenL (h : EvD K ta σ H (.list ds)) : Ev (tCB (rLenS K) (tCons ta tNil)) σ H (.int (ds.length : Nat)) := ed_len h (.inr rfl)
theorem ed_tupOf (h : EvN K ta σ H ds) : EvD K (tCB (rTupOf K) (tCons ta tNil)) σ H (.tuple ds) := fun H1 a Q q =>
  h H1 a _ fun p vs H2 b _ hp hv => ⟨p, vs, rfl, .inl ⟨sq_of hp, fun l hl => q (.ref l) _ (b.trans (Ex.new hl)) (.tup (st_of upd_same) (dps_ex (Ex.new hl) hv))⟩⟩
theorem ed_tupOfL (h : EvD K ta σ H (.list ds)) : EvD K (tCB (rTupOf K) (tCons ta tNil)) σ H (.tuple ds) := fun H1 a Q q =>
  h H1 a _ fun v H2 b hv => by
    obtain ⟨p, xs, rfl, hs, hd⟩ := dp_lst hv
    exact ⟨p, xs, rfl, .inl ⟨hs, fun l hl => q (.ref l) _ (b.trans (Ex.new hl)) (.tup (st_of upd_same) (dps_ex (Ex.new hl) hd))⟩⟩
theorem en_listT (h : EvD K ta σ H (.tuple ds)) : EvN K (tCB (rListS K) (tCons ta tNil)) σ H ds := fun H1 a Q q =>
  h H1 a _ fun v H2 b hv => by
    obtain ⟨p, xs, rfl, hs, hd⟩ := dp_tup hv
    exact ⟨p, xs, rfl, .inr hs, fun l hl => q l xs _ (b.trans (Ex.new hl)) (fresh_back b hl) upd_same (dps_ex (Ex.new hl) hd)⟩
theorem en_sorted (h : EvD K ta σ H e) (he : e = .tuple ds ∨ e = .list ds) (S : SortOk ds) : EvN K (tCB (rSortedD K) (tCons ta tNil)) σ H (srtD ds) := fun H1 a Q q =>
  h H1 a _ fun v H2 b hv => by
    rcases he with rfl | rfl
    · obtain ⟨p, xs, rfl, hs, hd⟩ := dp_tup hv
      exact ⟨p, xs, ds, rfl, .inr hs, hd, S, fun l ys hl hy => q l ys _ (b.trans (Ex.new hl)) (fresh_back b hl) upd_same (dps_ex (Ex.new hl) hy)⟩
    · obtain ⟨p, xs, rfl, hs, hd⟩ := dp_lst hv
      exact ⟨p, xs, ds, rfl, .inl hs, hd, S, fun l ys hl hy => q l ys _ (b.trans (Ex.new hl)) (fresh_back b hl) upd_same (dps_ex (Ex.new hl) hy)⟩
theorem en_sortedL (h : EvD K ta σ H (.list ds)) (S : SortOk ds) : EvN K (tCB (rSortedD K) (tCons ta tNil)) σ H (srtD ds) := en_sorted h (.inr rfl) S
theorem en_cat (h : EvN K ta σ H ds) (h2 : EvN K tb σ H es) (hz : ds.length + es.length ≤ 100000) : EvN K (tOp rCat ta tb) σ H (ds ++ es) := fun H1 a Q q =>
  h H1 a _ fun p vs H2 b _ hp hv => h2 H2 (a.trans b) _ fun p2 ws H3 c _ hp2 hw =>
    ⟨p, p2, vs, ws, rfl, rfl, c p _ hp, hp2, sz_of (by rw [dp_len hv, dp_len hw]; exact hz), fun l hl => q l _ _ ((b.trans c).trans (Ex.new hl)) (fresh_back (b.trans c) hl) upd_same (dps_ex (Ex.new hl) (dps_cat (dps_ex c hv) hw))⟩
/-- the first list stands already -/
theorem en_catV {p : Addr} {vs : List V} (h : Ev ta σ H (.ref p)) (hp : H p = some (.lst vs)) (hv : DpAll K H vs ds) (h2 : EvN K tb σ H es) (hz : ds.length + es.length ≤ 100000) : EvN K (tOp rCat ta tb) σ H (ds ++ es) := fun H1 a Q q =>
  h H1 a _ fun H2 b => h2 H2 (a.trans b) _ fun p2 ws H3 c _ hp2 hw =>
    ⟨p, p2, vs, ws, rfl, rfl, ((a.trans b).trans c) p _ hp, hp2, sz_of (by rw [dp_len hv, dp_len hw]; exact hz), fun l hl => q l _ _ ((b.trans c).trans (Ex.new hl)) (fresh_back (b.trans c) hl) upd_same (dps_ex (Ex.new hl) (dps_cat (dps_ex ((a.trans b).trans c) hv) hw))⟩
theorem ed_catT (h : EvD K ta σ H (.tuple ds)) (h2 : EvD K tb σ H (.tuple es)) (hz : ds.length + es.length ≤ 100000) : EvD K (tOp (rCatA K) ta tb) σ H (.tuple (ds ++ es)) := fun H1 a Q q =>
  h H1 a _ fun v H2 b hv => h2 H2 (a.trans b) _ fun w H3 c hw => by
    obtain ⟨p, xs, rfl, hs, hd⟩ := dp_tup hv
    obtain ⟨p2, ys, rfl, hs2, hd2⟩ := dp_tup hw
    have hd3 := dps_ex c hd
    refine ⟨p, p2, xs, ys, rfl, rfl, ex_t c hs, hs2, sz_of (by rw [dp_len hd, dp_len hd2]; exact hz), fun ex => ?_, fun _ ey => ?_, fun _ _ l hl => ?_⟩
    · subst ex
      cases hd
      exact q _ H3 (b.trans c) hw
    · subst ey
      cases hd2
      exact q _ H3 (b.trans c) (by rw [List.append_nil]; exact .tup (ex_t c hs) hd3)
    · exact q _ _ ((b.trans c).trans (Ex.new hl)) (.tup (st_of upd_same) (dps_ex (Ex.new hl) (dps_cat hd3 hd2)))
theorem ed_if {b : Bool} (h : EvT t σ H b) (h1 : b = true → EvD K ta σ H d) (h2 : b = false → EvD K tb σ H d) : EvD K (tIf t ta tb) σ H d := fun H1 a Q q => h H1 a _ fun H2 c => by
  cases b with
  | true => exact h1 rfl H2 (a.trans c) Q fun v H3 f hd => q v H3 (c.trans f) hd
  | false => exact h2 rfl H2 (a.trans c) Q fun v H3 f hd => q v H3 (c.trans f) hd
theorem ed_call {sp : Sp} {E : XK} (h : EvDs K tas σ H ds) (hs : ∀ vs H1, Ex H H1 → DpAll K H1 vs ds → ∀ Q E, RetD K d H1 Q → sp vs H1 Q E) : EvD K (tCall sp [] E tas) σ H d := fun H1 a Q q =>
  h H1 a _ fun vs H2 b hv => by
    show sp (vs ++ []) H2 Q E
    rw [List.append_nil]
    exact hs vs H2 (a.trans b) hv Q E fun v H3 c hd => q v H3 (b.trans c) hd
theorem en_call {sp : Sp} {E : XK} (h : EvDs K tas σ H ds) (hs : ∀ vs H1, Ex H H1 → DpAll K H1 vs ds → ∀ Q E, RetLs K es H1 Q → sp vs H1 Q E) : EvN K (tCall sp [] E tas) σ H es := fun H1 a Q q =>
  h H1 a _ fun vs H2 b hv => by
    show sp (vs ++ []) H2 Q E
    rw [List.append_nil]
    exact hs vs H2 (a.trans b) hv Q E fun p ws H3 c hn hp hd => q p ws H3 (b.trans c) (fresh_back b hn) hp hd
/-- a new dict -/
def EvK (te : TE) (σ : L2.St) (H : Hp) (kvs : List (Key × V)) : Prop := ∀ H1, Ex H H1 → ∀ Q : VK, (∀ p H2, Ex H1 H2 → H1 p = none → H2 p = some (.dK kvs) → Q (.ref p) H2) → te σ H1 Q
theorem ek_call {sp : Sp} {E : XK} {kvs : List (Key × V)} (h : EvDs K tas σ H ds) (hs : ∀ vs H1, Ex H H1 → DpAll K H1 vs ds → ∀ Q E, RetK kvs H1 Q → sp vs H1 Q E) : EvK (tCall sp [] E tas) σ H kvs := fun H1 a Q q =>
  h H1 a _ fun vs H2 b hv => by
    show sp (vs ++ []) H2 Q E
    rw [List.append_nil]
    exact hs vs H2 (a.trans b) hv Q E fun p H3 c hn hp => q p H3 (b.trans c) (fresh_back b hn) hp
theorem ev_dget {a : Addr} {kvs : List (Key × V)} {k : Key} (hd : Ev ta σ H (.ref a)) (ha : Rd H a (.dK kvs)) (hk : Ev tb σ H (kV k)) (hv : valV kvs k = some v) : Ev (tDGet ta tb) σ H v := fun H1 e Q q =>
  hd H1 e _ fun H2 b => hk H2 (e.trans b) _ fun H3 c => ⟨a, v, rfl, .inl ⟨kvs, k, ex_rd ((e.trans b).trans c) ha, rfl, hv.symm⟩, q H3 (b.trans c)⟩
theorem eds_ev {vs : List V} (h : EvA tas σ H vs) (hd : DpAll K H vs ds) : EvDs K tas σ H ds := fun H1 a Q q => h H1 a _ fun H2 b => q vs H2 b (dps_ex (a.trans b) hd)

/-! ### statements -/
variable {D : Ends} {tu tw tz : TS} {g : TG}
theorem s_asgD {i : Nat} (h : EvD K te σ H d) (k : ∀ v H1, Ex H H1 → Dp K H1 v d → D.nx (σ.set i (some v)) H1) : tAsg te (gName i) D σ H := h H (Ex.refl H) _ k
theorem q_asgD {i : Nat} (h : EvD K te σ H d) (k : ∀ v H1, Ex H H1 → Dp K H1 v d → tz D (σ.set i (some v)) H1) : tSeq (tAsg te (gName i)) tz D σ H := s_asgD (D := { D with nx := tz D }) h k
theorem q_asgN {i : Nat} (h : EvN K te σ H ds) (k : ∀ p vs H1, Ex H H1 → H p = none → H1 p = some (.lst vs) → DpAll K H1 vs ds → tz D (σ.set i (some (.ref p))) H1) : tSeq (tAsg te (gName i)) tz D σ H := h H (Ex.refl H) _ k
theorem s_asgN {i : Nat} (h : EvN K te σ H ds) (k : ∀ p vs H1, Ex H H1 → H p = none → H1 p = some (.lst vs) → DpAll K H1 vs ds → D.nx (σ.set i (some (.ref p))) H1) : tAsg te (gName i) D σ H := h H (Ex.refl H) _ k
theorem q_asgK {i : Nat} {kvs : List (Key × V)} (h : EvK te σ H kvs) (k : ∀ p H1, Ex H H1 → H p = none → H1 p = some (.dK kvs) → tz D (σ.set i (some (.ref p))) H1) : tSeq (tAsg te (gName i)) tz D σ H := h H (Ex.refl H) _ k
theorem s_retD (h : EvD K te σ H d) (k : RetD K d H D.rt) : tRet te D σ H := h H (Ex.refl H) _ fun v H1 a hd => k v H1 a hd
theorem s_retN (h : EvN K te σ H ds) (k : RetLs K ds H D.rt) : tRet te D σ H := h H (Ex.refl H) _ fun p vs H1 a hn hp hd => k p vs H1 a hn hp hd
theorem RetD.go {Q : VK} (k : RetD K d H Q) (a : Ex H H') : RetD K d H' Q := fun v H2 b hd => k v H2 (a.trans b) hd
theorem RetLs.go {Q : VK} (k : RetLs K ds H Q) (a : Ex H H') : RetLs K ds H' Q := fun p vs H2 b hn hp hd => k p vs H2 (a.trans b) (fresh_back a hn) hp hd
theorem RetK.go {kvs : List (Key × V)} {Q : VK} (k : RetK kvs H Q) (a : Ex H H') : RetK kvs H' Q := fun p H2 b hn hp => k p H2 (a.trans b) (fresh_back a hn) hp
theorem q_dropD (h : EvD K te σ H d) (k : ∀ H1, Ex H H1 → tz D σ H1) : tSeq (tDrop te) tz D σ H := h H (Ex.refl H) _ fun v H1 a _ => k H1 a
/-- a, b, .. = e -/
theorem g_tup {n : Nat} {ts : TGs} {Q : L2.St → Hp → Prop} (hv : Dp K H v (.tuple ds)) (hn : ds.length = n) (k : ∀ xs, DpAll K H xs ds → ts xs σ H Q) : gTup K n ts v σ H Q := by
  obtain ⟨a, xs, rfl, hs, hd⟩ := dp_tup hv
  exact ⟨a, xs, rfl, hs, by rw [dp_len hd]; exact hn, k xs hd⟩
theorem q_unpD {n : Nat} {ts : TGs} (h : EvD K te σ H (.tuple ds)) (hn : ds.length = n) (k : ∀ xs H1, Ex H H1 → DpAll K H1 xs ds → ts xs σ H1 fun σ2 H2 => tz D σ2 H2) : tSeq (tAsg te (gTup K n ts)) tz D σ H :=
  h H (Ex.refl H) _ fun v H1 a hv => g_tup hv hn fun xs hd => k xs H1 a hd
/-- xs.append(e), e deep -/
theorem q_appD {l : Addr} {xs : List V} (hl : H l = some (.lst xs)) (ha : Ev ta σ H (.ref l)) (h : EvD K te σ H d) (hz : xs.length < 100000) (k : ∀ v H1, Ex H H1 → Dp K H1 v d → tz D σ (upd H1 l (.lst (xs ++ [v])))) :
    tSeq (tDrop (tBM K "list" rAppend ta (tCons te tNil))) tz D σ H := ha H (Ex.refl H) _ fun H1 e1 =>
  ⟨Or.inl ⟨rfl, xs, sq_of (e1 l _ hl)⟩, h H1 e1 _ fun v H2 e2 hv => ⟨l, xs, v, rfl, rfl, e2 l _ (e1 l _ hl), sz_lt hz, k v H2 (e1.trans e2) hv⟩⟩
theorem s_appD {l : Addr} {xs : List V} (hl : H l = some (.lst xs)) (ha : Ev ta σ H (.ref l)) (h : EvD K te σ H d) (hz : xs.length < 100000) (k : ∀ v H1, Ex H H1 → Dp K H1 v d → D.nx σ (upd H1 l (.lst (xs ++ [v])))) :
    tDrop (tBM K "list" rAppend ta (tCons te tNil)) D σ H := q_appD (tz := fun D => D.nx) hl ha h hz k

/-! ### walks -/
/-- at each turn the item stands for the next datum -/
def WalkD (K : PySem.W.Frag) (J : It) (ds : List PyData) (G : Hp → Prop) : Prop := ∃ Y, Walk J ds.length G Y ∧ ∀ i H x H', G H → Y i H x H' → Ex H H' ∧ ∃ d, ds[i]? = some d ∧ Dp K H' x d
/-- what is walked: ds, whatever is made behind H -/
def IvB (K : PySem.W.Frag) (wi : TI) (σ : L2.St) (H : Hp) (ds : List PyData) : Prop := ∀ H1, Ex H H1 → ∀ R : It → Hp → Prop, (∀ J H2, Ex H1 H2 → (∃ G, WalkD K J ds G ∧ ∀ H3, Ex H H3 → G H3) → R J H2) → wi σ H1 R
/-- what is walked: ds, new perhaps -/
def IvD (K : PySem.W.Frag) (wi : TI) (σ : L2.St) (H : Hp) (ds : List PyData) : Prop := ∀ H1, Ex H H1 → ∀ R : It → Hp → Prop, (∀ J H2, Ex H1 H2 → (∃ G, WalkD K J ds G ∧ ∀ H3, Ex H2 H3 → G H3) → R J H2) → wi σ H1 R
theorem IvB.toD {wi : TI} (h : IvB K wi σ H ds) : IvD K wi σ H ds := fun H1 a R r => h H1 a R fun J H2 b ⟨G, w, g⟩ => r J H2 b ⟨G, w, fun H3 c => g H3 ((a.trans b).trans c)⟩
theorem IvB.mono {wi : TI} (e : Ex H H') (h : IvB K wi σ H ds) : IvB K wi σ H' ds := fun H1 a R r => h H1 (e.trans a) R fun J H2 b ⟨G, w, g⟩ => r J H2 b ⟨G, w, fun H3 c => g H3 (e.trans c)⟩
theorem IvD.mono {wi : TI} (e : Ex H H') (h : IvD K wi σ H ds) : IvD K wi σ H' ds := fun H1 a R r => h H1 (e.trans a) R r
theorem wd_tup {a : Addr} {xs : List V} : DpAll K H xs ds → WalkD K (Itt K a) ds (fun H' => SqT K H' a xs ∧ DpAll K H' xs ds) := fun h0 => by
  refine ⟨YAt xs, ?_, fun i H x H' g y => ?_⟩
  · rw [← dp_len h0]
    exact walk_tup.mono (fun _ g => g.1) fun _ _ _ _ _ _ y => y
  · obtain ⟨rfl, hx⟩ := y
    obtain ⟨d, h1, h2⟩ := dps_get' g.2 hx
    exact ⟨Ex.refl _, d, h1, h2⟩
theorem wd_lst {a : Addr} {xs : List V} : DpAll K H xs ds → WalkD K (Itl K a) ds (fun H' => SqL K H' a xs ∧ DpAll K H' xs ds) := fun h0 => by
  refine ⟨YAt xs, ?_, fun i H x H' g y => ?_⟩
  · rw [← dp_len h0]
    exact walk_list.mono (fun _ g => g.1) fun _ _ _ _ _ _ y => y
  · obtain ⟨rfl, hx⟩ := y
    obtain ⟨d, h1, h2⟩ := dps_get' g.2 hx
    exact ⟨Ex.refl _, d, h1, h2⟩
theorem iv_tup (h : EvP K tl σ H (.tuple ds)) : IvB K (iTup K tl) σ H ds := fun H1 a R r => by
  obtain ⟨v, h1, h2⟩ := h
  obtain ⟨p, xs, rfl, hs, hd⟩ := dp_tup h1
  exact h2 H1 a _ fun H2 b => ⟨p, rfl, ⟨xs, ex_t (a.trans b) hs⟩, r _ H2 b ⟨_, wd_tup hd, fun H3 c => ⟨ex_t c hs, dps_ex c hd⟩⟩⟩
theorem iv_tupD (h : EvD K tl σ H (.tuple ds)) : IvD K (iTup K tl) σ H ds := fun H1 a R r => h H1 a _ fun v H2 b hv => by
  obtain ⟨p, xs, rfl, hs, hd⟩ := dp_tup hv
  exact ⟨p, rfl, ⟨xs, hs⟩, r _ H2 b ⟨_, wd_tup hd, fun H3 c => ⟨ex_t c hs, dps_ex c hd⟩⟩⟩
theorem iv_lst (h : EvP K tl σ H (.list ds)) : IvB K (iList K tl) σ H ds := fun H1 a R r => by
  obtain ⟨v, h1, h2⟩ := h
  obtain ⟨p, xs, rfl, hs, hd⟩ := dp_lst h1
  exact h2 H1 a _ fun H2 b => ⟨p, rfl, ⟨xs, ex_l (a.trans b) hs⟩, r _ H2 b ⟨_, wd_lst hd, fun H3 c => ⟨ex_l c hs, dps_ex c hd⟩⟩⟩
theorem iv_lstD (h : EvD K tl σ H (.list ds)) : IvD K (iList K tl) σ H ds := fun H1 a R r => h H1 a _ fun v H2 b hv => by
  obtain ⟨p, xs, rfl, hs, hd⟩ := dp_lst hv
  exact ⟨p, rfl, ⟨xs, hs⟩, r _ H2 b ⟨_, wd_lst hd, fun H3 c => ⟨ex_l c hs, dps_ex c hd⟩⟩⟩
/-- range(n) -/
def rngD (n : Nat) : List PyData := (List.range n).map fun i => .int (i : Nat)
theorem iv_rng {n : Nat} (h : EvA tas σ H [.int n]) (hn : n ≤ 1000000) : IvB K (iRng1 tas) σ H (rngD n) := fun H1 a R r => h H1 a _ fun H2 b => ⟨n, rfl, by omega, by omega, by
  have e : ((n : Int)).toNat = n := by omega
  rw [e]
  refine r _ H2 b ⟨fun _ => True, ⟨fun i H x H' => i < n ∧ H' = H ∧ x = .int (i : Nat), ?_, fun i H x H' _ y => ?_⟩, fun _ _ => trivial⟩
  · have e2 : (rngD n).length = n := by unfold rngD; simp
    rw [e2]
    exact (walk_range (lo := 0) (n := n)).mono (fun _ g => g) fun i H x H' hi _ y => ⟨hi, y.1, by rw [y.2]; show V.int (0 + (i : Int)) = _; rw [Int.zero_add]⟩
  · obtain ⟨hi, rfl, rfl⟩ := y
    exact ⟨Ex.refl _, .int (i : Nat), by unfold rngD; simp [hi], .int _⟩⟩
/-- pairs -/
def pairsD : List PyData → List PyData → List PyData
  | a :: as, b :: bs => .tuple [a, b] :: pairsD as bs
  | _, _ => []
theorem pairsD_len : ∀ as bs : List PyData, (pairsD as bs).length = min as.length bs.length
  | [], _ => by simp [pairsD]
  | _ :: _, [] => by simp [pairsD]
  | a :: as, b :: bs => by
    show (pairsD as bs).length + 1 = _
    rw [pairsD_len as bs, List.length_cons, List.length_cons]
    omega
theorem pairsD_at : ∀ {as bs : List PyData} {i : Nat} {a b : PyData}, as[i]? = some a → bs[i]? = some b → (pairsD as bs)[i]? = some (.tuple [a, b])
  | [], _, _, _, _, h, _ => by simp at h
  | _ :: _, [], _, _, _, _, h => by simp at h
  | a :: as, b :: bs, 0, _, _, h1, h2 => by
    simp at h1 h2
    subst h1 h2
    rfl
  | a :: as, b :: bs, i + 1, _, _, h1, h2 => pairsD_at (as := as) (bs := bs) (i := i) (by simpa using h1) (by simpa using h2)
theorem pairsD_zip {α β : Type} (f : α → PyData) (g : β → PyData) : ∀ (l : List α) (m : List β), pairsD (l.map f) (m.map g) = (l.zip m).map fun q => .tuple [f q.1, g q.2]
  | [], _ => rfl
  | _ :: _, [] => rfl
  | a :: l, b :: m => by
    show _ :: pairsD (l.map f) (m.map g) = _
    rw [pairsD_zip f g l m] <;> rfl
theorem wd_pair {J : It} {n : Nat} {G0 : Hp → Prop} {xs ys : List V} (as bs : List PyData) (w : Walk J n G0 (YPair (fun i => xs[i]?) (fun i => ys[i]?))) (hn : n = (pairsD as bs).length) : WalkD K J (pairsD as bs) (fun H => G0 H ∧ DpAll K H xs as ∧ DpAll K H ys bs) := by
  subst hn
  refine ⟨_, w.mono (fun _ g => g.1) fun _ _ _ _ _ _ y => y, fun i H x H' g y => ?_⟩
  obtain ⟨T, x1, x2, rfl, hT, rfl, e1, e2⟩ := y
  obtain ⟨d1, h1, h2⟩ := dps_get' g.2.1 e1
  obtain ⟨d2, h3, h4⟩ := dps_get' g.2.2 e2
  exact ⟨Ex.new hT, _, pairsD_at h1 h3, .tup (st_of upd_same) (.cons (dp_ex (Ex.new hT) h2) (.cons (dp_ex (Ex.new hT) h4) .nil))⟩
theorem iv_zipT (h : EvP K ta σ H (.tuple ds)) (h2 : EvP K tb σ H (.tuple es)) : IvB K (RZ.iZipA K (tCons ta (tCons tb tNil))) σ H (pairsD ds es) := fun H1 a R r => by
  obtain ⟨v, h1, hv⟩ := h
  obtain ⟨v2, h3, hv2⟩ := h2
  obtain ⟨p, xs, rfl, hs, hd⟩ := dp_tup h1
  obtain ⟨p2, ys, rfl, hs2, hd2⟩ := dp_tup h3
  refine hv H1 a _ fun H2 b => hv2 H2 (a.trans b) _ fun H3 c => ⟨p, p2, xs, ys, rfl, .inr ⟨ex_t ((a.trans b).trans c) hs, ex_t ((a.trans b).trans c) hs2, r _ H3 (b.trans c) ⟨_, wd_pair ds es (walk_zipT rfl) ?_, fun H4 f => ⟨⟨ex_t f hs, ex_t f hs2⟩, dps_ex f hd, dps_ex f hd2⟩⟩⟩⟩
  rw [pairsD_len, dp_len hd, dp_len hd2]
theorem iv_zipTD (h : EvD K ta σ H (.tuple ds)) (h2 : EvD K tb σ H (.tuple es)) : IvD K (RZ.iZipA K (tCons ta (tCons tb tNil))) σ H (pairsD ds es) := fun H1 a R r =>
  h H1 a _ fun v H2 b hv => h2 H2 (a.trans b) _ fun v2 H3 c hv2 => by
    obtain ⟨p, xs, rfl, hs, hd⟩ := dp_tup hv
    obtain ⟨p2, ys, rfl, hs2, hd2⟩ := dp_tup hv2
    refine ⟨p, p2, xs, ys, rfl, .inr ⟨ex_t c hs, hs2, r _ H3 (b.trans c) ⟨_, wd_pair ds es (walk_zipT rfl) ?_, fun H4 f => ⟨⟨ex_t (c.trans f) hs, ex_t f hs2⟩, dps_ex (c.trans f) hd, dps_ex f hd2⟩⟩⟩⟩
    rw [pairsD_len, dp_len hd, dp_len hd2]
theorem iv_zipM (h : EvD K ta σ H (.tuple ds)) (h2 : EvN K tb σ H es) : IvD K (iZipM K (tCons ta (tCons tb tNil))) σ H (pairsD ds es) := fun H1 a R r =>
  h H1 a _ fun v H2 b hv => h2 H2 (a.trans b) _ fun p2 ys H3 c _ hp2 hd2 => by
    obtain ⟨p, xs, rfl, hs, hd⟩ := dp_tup hv
    refine ⟨p, p2, xs, ys, rfl, ex_t c hs, sq_of hp2, r _ H3 (b.trans c) ⟨_, wd_pair ds es (walk_zipM rfl) ?_, fun H4 f => ⟨⟨ex_t (c.trans f) hs, sq_of (f _ _ hp2)⟩, dps_ex (c.trans f) hd, dps_ex f hd2⟩⟩⟩
    rw [pairsD_len, dp_len hd, dp_len hd2]
theorem iv_enum (h : EvP K ta σ H (.tuple ds)) : IvB K (iEnumT K (tCons ta tNil)) σ H (pairsD (rngD ds.length) ds) := fun H1 a R r => by
  obtain ⟨v, h1, hv⟩ := h
  obtain ⟨p, xs, rfl, hs, hd⟩ := dp_tup h1
  refine hv H1 a _ fun H2 b => ⟨p, xs, rfl, ex_t (a.trans b) hs, r _ H2 b ⟨fun H => SqT K H p xs ∧ DpAll K H xs ds, ⟨YPair (fun i => some (.int (i : Nat))) (fun i => xs[i]?), ?_, fun i H x H' g y => ?_⟩, fun H3 c => ⟨ex_t c hs, dps_ex c hd⟩⟩⟩
  · have e : (pairsD (rngD ds.length) ds).length = xs.length := by
      rw [pairsD_len, dp_len hd]
      unfold rngD
      simp
    rw [e]
    exact walk_enumT.mono (fun _ g => g.1) fun _ _ _ _ _ _ y => y
  · obtain ⟨T, x1, x2, rfl, hT, rfl, e1, e2⟩ := y
    obtain ⟨d2, h3, h4⟩ := dps_get' g.2 e2
    have e1' : V.int (i : Nat) = x1 := Option.some.inj e1
    subst e1'
    have hi := (List.getElem?_eq_some_iff.mp h3).1
    exact ⟨Ex.new hT, _, pairsD_at (a := .int (i : Nat)) (by unfold rngD; simp [hi]) h3, .tup (st_of upd_same) (.cons (.int _) (.cons (dp_ex (Ex.new hT) h4) .nil))⟩

/-! ### loops -/
/-- a for whose source stands whatever the turns make or change behind H -/
theorem s_for {wi : TI} {σ : L2.St} (h : IvB K wi σ H ds) {H0 : Hp} (a0 : Ex H H0) (Pv : Nat → L2.St → Hp → Prop) (h0 : ∀ H1, Ex H0 H1 → Pv 0 σ H1) (hG : ∀ i σ' H', Pv i σ' H' → Ex H H')
    (hs : ∀ i d x σ' H1 H2, ds[i]? = some d → Pv i σ' H1 → Ex H1 H2 → Dp K H2 x d → g x σ' H2 fun σ2 H3 => tu { D with nx := Pv (i + 1), ct := Pv (i + 1), bk := D.nx } σ2 H3) (hd : ∀ σ' H', Pv ds.length σ' H' → D.nx σ' H') : tFor wi g tu D σ H0 :=
  h H0 a0 _ fun J H2 b ⟨G, ⟨Y, w, wy⟩, gk⟩ => for_it w Pv (h0 H2 b) (fun i σ' H' _ p => gk H' (hG i σ' H' p)) (fun i x σ' H1 H2 _ p y => by
    obtain ⟨e, d, h1, h2⟩ := wy i H1 x H2 (gk H1 (hG i σ' H1 p)) y
    exact hs i d x σ' H1 H2 h1 p e h2) hd
theorem q_for {wi : TI} {σ : L2.St} (h : IvB K wi σ H ds) {H0 : Hp} (a0 : Ex H H0) (Pv : Nat → L2.St → Hp → Prop) (h0 : ∀ H1, Ex H0 H1 → Pv 0 σ H1) (hG : ∀ i σ' H', Pv i σ' H' → Ex H H')
    (hs : ∀ i d x σ' H1 H2, ds[i]? = some d → Pv i σ' H1 → Ex H1 H2 → Dp K H2 x d → g x σ' H2 fun σ2 H3 => tu { D with nx := Pv (i + 1), ct := Pv (i + 1), bk := tz D } σ2 H3) (hd : ∀ σ' H', Pv ds.length σ' H' → tz D σ' H') : tSeq (tFor wi g tu) tz D σ H0 :=
  s_for (D := { D with nx := tz D }) h a0 Pv h0 hG hs hd
/-- a for over a new thing: the turns only make, or change what is newer than the source -/
theorem s_forN {wi : TI} {σ : L2.St} (h : IvD K wi σ H ds) (Pv : Hp → Nat → L2.St → Hp → Prop) (h0 : ∀ B, Ex H B → Pv B 0 σ B) (hG : ∀ B i σ' H', Pv B i σ' H' → Ex B H')
    (hs : ∀ B i d x σ' H1 H2, Ex H B → ds[i]? = some d → Pv B i σ' H1 → Ex H1 H2 → Dp K H2 x d → g x σ' H2 fun σ2 H3 => tu { D with nx := Pv B (i + 1), ct := Pv B (i + 1), bk := D.nx } σ2 H3) (hd : ∀ B σ' H', Ex H B → Pv B ds.length σ' H' → D.nx σ' H') : tFor wi g tu D σ H :=
  h H (Ex.refl H) _ fun J B b ⟨G, ⟨Y, w, wy⟩, gk⟩ => for_it w (Pv B) (h0 B b) (fun i σ' H' _ p => gk H' (hG B i σ' H' p)) (fun i x σ' H1 H2 _ p y => by
    obtain ⟨e, d, h1, h2⟩ := wy i H1 x H2 (gk H1 (hG B i σ' H1 p)) y
    exact hs B i d x σ' H1 H2 b h1 p e h2) (hd B · · b)
theorem q_forN {wi : TI} {σ : L2.St} (h : IvD K wi σ H ds) (Pv : Hp → Nat → L2.St → Hp → Prop) (h0 : ∀ B, Ex H B → Pv B 0 σ B) (hG : ∀ B i σ' H', Pv B i σ' H' → Ex B H')
    (hs : ∀ B i d x σ' H1 H2, Ex H B → ds[i]? = some d → Pv B i σ' H1 → Ex H1 H2 → Dp K H2 x d → g x σ' H2 fun σ2 H3 => tu { D with nx := Pv B (i + 1), ct := Pv B (i + 1), bk := tz D } σ2 H3) (hd : ∀ B σ' H', Ex H B → Pv B ds.length σ' H' → tz D σ' H') : tSeq (tFor wi g tu) tz D σ H :=
  s_forN (D := { D with nx := tz D }) h Pv h0 hG hs hd
/-- a for over a new list, the turns may change older things -/
theorem q_forL {σ : L2.St} (h : EvN K tl σ H ds) (Pv : Addr → List V → Nat → L2.St → Hp → Prop) (h0 : ∀ p vs H1, Ex H H1 → H p = none → H1 p = some (.lst vs) → DpAll K H1 vs ds → Pv p vs 0 σ H1)
    (hG : ∀ p vs i σ' H', Pv p vs i σ' H' → H' p = some (.lst vs) ∧ DpAll K H' vs ds)
    (hs : ∀ p vs i d x σ' H1, ds[i]? = some d → Pv p vs i σ' H1 → Dp K H1 x d → g x σ' H1 fun σ2 H3 => tu { D with nx := Pv p vs (i + 1), ct := Pv p vs (i + 1), bk := tz D } σ2 H3) (hd : ∀ p vs σ' H', Pv p vs ds.length σ' H' → tz D σ' H') : tSeq (tFor (iList K tl) g tu) tz D σ H :=
  h H (Ex.refl H) _ fun p vs H1 a hn hp hv => ⟨p, rfl, ⟨vs, sq_of hp⟩, by
    have hl := dp_len hv
    refine for_list (xs := vs) (Pv p vs) (h0 p vs H1 a hn hp hv) (fun i σ' H' _ q => sq_of (hG p vs i σ' H' q).1) (fun i x σ' H' hx q => ?_) (fun σ' H' q => ?_)
    · obtain ⟨d, h1, h2⟩ := dps_get' (hG p vs i σ' H' q).2 hx
      exact hs p vs i d x σ' H' h1 q h2
    · rw [hl] at q
      exact hd p vs σ' H' q⟩
/-! ### comprehensions -/
/-- the new list of a comprehension, behind i turns -/
def LcP (K : PySem.W.Frag) (B : Hp) (Dl : Addr) (rs : List PyData) (H : Hp) : Prop := B Dl = none ∧ Ex B H ∧ ∃ vs, H Dl = some (.lst vs) ∧ DpAll K H vs rs
theorem take_succ_at {α : Type} {l : List α} {i : Nat} {a : α} (h : l[i]? = some a) : l.take (i + 1) = l.take i ++ [a] := by
  rw [List.take_succ, h]
  rfl
/-- [elt for target in .. if ..] over what stands for l: at each turn σ2 are the slots behind the target's store -/
theorem en_lc {α : Type} {wi : TI} {g : TG} {tt : TT} {te : TE} {vs : List Nat} (l : List α) (enc : α → PyData) (keep : α → Bool) (out : α → PyData) (h : IvD K wi σ H (l.map enc)) (hz : l.length ≤ 50000) (ho : ∀ a, a ∈ l → keep a = true → Tp (out a) = true)
    (hs : ∀ a x H1, a ∈ l → Ex H H1 → Dp K H1 x (enc a) → ∀ Q : L2.St → Hp → Prop, (∀ σ2, wipe σ2 vs = wipe σ vs → EvT tt σ2 H1 (keep a) → (keep a = true → EvD K te σ2 H1 (out a)) → Q σ2 H1) → g x (wipe σ vs) H1 Q) :
    EvN K (tLc wi g tt te vs) σ H ((l.filter keep).map out) := fun H0 e0 Q q => h H0 e0 _ fun J B b ⟨G, ⟨Y, w, wy⟩, gk⟩ Dl hD => by
  refine lc_it w (fun i H' => LcP K B Dl (((l.take i).filter keep).map out) H') ⟨hD, Ex.new hD, [], upd_same, .nil⟩ (fun i H' _ p => gk H' p.2.1) (fun i x H1 H2 hi p y => ?_) fun H' p => ?_
  · obtain ⟨e, d, h1, h2⟩ := wy i H1 x H2 (gk H1 p.2.1) y
    obtain ⟨pn, pe, ws, pw, pd⟩ := p
    have h1' : (l.map enc)[i]? = some d := h1
    rw [List.getElem?_map] at h1'
    obtain ⟨a, ha, rfl⟩ := Option.map_eq_some_iff.mp h1'
    have hmem := List.mem_of_getElem? ha
    refine hs a x H2 hmem ((e0.trans b).trans (pe.trans e)) h2 _ fun σ2 hw ht hv => ⟨hw, ?_⟩
    refine ht H2 (Ex.refl _) _ fun H3 e3 => ?_
    cases hk : keep a with
    | false =>
      refine ⟨pn, (pe.trans e).trans e3, ws, (e.trans e3) _ _ pw, ?_⟩
      rw [take_succ_at ha, List.filter_append, List.filter_cons, hk]
      simp only [Bool.false_eq_true, if_false, List.filter_nil, List.append_nil]
      exact dps_ex (e.trans e3) pd
    | true =>
      refine hv hk H3 e3 _ fun v H4 e4 hvd => ⟨ws, ((e.trans e3).trans e4) _ _ pw, ?_, pn, ?_, ws ++ [v], upd_same, ?_⟩
      · have l1 := dp_len pd
        rw [List.length_map] at l1
        have l2 := List.length_filter_le keep (l.take i)
        have l3 := List.length_take_le i l
        have l4 := List.length_take_le' i l
        exact sz_lt (by omega)
      · exact Ex.mut (((pe.trans e).trans e3).trans e4) pn
      · rw [take_succ_at ha, List.filter_append, List.filter_cons, hk]
        simp only [if_true, List.filter_nil, List.map_append, List.map_cons, List.map_nil]
        have tx : TX H4 (upd H4 Dl (.lst (ws ++ [v]))) := TX.updL (((e.trans e3).trans e4) _ _ pw)
        refine dps_app (dps_tx tx (dps_ex ((e.trans e3).trans e4) pd) ?_) (dp_tx tx hvd (ho a hmem hk))
        have key : ∀ m : List α, (∀ a ∈ m, a ∈ l ∧ keep a = true) → Tp.all (m.map out) = true := fun m => by
          induction m with
          | nil => intro _; rfl
          | cons c r ih => exact fun hm => tp_cons.mpr ⟨ho c (hm c List.mem_cons_self).1 (hm c List.mem_cons_self).2, ih fun z hz => hm z (List.mem_cons_of_mem _ hz)⟩
        exact key _ fun z hz => by
          obtain ⟨z1, z2⟩ := List.mem_filter.mp hz
          exact ⟨List.mem_of_mem_take z1, z2⟩
  · obtain ⟨pn, pe, ws, pw, pd⟩ := p
    have e1 : (l.map enc).length = l.length := List.length_map ..
    rw [e1, List.take_length] at pd
    exact q Dl ws H' (b.trans pe) (fresh_back b pn) pw pd
/-- no test, every item -/
theorem en_lc0 {α : Type} {wi : TI} {g : TG} {te : TE} {vs : List Nat} (l : List α) (enc : α → PyData) (out : α → PyData) (h : IvD K wi σ H (l.map enc)) (hz : l.length ≤ 50000) (ho : ∀ a, a ∈ l → Tp (out a) = true)
    (hs : ∀ a x H1, a ∈ l → Ex H H1 → Dp K H1 x (enc a) → ∀ Q : L2.St → Hp → Prop, (∀ σ2, wipe σ2 vs = wipe σ vs → EvD K te σ2 H1 (out a) → Q σ2 H1) → g x (wipe σ vs) H1 Q) :
    EvN K (tLc wi g tYes te vs) σ H (l.map out) := by
  have q := en_lc (K := K) (σ := σ) (H := H) (tt := tYes) l enc (fun _ => true) out h hz (fun a ha _ => ho a ha) fun a x H1 ha e hx Q k => hs a x H1 ha e hx Q fun σ2 hw hv => k σ2 hw (fun H2 _ Q q => q H2 (Ex.refl _)) fun _ => hv
  rw [List.filter_eq_self.mpr fun _ _ => rfl] at q
  exact q
end
end Tb
set_option Elab.async false
set_option linter.all false
set_option maxRecDepth 100000
set_option maxHeartbeats 4000000
/-! Tests and short words for the readings. -/
namespace Tb
open PySem PySem.Spec PyProof.Rows L2 Evl
section
variable {K : PySem.W.Frag} {σ : L2.St} {H H' : Hp} {ta tb te tx : TE} {tas tr : TA} {t u : TT} {x y z v : V} {d e f : PyData} {ds es : List PyData}
theorem ep_i0 (h : EvP K ta σ H (.tuple (d :: ds))) : EvP K (tOp (rIxT K) ta (tC (.int 0))) σ H d := ep_ixT (k := 0) h ev_c rfl
theorem ep_i1 (h : EvP K ta σ H (.tuple (e :: d :: ds))) : EvP K (tOp (rIxT K) ta (tC (.int 1))) σ H d := ep_ixT (k := 1) h ev_c rfl
theorem ep_i2 (h : EvP K ta σ H (.tuple (f :: e :: d :: ds))) : EvP K (tOp (rIxT K) ta (tC (.int 2))) σ H d := ep_ixT (k := 2) h ev_c rfl
theorem ed_i0 (h : EvD K ta σ H (.tuple (d :: ds))) : EvD K (tOp (rIxT K) ta (tC (.int 0))) σ H d := ed_ixT (k := 0) h ev_c rfl
theorem ed_i1 (h : EvD K ta σ H (.tuple (e :: d :: ds))) : EvD K (tOp (rIxT K) ta (tC (.int 1))) σ H d := ed_ixT (k := 1) h ev_c rfl
theorem ed_i2 (h : EvD K ta σ H (.tuple (f :: e :: d :: ds))) : EvD K (tOp (rIxT K) ta (tC (.int 2))) σ H d := ed_ixT (k := 2) h ev_c rfl
theorem ed_l0 (h : EvD K ta σ H (.list (d :: ds))) : EvD K (tOp (rIxL K) ta (tC (.int 0))) σ H d := ed_ixL (k := 0) h ev_c rfl
theorem ed_l1 (h : EvD K ta σ H (.list (e :: d :: ds))) : EvD K (tOp (rIxL K) ta (tC (.int 1))) σ H d := ed_ixL (k := 1) h ev_c rfl
theorem ed_c_int {i : Int} : EvD K (tC (.int i)) σ H (.int i) := ed_int ev_c
theorem ed_c_str {i : Str} : EvD K (tC (.str i)) σ H (.str i) := ed_str ev_c
theorem ed_vs {i : Nat} {s : Str} (h : σ[i]? = some (some (.str s)) := by rfl) : EvD K (tVar i) σ H (.str s) := ed_str (ev_var h)
theorem ed_vi {i : Nat} {s : Int} (h : σ[i]? = some (some (.int s)) := by rfl) : EvD K (tVar i) σ H (.int s) := ed_int (ev_var h)
theorem et_eqS {a b : Str} (h : Ev ta σ H (.str a)) (h2 : Ev tb σ H (.str b)) : EvT (tTest (tOp rEq ta tb)) σ H (decide (a = b)) := by
  have q : EvT (tTest (tOp rEq ta tb)) σ H (decide (V.str a = V.str b)) := et_test (ev_op h h2 (rv_eq rfl))
  refine et_is q ?_
  by_cases e : a = b
  · rw [e]; simp
  · rw [decide_eq_false e, decide_eq_false fun z => e (V.str.inj z)]
theorem et_neS {a b : Str} (h : Ev ta σ H (.str a)) (h2 : Ev tb σ H (.str b)) : EvT (tTest (tOp rNe ta tb)) σ H (decide (a ≠ b)) := by
  have q : EvT (tTest (tOp rNe ta tb)) σ H (!decide (V.str a = V.str b)) := et_test (ev_op h h2 (rv_ne rfl))
  refine et_is q ?_
  by_cases e : a = b
  · rw [e]; simp
  · rw [decide_eq_true e, decide_eq_false fun z => e (V.str.inj z)]; rfl
theorem et_eqI {a b : Int} (h : Ev ta σ H (.int a)) (h2 : Ev tb σ H (.int b)) : EvT (tTest (tOp rEq ta tb)) σ H (decide (a = b)) := by
  have q : EvT (tTest (tOp rEq ta tb)) σ H (decide (V.int a = V.int b)) := et_test (ev_op h h2 (rv_eq rfl))
  refine et_is q ?_
  by_cases e : a = b
  · rw [e]; simp
  · rw [decide_eq_false e, decide_eq_false fun z => e (V.int.inj z)]
theorem et_neI {a b : Int} (h : Ev ta σ H (.int a)) (h2 : Ev tb σ H (.int b)) : EvT (tTest (tOp rNe ta tb)) σ H (decide (a ≠ b)) := by
  have q : EvT (tTest (tOp rNe ta tb)) σ H (!decide (V.int a = V.int b)) := et_test (ev_op h h2 (rv_ne rfl))
  refine et_is q ?_
  by_cases e : a = b
  · rw [e]; simp
  · rw [decide_eq_true e, decide_eq_false fun z => e (V.int.inj z)]; rfl
theorem et_lt {a b : Int} (h : Ev ta σ H (.int a)) (h2 : Ev tb σ H (.int b)) : EvT (tTest (tOp rLtI ta tb)) σ H (decide (a < b)) := et_test (ev_op h h2 rv_I0)
theorem et_gt {a b : Int} (h : Ev ta σ H (.int a)) (h2 : Ev tb σ H (.int b)) : EvT (tTest (tOp rGtI ta tb)) σ H (decide (b < a)) := et_test (ev_op h h2 rv_I0)
theorem et_ge {a b : Int} (h : Ev ta σ H (.int a)) (h2 : Ev tb σ H (.int b)) : EvT (tTest (tOp rGeI ta tb)) σ H (decide (b ≤ a)) := et_test (ev_op h h2 rv_I0)
theorem ev_add {a b : Int} (h : Ev ta σ H (.int a)) (h2 : Ev tb σ H (.int b)) : Ev (tOp rAddI ta tb) σ H (.int (a + b)) := ev_op h h2 rv_I0
theorem ev_sub {a b : Int} (h : Ev ta σ H (.int a)) (h2 : Ev tb σ H (.int b)) : Ev (tOp rSubI ta tb) σ H (.int (a - b)) := ev_op h h2 rv_I0
theorem inV_strs (x : Str) : ∀ l : List Str, inV (.str x) (l.map V.str) = decide (x ∈ l)
  | [] => rfl
  | y :: l => by
    have ih := inV_strs x l
    unfold inV at ih ⊢
    rw [List.map_cons, List.any_cons, ih]
    show (decide (y = x) || decide (x ∈ l)) = _
    by_cases e : y = x
    · subst e; simp
    · have e' : ¬ x = y := fun z => e z.symm
      simp [e, e']
theorem flat_strs (l : List Str) : (l.map V.str).all flatV = true := by
  rw [List.all_map]
  exact List.all_eq_true.mpr fun _ _ => rfl
theorem inV_ints (x : Int) : ∀ l : List Int, inV (.int x) (l.map V.int) = decide (x ∈ l)
  | [] => rfl
  | y :: l => by
    have ih := inV_ints x l
    unfold inV at ih ⊢
    rw [List.map_cons, List.any_cons, ih]
    show (decide (y = x) || decide (x ∈ l)) = _
    by_cases e : y = x
    · subst e; simp
    · have e' : ¬ x = y := fun z => e z.symm
      simp [e, e']
theorem flat_ints (l : List Int) : (l.map V.int).all flatV = true := by
  rw [List.all_map]
  exact List.all_eq_true.mpr fun _ _ => rfl
/-- x in l, x not in l: texts -/
theorem et_in {neg : Bool} {a : Str} {l : List Str} (h : EvD K ta σ H (.str a)) (h2 : EvD K tb σ H e) (he : e = nsD l ∨ e = .list (l.map .str)) : EvT (tTest (tOp (rIn K neg) ta tb)) σ H (if neg then !decide (a ∈ l) else decide (a ∈ l)) := fun H1 a1 Q q =>
  h H1 a1 _ fun v H2 b hv => h2 H2 (a1.trans b) _ fun w H3 c hw => by
    rw [dp_str hv]
    rcases he with rfl | rfl
    · obtain ⟨p, xs, rfl, hs, hd⟩ := dp_tup hw
      rw [dps_strs hd] at hs
      refine ⟨p, _, rfl, .inr hs, rfl, flat_strs l, ?_⟩
      rw [inV_strs]
      exact ⟨_, rfl, q H3 (b.trans c)⟩
    · obtain ⟨p, xs, rfl, hs, hd⟩ := dp_lst hw
      rw [dps_strs hd] at hs
      refine ⟨p, _, rfl, .inl hs, rfl, flat_strs l, ?_⟩
      rw [inV_strs]
      exact ⟨_, rfl, q H3 (b.trans c)⟩
theorem et_inL {a : Str} {l : List Str} (h : EvD K ta σ H (.str a)) (h2 : EvD K tb σ H (.list (l.map .str))) : EvT (tTest (tOp (rIn K false) ta tb)) σ H (decide (a ∈ l)) := et_in (neg := false) h h2 (.inr rfl)
theorem et_inT {a : Str} {l : List Str} (h : EvD K ta σ H (.str a)) (h2 : EvD K tb σ H (nsD l)) : EvT (tTest (tOp (rIn K false) ta tb)) σ H (decide (a ∈ l)) := et_in (neg := false) h h2 (.inl rfl)
theorem et_niL {a : Str} {l : List Str} (h : EvD K ta σ H (.str a)) (h2 : EvD K tb σ H (.list (l.map .str))) : EvT (tTest (tOp (rIn K true) ta tb)) σ H (decide (a ∉ l)) := et_is (et_in (neg := true) h h2 (.inr rfl)) (by by_cases e : a ∈ l <;> simp [e])
theorem et_niT {a : Str} {l : List Str} (h : EvD K ta σ H (.str a)) (h2 : EvD K tb σ H (nsD l)) : EvT (tTest (tOp (rIn K true) ta tb)) σ H (decide (a ∉ l)) := et_is (et_in (neg := true) h h2 (.inl rfl)) (by by_cases e : a ∈ l <;> simp [e])
/-- tail = low if head == high else high -/
theorem ed_tl {i j k : Nat} {w : Wy} {h : Nm} (e8 : σ[i]? = some (some (.str h))) (e7 : σ[j]? = some (some (.str w.2.2))) (e6 : σ[k]? = some (some (.str w.2.1))) : EvD K (tIf (tTest (tOp rEq (tVar i) (tVar j))) (tVar k) (tVar j)) σ H (.str (tl w h)) := by
  refine ed_if (et_eqS (ev_var e8) (ev_var e7)) (fun c => ?_) fun c => ?_
  · have c' : h = w.2.2 := of_decide_eq_true c
    have e : tl w h = w.2.1 := if_pos c'
    rw [e]
    exact ed_vs e6
  · have c' : ¬ h = w.2.2 := of_decide_eq_false c
    have e : tl w h = w.2.2 := if_neg c'
    rw [e]
    exact ed_vs e7
/-- (way, low, high), head = pair -/
theorem g_wayhead {i j k m : Nat} {w : Wy} {h : Nm} {Q : L2.St → Hp → Prop} (hx : Dp K H x (.tuple [wayD w, .str h])) (q : Q ((((σ.set i (some (.str w.1))).set j (some (.str w.2.1))).set k (some (.str w.2.2))).set m (some (.str h))) H) :
    gTup K 2 (gCons (gTup K 3 (gCons (gName i) (gCons (gName j) (gCons (gName k) gNil)))) (gCons (gName m) gNil)) x σ H Q := by
  refine g_tup hx rfl fun xs hd => ?_
  obtain ⟨v, w', rfl, h1, h2⟩ := dp2 hd
  refine ⟨v, _, rfl, g_tup h1 rfl fun ys hd' => ?_⟩
  obtain ⟨a, b, c, rfl, h3, h4, h5⟩ := dp3 hd'
  rw [dp_str h3, dp_str h4, dp_str h5, dp_str h2]
  exact ⟨_, _, rfl, _, _, rfl, _, _, rfl, rfl, _, _, rfl, rfl, q⟩
theorem zipWH (ways : List Wy) (heads : List Nm) : pairsD (ways.map wayD) (heads.map .str) = (ways.zip heads).map fun q => .tuple [wayD q.1, .str q.2] := pairsD_zip wayD .str ways heads
end
/-! ### the slots of a block -/
theorem wipe_at {σ : L2.St} : ∀ {vs : List Nat} {j : Nat}, (wipe σ vs)[j]? = if j ∈ vs then (if j < σ.length then some none else none) else σ[j]?
  | [], j => by rw [if_neg (by simp)]; rfl
  | v :: vs, j => by
    have ih := wipe_at (σ := σ) (vs := vs) (j := j)
    show ((wipe σ vs).set v none)[j]? = _
    by_cases e : v = j
    · subst e
      rw [if_pos List.mem_cons_self]
      by_cases hl : v < σ.length
      · rw [if_pos hl, List.getElem?_set_self (by rw [wipe_length]; exact hl)]
      · rw [if_neg hl, List.getElem?_eq_none (by rw [List.length_set, wipe_length]; omega)]
    · rw [List.getElem?_set_ne e, ih]
      by_cases m : j ∈ vs
      · rw [if_pos m, if_pos (List.mem_cons_of_mem _ m)]
      · rw [if_neg m, if_neg (fun z => (List.mem_cons.mp z).elim (fun z => e z.symm) m)]
theorem wset {σ : L2.St} {vs : List Nat} {i : Nat} {x : Option V} (h : i ∈ vs) : wipe (σ.set i x) vs = wipe σ vs := by
  refine List.ext_getElem? fun j => ?_
  rw [wipe_at, wipe_at, List.length_set]
  by_cases m : j ∈ vs
  · rw [if_pos m, if_pos m]
  · rw [if_neg m, if_neg m, List.getElem?_set_ne fun z => by rw [z] at h; exact m h]
theorem wip {σ : L2.St} {vs : List Nat} : wipe (wipe σ vs) vs = wipe σ vs := by
  refine List.ext_getElem? fun j => ?_
  rw [wipe_at, wipe_at, wipe_length]
  by_cases m : j ∈ vs
  · rw [if_pos m, if_pos m]
  · rw [if_neg m]
theorem wi1 {σ : L2.St} {vs : List Nat} {i : Nat} {x : Option V} (h : i ∈ vs := by decide) : wipe ((wipe σ vs).set i x) vs = wipe σ vs := (wset h).trans wip
theorem wi2 {σ : L2.St} {vs : List Nat} {i j : Nat} {x y : Option V} (h : i ∈ vs := by decide) (h2 : j ∈ vs := by decide) : wipe (((wipe σ vs).set i x).set j y) vs = wipe σ vs := (wset h2).trans (wi1 h)
theorem wi3 {σ : L2.St} {vs : List Nat} {i j k : Nat} {x y z : Option V} (h : i ∈ vs := by decide) (h2 : j ∈ vs := by decide) (h3 : k ∈ vs := by decide) : wipe ((((wipe σ vs).set i x).set j y).set k z) vs = wipe σ vs := (wset h3).trans (wi2 h h2)
theorem wi4 {σ : L2.St} {vs : List Nat} {i j k m : Nat} {x y z u : Option V} (h : i ∈ vs := by decide) (h2 : j ∈ vs := by decide) (h3 : k ∈ vs := by decide) (h4 : m ∈ vs := by decide) : wipe (((((wipe σ vs).set i x).set j y).set k z).set m u) vs = wipe σ vs := (wset h4).trans (wi3 h h2 h3)
end Tb
set_option Elab.async false
set_option linter.all false
set_option maxRecDepth 100000
set_option maxHeartbeats 4000000
namespace Tb
open PySem PySem.Spec PyProof.Rows L2 Evl
section
variable {K : PySem.W.Frag} {vs : List V} {H : Hp} {Q : VK} {E : XK}
theorem lenArrowsShapes (h : spArrowsShapes K vs H Q E) : vs.length = 1 := by
  obtain ⟨W, hd, _⟩ := h
  exact dp_len hd
theorem readArrowsShapes (h : spArrowsShapes K vs H Q E) : tArrowsShapes K { nx := fun _ H' => Q .non H', rt := Q } (start nArrowsShapes vs) H := by
  obtain ⟨W, hd, hz, q⟩ := h
  obtain ⟨x, rfl, hx⟩ := dp1 hd
  show tArrowsShapes K _ [some x, none, none, none, none, none, none] H
  refine q_asgD (ep_i1 (ep_i0 (ep_var rfl hx))).toD fun v1 H1 a1 h1 => ?_
  refine q_asgD (ep_i1 (ep_var rfl (dp_ex a1 hx))).toD fun v2 H2 a2 h2 => ?_
  have iv := iv_zipT (ep_var (σ := [some x, some v1, some v2, none, none, none, none]) (i := 1) rfl (dp_ex a2 h1)) (ep_var (i := 2) rfl h2)
  rw [zipWH] at iv
  refine s_retN (en_lc0 (W.ways.zip W.heads) _ (fun q => pairD (tl q.1 q.2, q.2)) iv.toD ?_ (fun _ _ => rfl) fun q x' H3 hq a3 hx' Q' k => ?_) ?_
  · rw [List.length_zip]
    omega
  · refine g_wayhead hx' ?_
    refine k _ wi4 ?_
    exact ed_tup (eds2 (ed_tl rfl rfl rfl) (ed_vs rfl))
  · unfold arrS at q
    rw [List.map_map] at q
    exact (q.go a1).go a2
end
end Tb
set_option Elab.async false
set_option linter.all false
set_option maxRecDepth 100000
set_option maxHeartbeats 4000000
/-! Lists that are filled, dicts that are counted in, and more comprehensions. -/
namespace Tb
open PySem PySem.Spec PyProof.Rows L2 Evl
/-- all but what stands at l -/
def Oth (l : Addr) (H H' : Hp) : Prop := ∀ a o, a ≠ l → H a = some o → H' a = some o
section
variable {K : PySem.W.Frag} {σ : L2.St} {B H H' H1 : Hp} {ta tb te tl : TE} {tas tr : TA} {t u : TT} {x y z v : V} {d e : PyData} {ds es rs : List PyData} {l : Addr}
variable {D : Ends} {tu tw tz : TS} {g : TG}
theorem Oth.ex (h : Ex H H') : Oth l H H' := fun a o _ e => h a o e
theorem Oth.upd_ {o : HO} : Oth l H (upd H l o) := fun a p n e => by rw [upd_ne n]; exact e
theorem Oth.trans {H2 : Hp} (a : Oth l H H1) (b : Oth l H1 H2) : Oth l H H2 := fun p o n e => b p o n (a p o n e)
theorem Oth.ofB (h : Oth l H H') (n : B l = none) (e : Ex B H) : Ex B H' := fun a o q => h a o (fun z => by rw [z, n] at q; cases q) (e a o q)
theorem Oth.tx {xs : List V} (h : Oth l H H') (q : H l = some (.lst xs)) : TX H H' := ⟨fun a ys e => h a _ (fun z => by rw [z, q] at e; cases e) e, fun a o ys e => h a _ (fun z => by rw [z, q] at e; cases e) e⟩
theorem Oth.txK {xs : List (Key × V)} (h : Oth l H H') (q : H l = some (.dK xs)) : TX H H' := ⟨fun a ys e => h a _ (fun z => by rw [z, q] at e; cases e) e, fun a o ys e => h a _ (fun z => by rw [z, q] at e; cases e) e⟩
theorem LcP.ex (P : LcP K B l rs H) (e : Ex H H') : LcP K B l rs H' := by
  obtain ⟨n, a, vs, h, hd⟩ := P
  exact ⟨n, a.trans e, vs, e _ _ h, dps_ex e hd⟩
theorem LcP.new {p : Addr} {vs : List V} (a : Ex H H1) (hn : H p = none) (hp : H1 p = some (.lst vs)) (hd : DpAll K H1 vs ds) : LcP K H p ds H1 := ⟨hn, a, vs, hp, hd⟩
theorem LcP.app {vs : List V} (P : LcP K B l rs H) (h : H l = some (.lst vs)) (hv : Dp K H v d) (t : Tp.all rs = true) (td : Tp d = true) : LcP K B l (rs ++ [d]) (upd H l (.lst (vs ++ [v]))) := by
  obtain ⟨n, a, ws, hw, hd⟩ := P
  have e : vs = ws := by
    rw [h] at hw
    exact HO.lst.inj (Option.some.inj hw)
  subst e
  exact ⟨n, Ex.mut a n, vs ++ [v], upd_same, dps_app (dps_tx (TX.updL h) hd t) (dp_tx (TX.updL h) hv td)⟩
theorem LcP.oth {B' : Hp} {l' : Addr} {rs' : List PyData} (P : LcP K B' l' rs' H) (n : B' l = none) (o : Oth l H H') (ne : l' ≠ l) (tx : TX H H') (t : Tp.all rs' = true) : LcP K B' l' rs' H' := by
  obtain ⟨n', a, vs, h, hd⟩ := P
  exact ⟨n', o.ofB n a, vs, o _ _ ne h, dps_tx tx hd t⟩
theorem q_accE (P : LcP K B l rs H) (hl : Ev ta σ H (.ref l)) (h : EvD K te σ H d) (t : Tp.all rs = true) (td : Tp d = true) (k : ∀ H1, LcP K B l (rs ++ [d]) H1 → Oth l H H1 → TX H H1 → tz D σ H1) (hz : rs.length < 100000) : tSeq (tDrop (tBM K "list" rAppend ta (tCons te tNil))) tz D σ H := by
  have P0 := P
  obtain ⟨n, a, vs, hp, hd⟩ := P
  refine q_appD hp hl h (by rw [dp_len hd]; exact hz) fun v H1 b hv => ?_
  have o : Oth l H (upd H1 l (.lst (vs ++ [v]))) := (Oth.ex b).trans Oth.upd_
  exact k _ ((P0.ex b).app (b _ _ hp) hv t td) o (o.tx hp)
theorem q_acc {i : Nat} (P : LcP K B l rs H) (hl : σ[i]? = some (some (.ref l))) (h : EvD K te σ H d) (t : Tp.all rs = true) (td : Tp d = true) (hz : rs.length < 100000) (k : ∀ H1, LcP K B l (rs ++ [d]) H1 → Oth l H H1 → TX H H1 → tz D σ H1) : tSeq (tDrop (tBM K "list" rAppend (tVar i) (tCons te tNil))) tz D σ H := q_accE P (ev_var hl) h t td k hz
theorem s_acc {i : Nat} (P : LcP K B l rs H) (hl : σ[i]? = some (some (.ref l))) (h : EvD K te σ H d) (t : Tp.all rs = true) (td : Tp d = true) (hz : rs.length < 100000) (k : ∀ H1, LcP K B l (rs ++ [d]) H1 → Oth l H H1 → TX H H1 → D.nx σ H1) : tDrop (tBM K "list" rAppend (tVar i) (tCons te tNil)) D σ H := q_acc (tz := fun D => D.nx) P hl h t td hz k
theorem LcP.edp (P : LcP K B l rs H) : Dp K H (.ref l) (.list rs) := by
  obtain ⟨n, a, vs, h, hd⟩ := P
  exact .lst (sq_of h) hd
theorem q_newL {i : Nat} (k : ∀ l H1, LcP K H l [] H1 → tz D (σ.set i (some (.ref l))) H1) : tSeq (tAsg (tLst tNil) (gName i)) tz D σ H := q_asgN (en_lst eds_nil) fun p vs H1 a hn hp hd => k p H1 ⟨hn, a, vs, hp, hd⟩
theorem q_asgNL {i : Nat} (h : EvN K te σ H ds) (k : ∀ p H1, LcP K H p ds H1 → tz D (σ.set i (some (.ref p))) H1) : tSeq (tAsg te (gName i)) tz D σ H := q_asgN h fun p vs H1 a hn hp hd => k p H1 ⟨hn, a, vs, hp, hd⟩
theorem s_retAcc {i : Nat} (P : LcP K B l rs H) (hl : σ[i]? = some (some (.ref l))) (k : RetLs K rs B D.rt) : tRet (tVar i) D σ H := by
  obtain ⟨n, a, vs, h, hd⟩ := P
  exact ev_var hl H (Ex.refl H) _ fun H1 b => k l vs H1 (a.trans b) n (b _ _ h) (dps_ex b hd)
theorem tp_app {ds es : List PyData} (h : Tp.all ds = true) (h2 : Tp.all es = true) : Tp.all (ds ++ es) = true := by
  induction ds with
  | nil => exact h2
  | cons a r ih => exact tp_cons.mpr ⟨(tp_cons.mp h).1, ih (tp_cons.mp h).2⟩
theorem tp_of {α : Type} {f : α → PyData} {l : List α} (h : ∀ a ∈ l, Tp (f a) = true) : Tp.all (l.map f) = true := by
  induction l with
  | nil => rfl
  | cons a r ih => exact tp_cons.mpr ⟨h a List.mem_cons_self, ih fun b hb => h b (List.mem_cons_of_mem _ hb)⟩

/-! ### dicts by text -/
theorem nd_inr {l : List Nm} (h : l.Nodup) : (l.map (Sum.inr : Nm → Key)).Nodup := by
  induction l with
  | nil => exact List.nodup_nil
  | cons a r ih =>
    obtain ⟨h1, h2⟩ := List.nodup_cons.mp h
    refine List.nodup_cons.mpr ⟨fun m => ?_, ih h2⟩
    obtain ⟨b, hb, e⟩ := List.mem_map.mp m
    rw [Sum.inr.inj e] at hb
    exact h1 hb
theorem kv_in {α : Type} {l : List α} {key : α → Nm} {val : α → V} (hn : (l.map key).Nodup) {a : α} (ha : a ∈ l) : valV (l.map fun a => ((.inr (key a) : Key), val a)) (.inr (key a)) = some (val a) := by
  have e : (l.map fun a => ((.inr (key a) : Key), val a)).map (·.1) = (l.map key).map .inr := by rw [List.map_map, List.map_map]; rfl
  refine val_nodup ?_ ((.inr (key a) : Key), val a) (List.mem_map.mpr ⟨a, ha, rfl⟩)
  rw [e]
  exact nd_inr hn
theorem kv_no {α : Type} {key : α → Nm} {val : α → V} {k : Nm} : ∀ {l : List α}, (∀ a ∈ l, key a ≠ k) → valV (l.map fun a => ((.inr (key a) : Key), val a)) (.inr k) = none
  | [], _ => rfl
  | a :: r, h => by
    rw [List.map_cons, valV_neg fun z => h a List.mem_cons_self (Sum.inr.inj z)]
    exact kv_no fun b hb => h b (List.mem_cons_of_mem _ hb)
theorem kv_put {ps : List Nm} {f : Nm → V} {t : Nm} {v : V} (h : t ∈ ps) : putK (ps.map fun x => ((.inr x : Key), f x)) (.inr t) v = ps.map fun x => ((.inr x : Key), if x = t then v else f x) := by
  unfold putK
  rw [if_pos (by
    rw [List.any_eq_true]
    exact ⟨_, List.mem_map.mpr ⟨t, h, rfl⟩, by simp⟩), List.map_map]
  refine List.map_congr_left fun x _ => ?_
  show (if (Sum.inr x : Key) = .inr t then ((Sum.inr x : Key), v) else (.inr x, f x)) = _
  by_cases e : x = t
  · subst e; simp
  · rw [if_neg fun z => e (Sum.inr.inj z), if_neg e]
/-- dk[name] += 1 -/
theorem s_incr {i j : Nat} {ps : List Nm} {f : Nm → Int} {t : Nm} (hd : H l = some (.dK (ps.map fun x => ((.inr x : Key), V.int (f x))))) (hi : σ[i]? = some (some (.ref l))) (hj : σ[j]? = some (some (.str t))) (hn : ps.Nodup) (ht : t ∈ ps) (hz : ps.length ≤ 1000)
    (k : ∀ H1, H1 l = some (.dK (ps.map fun x => ((.inr x : Key), V.int (if x = t then f x + 1 else f x)))) → Oth l H H1 → D.nx σ H1) : sDAug (tVar i) (tVar j) (tC (.int 1)) rAdd D σ H := by
  refine ⟨_, hi, _, hj, l, .int (f t), rfl, .inl ⟨_, .inr t, .inl hd, rfl, (kv_in (key := fun x => x) (val := fun x => V.int (f x)) (by rw [List.map_id']; exact hn) ht).symm⟩, ⟨_, _, rfl, rfl, _, .inl ⟨_, .inr t, hd, rfl, ?_, rfl⟩, k _ ?_ Oth.upd_⟩⟩
  · rw [List.length_map]
    exact sz_lt (by omega)
  · rw [upd_same, kv_put ht]
    refine congrArg (fun z => some (HO.dK z)) (List.map_congr_left fun x _ => ?_)
    by_cases e : x = t
    · subst e; simp
    · simp [e]
/-- dk[name] = number, a new name -/
theorem s_dputN {i j : Nat} {kvs : List (Key × V)} {t : Nm} {n : Int} (hd : H l = some (.dK kvs)) (hi : σ[i]? = some (some (.ref l))) (hj : σ[j]? = some (some (.str t))) (hv : Ev te σ H (.int n)) (hnew : valV kvs (.inr t) = none) (hz : kvs.length ≤ 1000)
    (k : ∀ H1, H1 l = some (.dK (kvs ++ [(.inr t, .int n)])) → Oth l H H1 → D.nx σ H1) : sDPut (tVar i) (tVar j) te D σ H :=
  hv H (Ex.refl H) _ fun H1 b => ⟨_, hi, _, hj, l, _, rfl, .inl ⟨_, .inr t, b _ _ hd, rfl, sz_lt (by omega), rfl⟩, k _ (by rw [upd_same, putK_new _ hnew]) ((Oth.ex b).trans Oth.upd_)⟩
/-- dk[name] of a dict of numbers -/
theorem ev_dgetN {ps : List Nm} {f : Nm → V} {t : Nm} (hd : Ev ta σ H (.ref l)) (ha : Rd H l (.dK (ps.map fun x => ((.inr x : Key), f x)))) (hk : Ev tb σ H (.str t)) (hn : ps.Nodup) (ht : t ∈ ps) : Ev (tDGet ta tb) σ H (f t) :=
  ev_dget (k := .inr t) hd ha hk (kv_in (key := fun x => x) (val := f) (by rw [List.map_id']; exact hn) ht)
/-- {key: number for ..} -/
theorem ek_dc {α : Type} {wi : TI} {g : TG} {tt : TT} {tk tv : TE} {vs : List Nat} (l : List α) (enc : α → PyData) (keep : α → Bool) (key : α → Nm) (val : α → Int) (h : IvD K wi σ H (l.map enc)) (hz : l.length ≤ 1000) (hn : (l.map key).Nodup)
    (hs : ∀ a x H1, a ∈ l → Ex H H1 → Dp K H1 x (enc a) → ∀ Q : L2.St → Hp → Prop, (∀ σ2, wipe σ2 vs = wipe σ vs → EvT tt σ2 H1 (keep a) → (keep a = true → EvD K tk σ2 H1 (.str (key a)) ∧ EvD K tv σ2 H1 (.int (val a))) → Q σ2 H1) → g x (wipe σ vs) H1 Q) :
    EvK (tDc wi g tt tk tv vs) σ H ((l.filter keep).map fun a => ((.inr (key a) : Key), V.int (val a))) := fun H0 e0 Q q => h H0 e0 _ fun J B b ⟨G, ⟨Y, w, wy⟩, gk⟩ C hC => by
  have hlen : (l.map enc).length = l.length := List.length_map ..
  have main : ∀ i H', i ≤ l.length → (B C = none ∧ Ex B H' ∧ H' C = some (.dK (((l.take i).filter keep).map fun a => ((.inr (key a) : Key), V.int (val a))))) → (J.stop i H' ∧ Q (.ref C) H') ∨ (J.go i H' ∧ ∀ x H'', J.yld i H' x H'' → g x (wipe σ vs) H'' fun σ2 H2 => wipe σ2 vs = wipe σ vs ∧ tt σ2 H2 fun b H3 =>
      if b = true then tk σ2 H3 fun y H4 => tv σ2 H4 fun z H5 => ∃ kvs k, y = kV k ∧ H5 C = some (.dK kvs) ∧ kvs.length < sizeLine ∧ (i < l.length ∧ B C = none ∧ Ex B (upd H5 C (.dK (putK kvs k z))) ∧ upd H5 C (.dK (putK kvs k z)) C = some (.dK (((l.take (i + 1)).filter keep).map fun a => ((.inr (key a) : Key), V.int (val a))))) else (i < l.length ∧ B C = none ∧ Ex B H3 ∧ H3 C = some (.dK (((l.take (i + 1)).filter keep).map fun a => ((.inr (key a) : Key), V.int (val a)))))) := by
    intro i H' hi ⟨pn, pe, pc⟩
    by_cases hlt : i < l.length
    · refine .inr ⟨w.goes i H' (by omega) (gk H' pe), fun x H'' y => ?_⟩
      obtain ⟨e, d, h1, h2⟩ := wy i H' x H'' (gk H' pe) (w.yields i H' x H'' (by omega) (gk H' pe) y)
      rw [List.getElem?_map] at h1
      obtain ⟨a, ha, rfl⟩ := Option.map_eq_some_iff.mp h1
      have hmem := List.mem_of_getElem? ha
      refine hs a x H'' hmem ((e0.trans b).trans (pe.trans e)) h2 _ fun σ2 hw ht hv => ⟨hw, ?_⟩
      refine ht H'' (Ex.refl _) _ fun H3 e3 => ?_
      have hst : (l.take (i + 1)).filter keep = (l.take i).filter keep ++ (if keep a = true then [a] else []) := by
        rw [take_succ_at ha, List.filter_append, List.filter_cons]
        rfl
      cases hk : keep a with
      | false =>
        rw [if_neg (by simp)]
        rw [hst, if_neg (by rw [hk]; simp), List.append_nil]
        exact ⟨hlt, pn, (pe.trans e).trans e3, (e.trans e3) _ _ pc⟩
      | true =>
        rw [if_pos rfl]
        obtain ⟨hv1, hv2⟩ := hv hk
        refine hv1 H3 e3 _ fun v H4 e4 hvd => hv2 H4 (e3.trans e4) _ fun v2 H5 e5 hvd2 => ?_
        rw [dp_str hvd, dp_int hvd2]
        have pc5 := (((e.trans e3).trans e4).trans e5) _ _ pc
        refine ⟨_, .inr (key a), rfl, pc5, ?_, hlt, pn, Ex.mut ((((pe.trans e).trans e3).trans e4).trans e5) pn, ?_⟩
        · rw [List.length_map]
          have l2 := List.length_filter_le keep (l.take i)
          have l3 := List.length_take_le' i l
          exact sz_lt (by omega)
        · have nw : ∀ c ∈ (l.take i).filter keep, key c ≠ key a := fun c hc z => by
            have hc' := (List.mem_filter.mp hc).1
            have hs2 : (l.take i).map key ++ [key a] = (l.take (i + 1)).map key := by rw [take_succ_at ha, List.map_append]; rfl
            have nd : ((l.take (i + 1)).map key).Nodup := hn.sublist ((List.take_sublist _ _).map _)
            rw [← hs2] at nd
            exact (List.nodup_append.mp nd).2.2 _ (List.mem_map.mpr ⟨c, hc', rfl⟩) _ (List.mem_singleton.mpr rfl) z
          rw [upd_same, putK_new _ (kv_no nw), hst, if_pos hk, List.map_append]
          rfl
    · have hi' : i = l.length := by omega
      subst hi'
      rw [List.take_length] at pc
      refine .inl ⟨?_, q C H' (b.trans pe) (fresh_back b pn) pc⟩
      have := w.stops H' (gk H' pe)
      rw [hlen] at this
      exact this
  refine ⟨fun i m H' => m = l.length - i ∧ i ≤ l.length ∧ (B C = none ∧ Ex B H' ∧ H' C = some (.dK (((l.take i).filter keep).map fun a => ((.inr (key a) : Key), V.int (val a))))), ⟨l.length, by simp, Nat.zero_le _, hC, Ex.new hC, by rw [upd_same]; rfl⟩, ?_⟩
  rintro i m H' ⟨rfl, hi, p⟩
  rcases main i H' hi p with ⟨m1, m2⟩ | ⟨m1, m2⟩
  · exact .inl ⟨m1, m2⟩
  · exact .inr ⟨m1, fun H' => i < l.length ∧ B C = none ∧ Ex B H' ∧ H' C = some (.dK (((l.take (i + 1)).filter keep).map fun a => ((.inr (key a) : Key), V.int (val a)))), fun H' ⟨a1, a2⟩ => ⟨l.length - (i + 1), by omega, rfl, a1, a2⟩, m2⟩

/-! ### two fors -/
theorem en_lc2 {α β : Type} {wi wi1 : TI} {g g1 : TG} {te : TE} {vs vs1 : List Nat} (l : List α) (enc : α → PyData) (m : α → List β) (enc1 : β → PyData) (out : α → β → PyData) (h : IvD K wi σ H (l.map enc)) (hz : (l.flatMap m).length ≤ 50000) (ht : ∀ a ∈ l, Tp (enc a) = true) (ho : ∀ a b, a ∈ l → b ∈ m a → Tp (out a b) = true)
    (hs : ∀ a x H1, a ∈ l → Ex H H1 → Dp K H1 x (enc a) → ∀ Q : L2.St → Hp → Prop, (∀ σ2, wipe σ2 vs = wipe σ vs → IvB K wi1 σ2 H ((m a).map enc1) →
      (∀ b x1 H2, b ∈ m a → Ex H H2 → TX H1 H2 → Dp K H2 x1 (enc1 b) → ∀ Q1 : L2.St → Hp → Prop, (∀ σ3, wipe σ3 vs1 = wipe σ2 vs1 → EvD K te σ3 H2 (out a b) → Q1 σ3 H2) → g1 x1 (wipe σ2 vs1) H2 Q1) → Q σ2 H1) → g x (wipe σ vs) H1 Q) :
    EvN K (tLc2 wi g tYes wi1 g1 tYes te vs vs1) σ H (l.flatMap fun a => (m a).map (out a)) := fun H0 e0 Q q => h H0 e0 _ fun J B b ⟨G, ⟨Y, w, wy⟩, gk⟩ C hC => by
  have hlen : (l.map enc).length = l.length := List.length_map ..
  have tpAll : ∀ i, Tp.all ((l.take i).flatMap fun a => (m a).map (out a)) = true := fun i => by
    have key : ∀ n : List α, (∀ a ∈ n, a ∈ l) → Tp.all (n.flatMap fun a => (m a).map (out a)) = true := fun n => by
      induction n with
      | nil => intro _; rfl
      | cons c r ih =>
        intro hm
        rw [List.flatMap_cons]
        exact tp_app (tp_of fun z hz => ho c z (hm c List.mem_cons_self) hz) (ih fun z hz => hm z (List.mem_cons_of_mem _ hz))
    exact key _ fun a ha => List.mem_of_mem_take ha
  refine ⟨fun i k H' => k = l.length - i ∧ i ≤ l.length ∧ LcP K B C ((l.take i).flatMap fun a => (m a).map (out a)) H', ⟨l.length, by simp, Nat.zero_le _, hC, Ex.new hC, [], upd_same, .nil⟩, ?_⟩
  rintro i k H' ⟨rfl, hi, p⟩
  by_cases hlt : i < l.length
  · refine .inr ⟨w.goes i H' (by omega) (gk H' p.2.1), fun H' => i < l.length ∧ LcP K B C ((l.take (i + 1)).flatMap fun a => (m a).map (out a)) H', fun H'' ⟨a1, a2⟩ => ⟨l.length - (i + 1), by omega, rfl, a1, a2⟩, fun x H'' y => ?_⟩
    obtain ⟨e, d, h1, h2⟩ := wy i H' x H'' (gk H' p.2.1) (w.yields i H' x H'' (by omega) (gk H' p.2.1) y)
    rw [List.getElem?_map] at h1
    obtain ⟨a, ha, rfl⟩ := Option.map_eq_some_iff.mp h1
    have hmem := List.mem_of_getElem? ha
    refine hs a x H'' hmem ((e0.trans b).trans (p.2.1.trans e)) h2 _ fun σ2 hw iv hin => ⟨hw, ?_⟩
    simp only [tYes, if_true]
    refine iv H'' ((e0.trans b).trans (p.2.1.trans e)) _ fun J1 H3 e3 ⟨G1, ⟨Y1, w1, wy1⟩, gk1⟩ => ?_
    have p3 := p.ex (e.trans e3)
    have hfm : (l.take (i + 1)).flatMap (fun a => (m a).map (out a)) = ((l.take i).flatMap fun a => (m a).map (out a)) ++ (m a).map (out a) := by
      rw [take_succ_at ha, List.flatMap_append, List.flatMap_cons, List.flatMap_nil, List.append_nil]
    have hl1 : ((m a).map enc1).length = (m a).length := List.length_map ..
    refine ⟨fun j k H4 => k = (m a).length - j ∧ j ≤ (m a).length ∧ TX H'' H4 ∧ LcP K B C (((l.take i).flatMap fun a => (m a).map (out a)) ++ ((m a).take j).map (out a)) H4, ⟨(m a).length, by simp, Nat.zero_le _, TX.of e3, by simpa using p3⟩, ?_⟩
    rintro j k H4 ⟨rfl, hj, tx, p4⟩
    have g4 : G1 H4 := gk1 H4 ((e0.trans b).trans p4.2.1)
    by_cases hjt : j < (m a).length
    · refine .inr ⟨w1.goes j H4 (by omega) g4, fun H5 => j < (m a).length ∧ TX H'' H5 ∧ LcP K B C (((l.take i).flatMap fun a => (m a).map (out a)) ++ ((m a).take (j + 1)).map (out a)) H5, fun H5 ⟨a1, a2⟩ => ⟨(m a).length - (j + 1), by omega, rfl, a1, a2⟩, fun x1 H5 y1 => ?_⟩
      obtain ⟨e5, d1, h3, h4⟩ := wy1 j H4 x1 H5 g4 (w1.yields j H4 x1 H5 (by omega) g4 y1)
      rw [List.getElem?_map] at h3
      obtain ⟨c, hc, rfl⟩ := Option.map_eq_some_iff.mp h3
      have hcm := List.mem_of_getElem? hc
      refine hin c x1 H5 hcm ((e0.trans b).trans (p4.2.1.trans e5)) (tx.trans (TX.of e5)) h4 _ fun σ3 hw3 hv => ⟨hw3, ?_⟩
      simp only [tYes, if_true]
      refine hv H5 (Ex.refl _) _ fun v H6 e6 hvd => ?_
      have p6 := p4.ex (e5.trans e6)
      obtain ⟨_, _, ws, hws, hwd⟩ := id p6
      have tpw : Tp.all (((l.take i).flatMap fun a => (m a).map (out a)) ++ ((m a).take j).map (out a)) = true := tp_app (tpAll i) (tp_of fun z hz => ho a z hmem (List.mem_of_mem_take hz))
      refine ⟨ws, hws, ?_, hjt, (tx.trans (TX.of (e5.trans e6))).trans (TX.updL hws), ?_⟩
      · have l1 := dp_len hwd
        have l2 : (((l.take i).flatMap fun a => (m a).map (out a)) ++ ((m a).take j).map (out a)).length ≤ (l.flatMap m).length := by
          have q1 : ((l.take (i + 1)).flatMap m).length ≤ (l.flatMap m).length := by
            conv => rhs; rw [← List.take_append_drop (i + 1) l, List.flatMap_append, List.length_append]
            omega
          have q2 : ((l.take (i + 1)).flatMap m).length = ((l.take i).flatMap m).length + (m a).length := by rw [take_succ_at ha, List.flatMap_append, List.length_append, List.flatMap_cons, List.flatMap_nil, List.append_nil]
          have q3 : ((l.take i).flatMap fun a => (m a).map (out a)).length = ((l.take i).flatMap m).length := by
            rw [List.length_flatMap, List.length_flatMap]
            exact congrArg List.sum (List.map_congr_left fun z _ => List.length_map ..)
          rw [List.length_append, q3, List.length_map, List.length_take]
          omega
        exact sz_lt (by omega)
      · have := p6.app hws hvd tpw (ho a c hmem hcm)
        rw [List.append_assoc] at this
        rw [take_succ_at hc, List.map_append]
        exact this
    · have hj' : j = (m a).length := by omega
      subst hj'
      rw [List.take_length] at p4
      refine .inl ⟨?_, hlt, by rw [hfm]; exact p4⟩
      have := w1.stops H4 g4
      rw [hl1] at this
      exact this
  · have hi' : i = l.length := by omega
    subst hi'
    rw [List.take_length] at p
    obtain ⟨pn, pe, ws, hws, hwd⟩ := p
    refine .inl ⟨?_, q C ws H' (b.trans pe) (fresh_back b pn) hws hwd⟩
    have := w.stops H' (gk H' pe)
    rw [hlen] at this
    exact this

/-! ### ints and truths of lists -/
theorem dps_bools : ∀ {vs : List V} {xs : List Bool}, DpAll K H vs (xs.map .bool) → vs = xs.map .bl
  | _, [], h => by cases h; rfl
  | _, x :: xs, h => by
    cases h with
    | cons h1 h2 => rw [dp_bool h1, dps_bools h2]; rfl
theorem ev_all {bs : List Bool} (h : EvN K ta σ H (bs.map .bool)) : Ev (tCB (rAll K) (tCons ta tNil)) σ H (.bl (bs.all id)) := fun H1 a Q q => h H1 a _ fun p vs H2 b _ hp hd => by
  rw [dps_bools hd] at hp
  exact ⟨p, bs, rfl, sq_of hp, q H2 b⟩
theorem ev_sum {ns : List Int} (h : EvN K ta σ H (ns.map .int)) : Ev (tCB (rSum K) (tCons ta tNil)) σ H (.int ns.sum) := fun H1 a Q q => h H1 a _ fun p vs H2 b _ hp hd => by
  rw [dps_ints hd] at hp
  exact ⟨p, ns, rfl, sq_of hp, q H2 b⟩
theorem ev_lenN' (h : EvN K ta σ H ds) : Ev (tCB (rLenS K) (tCons ta tNil)) σ H (.int (ds.length : Nat)) := ed_lenL h.toD
/-! ### locked dict, its keys -/
theorem en_lock {te : TE} {u : HO} (hu : H l = some u) (m : Mut (some u)) (h : ∀ H1 o, Ex H H1 → EvN K te σ (upd H1 l (.frz o u)) ds) (t : Tp.all ds = true) : EvN K (tLockE te) σ H ds := fun H1 a Q q =>
  ⟨l, u, a _ _ hu, m, fun od => h H1 od a _ (Ex.refl _) _ fun p vs H2 b hn hp hd => by
    have h2 : H2 l = some (.frz od u) := b _ _ upd_same
    have ne : p ≠ l := fun z => by rw [z, upd_same] at hn; cases hn
    rw [upd_ne ne] at hn
    have ex : Ex H1 (upd H2 l u) := fun c o hc => by
      by_cases e : c = l
      · subst e
        rw [upd_same]
        rw [a _ _ hu] at hc
        exact hc
      · rw [upd_ne e]
        exact b c o (by rw [upd_ne e]; exact hc)
    have tx : TX H2 (upd H2 l u) := by
      refine ⟨fun c xs hc => ?_, fun c o xs hc => ?_⟩
      · by_cases e : c = l
        · subst e
          rw [h2] at hc
          cases hc
        · rw [upd_ne e]; exact hc
      · by_cases e : c = l
        · subst e
          rw [h2] at hc
          cases hc
          exact absurd m (by exact fun z => z)
        · rw [upd_ne e]; exact hc
    exact ⟨h2, q p vs _ ex hn (by rw [upd_ne ne]; exact hp) (dps_tx tx hd t)⟩⟩
theorem iv_keys {ks : List (Nm × V)} {o : Obj} (h : Ev ta σ H (.ref l)) (hl : H l = some (.frz o (.dK (ks.map fun q => ((.inr q.1 : Key), q.2))))) : IvB K (iKeys ta) σ H (ks.map fun q => .str q.1) := fun H1 a R r =>
  h H1 a _ fun H2 b => ⟨l, o, rfl, .inl ⟨_, (a.trans b) _ _ hl, r _ H2 b ⟨fun H => H l = some (.frz o (.dK (ks.map fun q => ((.inr q.1 : Key), q.2)))), ⟨fun i H x H' => H' = H ∧ ∃ k v, (ks.map fun q => ((.inr q.1 : Key), q.2))[i]? = some (k, v) ∧ x = kV k, by
    have w := walk_keys (d := l) (o := o) (kvs := ks.map fun q => ((.inr q.1 : Key), q.2))
    rw [List.length_map] at w
    rw [List.length_map]
    exact w, fun i H x H' g y => by
      obtain ⟨rfl, k, v, h1, rfl⟩ := y
      rw [List.getElem?_map] at h1
      obtain ⟨z, hz, e⟩ := Option.map_eq_some_iff.mp h1
      cases e
      exact ⟨Ex.refl _, .str z.1, by rw [List.getElem?_map, hz]; rfl, .str _⟩⟩, fun H3 c => c _ _ hl⟩⟩⟩
end
end Tb
set_option Elab.async false
set_option linter.all false
set_option maxRecDepth 100000
set_option maxHeartbeats 4000000
/-! Loops and comprehensions over mapped lists and over range(len(..)). -/
namespace Tb
open PySem PySem.Spec PyProof.Rows L2 Evl
section
variable {K : PySem.W.Frag} {σ : L2.St} {B H H' H1 : Hp} {ta tb te tl : TE} {tas tr : TA} {t u : TT} {x y z v : V} {d e : PyData} {ds es rs : List PyData} {l : Addr}
variable {D : Ends} {tu tw tz : TS} {g : TG}
theorem ev_isi {n t : String} {b : Bool} (h : Ev ta σ H x) (ty : ∀ H1, Ex H H1 → TyX K H1 x (.type t)) (e : kitB t n = some b) : Ev (tCB (rIsi K) (tCons ta (tCons (tC (.ty n)) tNil))) σ H (.bl b) := fun H1 a Q q =>
  h H1 a _ fun H2 b2 => ⟨_, _, _, _, _, rfl, .ty n, ty H2 (a.trans b2), kit_ty e, q H2 b2⟩
theorem q_forM {α : Type} (l : List α) (enc : α → PyData) {wi : TI} (h : IvB K wi σ H (l.map enc)) {H0 : Hp} (a0 : Ex H H0) (Pv : Nat → L2.St → Hp → Prop) (h0 : ∀ H1, Ex H0 H1 → Pv 0 σ H1) (hG : ∀ i σ' H', Pv i σ' H' → Ex H H')
    (hs : ∀ i a x σ' H1 H2, l[i]? = some a → Pv i σ' H1 → Ex H1 H2 → Dp K H2 x (enc a) → g x σ' H2 fun σ2 H3 => tu { D with nx := Pv (i + 1), ct := Pv (i + 1), bk := tz D } σ2 H3) (hd : ∀ σ' H', Pv l.length σ' H' → tz D σ' H') : tSeq (tFor wi g tu) tz D σ H0 := by
  refine q_for h a0 Pv h0 hG (fun i d x σ' H1 H2 hi p e hx => ?_) fun σ' H' p => hd σ' H' (by rw [List.length_map] at p; exact p)
  rw [List.getElem?_map] at hi
  obtain ⟨a, ha, rfl⟩ := Option.map_eq_some_iff.mp hi
  exact hs i a x σ' H1 H2 ha p e hx
theorem s_forM {α : Type} (l : List α) (enc : α → PyData) {wi : TI} (h : IvB K wi σ H (l.map enc)) {H0 : Hp} (a0 : Ex H H0) (Pv : Nat → L2.St → Hp → Prop) (h0 : ∀ H1, Ex H0 H1 → Pv 0 σ H1) (hG : ∀ i σ' H', Pv i σ' H' → Ex H H')
    (hs : ∀ i a x σ' H1 H2, l[i]? = some a → Pv i σ' H1 → Ex H1 H2 → Dp K H2 x (enc a) → g x σ' H2 fun σ2 H3 => tu { D with nx := Pv (i + 1), ct := Pv (i + 1), bk := D.nx } σ2 H3) (hd : ∀ σ' H', Pv l.length σ' H' → D.nx σ' H') : tFor wi g tu D σ H0 :=
  q_forM (tz := fun D => D.nx) l enc h a0 Pv h0 hG hs hd
theorem q_forNM {α : Type} (l : List α) (enc : α → PyData) {wi : TI} (h : IvD K wi σ H (l.map enc)) (Pv : Hp → Nat → L2.St → Hp → Prop) (h0 : ∀ B, Ex H B → Pv B 0 σ B) (hG : ∀ B i σ' H', Pv B i σ' H' → Ex B H')
    (hs : ∀ B i a x σ' H1 H2, Ex H B → l[i]? = some a → Pv B i σ' H1 → Ex H1 H2 → Dp K H2 x (enc a) → g x σ' H2 fun σ2 H3 => tu { D with nx := Pv B (i + 1), ct := Pv B (i + 1), bk := tz D } σ2 H3) (hd : ∀ B σ' H', Ex H B → Pv B l.length σ' H' → tz D σ' H') : tSeq (tFor wi g tu) tz D σ H := by
  refine q_forN h Pv h0 hG (fun B i d x σ' H1 H2 a0 hi p e hx => ?_) fun B σ' H' b p => hd B σ' H' b (by rw [List.length_map] at p; exact p)
  rw [List.getElem?_map] at hi
  obtain ⟨a, ha, rfl⟩ := Option.map_eq_some_iff.mp hi
  exact hs B i a x σ' H1 H2 a0 ha p e hx
theorem s_forNM {α : Type} (l : List α) (enc : α → PyData) {wi : TI} (h : IvD K wi σ H (l.map enc)) (Pv : Hp → Nat → L2.St → Hp → Prop) (h0 : ∀ B, Ex H B → Pv B 0 σ B) (hG : ∀ B i σ' H', Pv B i σ' H' → Ex B H')
    (hs : ∀ B i a x σ' H1 H2, Ex H B → l[i]? = some a → Pv B i σ' H1 → Ex H1 H2 → Dp K H2 x (enc a) → g x σ' H2 fun σ2 H3 => tu { D with nx := Pv B (i + 1), ct := Pv B (i + 1), bk := D.nx } σ2 H3) (hd : ∀ B σ' H', Ex H B → Pv B l.length σ' H' → D.nx σ' H') : tFor wi g tu D σ H :=
  q_forNM (tz := fun D => D.nx) l enc h Pv h0 hG hs hd
theorem getRange {n i : Nat} : (List.range n)[i]? = if i < n then some i else none := by
  by_cases h : i < n
  · rw [if_pos h, List.getElem?_range h]
  · rw [if_neg h, List.getElem?_eq_none (by rw [List.length_range]; omega)]
theorem zip_rng {α : Type} (L : List α) : L.zipIdx.map (fun q => PyData.int ((q.2 : Nat) : Int)) = rngD L.length := by
  unfold rngD
  refine List.ext_getElem? fun i => ?_
  rw [List.getElem?_map, List.getElem?_map, List.getElem?_zipIdx, getRange]
  by_cases h : i < L.length
  · rw [List.getElem?_eq_getElem h, if_pos h]; simp
  · rw [List.getElem?_eq_none (by omega), if_neg h]; rfl
theorem zip_at {α : Type} {L : List α} {q : α × Nat} (h : q ∈ L.zipIdx) : L[q.2]? = some q.1 := List.mem_zipIdx_iff_getElem?.mp h
/-- a for over range(len L) -/
theorem q_forR {α : Type} (L : List α) {j : Nat} {n : Int} (h : EvA tas σ H [.int n]) (hn : n = (L.length : Nat)) (hz : L.length ≤ 1000000) {H0 : Hp} (a0 : Ex H H0) (Pv : Nat → L2.St → Hp → Prop) (h0 : ∀ H1, Ex H0 H1 → Pv 0 σ H1) (hG : ∀ i σ' H', Pv i σ' H' → Ex H H')
    (hs : ∀ i a σ' H1, L[i]? = some a → Pv i σ' H1 → tu { D with nx := Pv (i + 1), ct := Pv (i + 1), bk := tz D } (σ'.set j (some (.int (i : Nat)))) H1) (hd : ∀ σ' H', Pv L.length σ' H' → tz D σ' H') : tSeq (tFor (iRng1 tas) (gName j) tu) tz D σ H0 := by
  subst hn
  refine (h H0 a0 _ fun H2 b => ⟨(L.length : Nat), rfl, by omega, by omega, ?_⟩)
  have e2 : ((L.length : Nat) : Int).toNat = L.length := by omega
  rw [e2]
  refine for_it (D := { D with nx := tz D }) (walk_range (lo := 0) (n := L.length)) Pv (h0 H2 b) (fun _ _ _ _ _ => trivial) (fun i x σ' H1 H2' hi p y => ?_) hd
  obtain ⟨rfl, rfl⟩ := y
  have := hs i L[i] σ' _ (List.getElem?_eq_getElem hi) p
  show tu _ (σ'.set j (some (V.int (0 + (i : Int))))) _
  rw [Int.zero_add]
  exact this
theorem s_forR {α : Type} (L : List α) {j : Nat} {n : Int} (h : EvA tas σ H [.int n]) (hn : n = (L.length : Nat)) (hz : L.length ≤ 1000000) {H0 : Hp} (a0 : Ex H H0) (Pv : Nat → L2.St → Hp → Prop) (h0 : ∀ H1, Ex H0 H1 → Pv 0 σ H1) (hG : ∀ i σ' H', Pv i σ' H' → Ex H H')
    (hs : ∀ i a σ' H1, L[i]? = some a → Pv i σ' H1 → tu { D with nx := Pv (i + 1), ct := Pv (i + 1), bk := D.nx } (σ'.set j (some (.int (i : Nat)))) H1) (hd : ∀ σ' H', Pv L.length σ' H' → D.nx σ' H') : tFor (iRng1 tas) (gName j) tu D σ H0 :=
  q_forR (tz := fun D => D.nx) L h hn hz a0 Pv h0 hG hs hd
theorem en_lcR {α : Type} (L : List α) {j : Nat} {n : Int} {tt : TT} {te : TE} {vs : List Nat} (keep : α → Bool) (out : Nat → α → PyData) (h : EvA tas σ H [.int n]) (hn : n = (L.length : Nat)) (hz : L.length ≤ 50000) (hj : j ∈ vs) (ho : ∀ i a, Tp (out i a) = true)
    (hs : ∀ i a H1, L[i]? = some a → Ex H H1 → EvT tt ((wipe σ vs).set j (some (.int (i : Nat)))) H1 (keep a) ∧ (keep a = true → EvD K te ((wipe σ vs).set j (some (.int (i : Nat)))) H1 (out i a))) :
    EvN K (tLc (iRng1 tas) (gName j) tt te vs) σ H ((L.zipIdx.filter fun q => keep q.1).map fun q => out q.2 q.1) := by
  subst hn
  have iv := (iv_rng (K := K) h (by omega)).toD
  rw [← zip_rng] at iv
  refine en_lc L.zipIdx (fun q => PyData.int ((q.2 : Nat) : Int)) (fun q => keep q.1) (fun q => out q.2 q.1) iv (by rw [List.length_zipIdx]; exact hz) (fun a _ _ => ho _ _) fun q x H1 hq e hx Q k => ?_
  rw [dp_int hx]
  obtain ⟨h1, h2⟩ := hs q.2 q.1 H1 (zip_at hq) e
  exact k _ ((wset hj).trans wip) h1 h2
theorem zip_filter {α β : Type} (keep : α → Bool) (out : α → β) : ∀ (L : List α) (n : Nat), ((L.zipIdx n).filter fun q => keep q.1).map (fun q => out q.1) = (L.filter keep).map out
  | [], _ => rfl
  | a :: L, n => by
    rw [List.zipIdx_cons, List.filter_cons, List.filter_cons]
    have ih := zip_filter keep out L (n + 1)
    by_cases h : keep a = true
    · rw [if_pos h, if_pos h, List.map_cons, List.map_cons, ih]
    · rw [if_neg h, if_neg h, ih]
theorem en_lcR1 {α : Type} (L : List α) {j : Nat} {n : Int} {tt : TT} {te : TE} {vs : List Nat} (keep : α → Bool) (out : α → PyData) (h : EvA tas σ H [.int n]) (hn : n = (L.length : Nat)) (hz : L.length ≤ 50000) (hj : j ∈ vs) (ho : ∀ a, Tp (out a) = true)
    (hs : ∀ i a H1, L[i]? = some a → Ex H H1 → EvT tt ((wipe σ vs).set j (some (.int (i : Nat)))) H1 (keep a) ∧ (keep a = true → EvD K te ((wipe σ vs).set j (some (.int (i : Nat)))) H1 (out a))) :
    EvN K (tLc (iRng1 tas) (gName j) tt te vs) σ H ((L.filter keep).map out) := by
  have q := en_lcR L keep (fun _ => out) h hn hz hj (fun _ => ho) hs
  rw [zip_filter] at q
  exact q
theorem et_yes : EvT tYes σ H true := fun H2 _ Q q => q H2 (Ex.refl _)
theorem en_lcR0 {α : Type} (L : List α) {j : Nat} {n : Int} {te : TE} {vs : List Nat} (out : α → PyData) (h : EvA tas σ H [.int n]) (hn : n = (L.length : Nat)) (hz : L.length ≤ 50000) (hj : j ∈ vs) (ho : ∀ a, Tp (out a) = true)
    (hs : ∀ i a H1, L[i]? = some a → Ex H H1 → EvD K te ((wipe σ vs).set j (some (.int (i : Nat)))) H1 (out a)) :
    EvN K (tLc (iRng1 tas) (gName j) tYes te vs) σ H (L.map out) := by
  have q := en_lcR1 L (fun _ => true) out h hn hz hj ho (tt := tYes) fun i a H1 hi e => ⟨et_yes, fun _ => hs i a H1 hi e⟩
  rw [List.filter_eq_self.mpr fun _ _ => rfl] at q
  exact q
theorem ea1 (h : Ev ta σ H x) : EvA (tCons ta tNil) σ H [x] := ea_cons h ea_nil
/-- [.. for name in ..] -/
theorem en_lcN {α : Type} {wi : TI} {j : Nat} {tt : TT} {te : TE} {vs : List Nat} (l : List α) (enc : α → PyData) (keep : α → Bool) (out : α → PyData) (h : IvD K wi σ H (l.map enc)) (hz : l.length ≤ 50000) (hj : j ∈ vs) (ho : ∀ a, a ∈ l → keep a = true → Tp (out a) = true)
    (hs : ∀ a x H1, a ∈ l → Ex H H1 → Dp K H1 x (enc a) → EvT tt ((wipe σ vs).set j (some x)) H1 (keep a) ∧ (keep a = true → EvD K te ((wipe σ vs).set j (some x)) H1 (out a))) :
    EvN K (tLc wi (gName j) tt te vs) σ H ((l.filter keep).map out) :=
  en_lc l enc keep out h hz ho fun a x H1 ha e hx Q k => k _ ((wset hj).trans wip) (hs a x H1 ha e hx).1 (hs a x H1 ha e hx).2
theorem en_lcN0 {α : Type} {wi : TI} {j : Nat} {te : TE} {vs : List Nat} (l : List α) (enc : α → PyData) (out : α → PyData) (h : IvD K wi σ H (l.map enc)) (hz : l.length ≤ 50000) (hj : j ∈ vs) (ho : ∀ a, a ∈ l → Tp (out a) = true)
    (hs : ∀ a x H1, a ∈ l → Ex H H1 → Dp K H1 x (enc a) → EvD K te ((wipe σ vs).set j (some x)) H1 (out a)) :
    EvN K (tLc wi (gName j) tYes te vs) σ H (l.map out) :=
  en_lc0 l enc out h hz ho fun a x H1 ha e hx Q k => k _ ((wset hj).trans wip) (hs a x H1 ha e hx)
theorem ek_new : EvK tDNewK σ H [] := fun H1 _ Q q p hp => q p _ (Ex.new hp) hp upd_same
theorem ek_dc0 {α : Type} {wi : TI} {g : TG} {tk tv : TE} {vs : List Nat} (l : List α) (enc : α → PyData) (key : α → Nm) (val : α → Int) (h : IvD K wi σ H (l.map enc)) (hz : l.length ≤ 1000) (hn : (l.map key).Nodup)
    (hs : ∀ a x H1, a ∈ l → Ex H H1 → Dp K H1 x (enc a) → ∀ Q : L2.St → Hp → Prop, (∀ σ2, wipe σ2 vs = wipe σ vs → EvD K tk σ2 H1 (.str (key a)) ∧ EvD K tv σ2 H1 (.int (val a)) → Q σ2 H1) → g x (wipe σ vs) H1 Q) :
    EvK (tDc wi g tYes tk tv vs) σ H (l.map fun a => ((.inr (key a) : Key), V.int (val a))) := by
  have q := ek_dc (tt := tYes) l enc (fun _ => true) key val h hz hn fun a x H1 ha e hx Q k => hs a x H1 ha e hx Q fun σ2 hw hv => k σ2 hw et_yes fun _ => hv
  rw [List.filter_eq_self.mpr fun _ _ => rfl] at q
  exact q
theorem ev_z {n : Int} (h : Ev ta σ H (.int (n + (([] : List PyData).length : Nat)))) : Ev ta σ H (.int n) := ev_is h (by simp)
end
end Tb
set_option Elab.async false
set_option linter.all false
set_option maxRecDepth 100000
set_option maxHeartbeats 4000000
namespace Tb
open PySem PySem.Spec PyProof.Rows L2 Evl
section
variable {K : PySem.W.Frag} {vs : List V} {H : Hp} {Q : VK} {E : XK}
theorem tl_take {l : List (Wy × Nm)} {i : Nat} {q : Wy × Nm} (h : l[i]? = some q) {β : Type} (f : Wy × Nm → β) : (l.take (i + 1)).map f = (l.take i).map f ++ [f q] := by rw [take_succ_at h, List.map_append]; rfl
theorem lenCheckNumber (h : spCheckNumber K vs H Q E) : vs.length = 3 := by obtain ⟨_, _, _, rfl, _⟩ := h; rfl
theorem readCheckNumber (h : spCheckNumber K vs H Q E) : tCheckNumber K { nx := fun _ H' => Q .non H', rt := Q } (start nCheckNumber vs) H := by
  obtain ⟨n, lo, hi, rfl, h1, h2, q⟩ := h
  show tCheckNumber K _ [some (.int n), some (.int lo), some (.int hi)] H
  refine q_when (b := false) (et_or (a := false) (b := false) (et_B (ev_isi (x := .int n) (t := "int") (ev_var rfl) (fun _ _ => .base (.int n)) (by decide +kernel))) fun _ => et_not (a := true) (et_B (ev_isi (x := .int n) (t := "int") (ev_var rfl) (fun _ _ => .base (.int n)) (by decide +kernel)))) (fun z => nomatch z) fun _ H1 a1 => ?_
  refine q_when (b := false) (et_is (et_or (et_lt (a := n) (b := lo) (ev_var rfl) (ev_var rfl)) fun _ => et_gt (a := n) (b := hi) (ev_var rfl) (ev_var rfl)) (by simp; omega)) (fun z => nomatch z) fun _ H2 a2 => ?_
  exact s_retD (ed_vi rfl) ((q.go a1).go a2)
theorem lenArrowsReaches (h : spArrowsReaches K vs H Q E) : vs.length = 1 := by
  obtain ⟨W, hd, _⟩ := h
  exact dp_len hd
theorem readArrowsReaches (h : spArrowsReaches K vs H Q E) : tArrowsReaches K { nx := fun _ H' => Q .non H', rt := Q } (start nArrowsReaches vs) H := by
  obtain ⟨W, hd, hz, q⟩ := h
  obtain ⟨x, rfl, hx⟩ := dp1 hd
  show tArrowsReaches K _ [some x, none, none, none, none, none, none, none, none, none] H
  refine q_unpD (ep_var rfl hx).toD rfl fun xs H1 a1 h1 => ?_
  obtain ⟨v1, v2, v3, rfl, h11, h12, h13⟩ := dp3 h1
  refine ⟨_, _, rfl, _, _, rfl, _, _, rfl, rfl, ?_⟩
  refine q_newL (K := K) fun l H2 P => ?_
  have iv := iv_zipT (K := K) (ep_i1 (ep_var (σ := [some x, some v1, some v2, some v3, some (.ref l), none, none, none, none, none]) (i := 1) rfl h11)) (ep_var (i := 2) rfl h12)
  rw [zipWH] at iv
  refine q_forM (W.ways.zip W.heads) _ iv P.2.1 (fun i σ' H' => (∃ a b c d e, σ' = [some x, some v1, some v2, some v3, some (.ref l), a, b, c, d, e]) ∧ LcP K H1 l (((W.ways.zip W.heads).take i).map fun q => wayD (q.1.1, tl q.1 q.2, q.2)) H') (fun H3 a3 => ⟨⟨_, _, _, _, _, rfl⟩, P.ex a3⟩) (fun _ _ _ p => p.2.2.1) (fun i q' x' σ' H3 H4 hq ⟨⟨_, _, _, _, _, e⟩, p⟩ a4 hx' => ?_) fun σ' H3 ⟨⟨_, _, _, _, _, e⟩, p⟩ => ?_
  · subst e
    have hi := (List.getElem?_eq_some_iff.mp hq).1
    rw [List.length_zip] at hi
    refine g_wayhead hx' ?_
    refine q_asg (es_ (ed_tl (K := K) rfl rfl rfl)) fun H5 a5 => ?_
    refine s_acc (p.ex (a4.trans a5)) rfl (ed_tup (eds_cons (ed_vs rfl) (eds2 (ed_vs rfl) (ed_vs rfl)))) (tp_map (fun _ => rfl) _) rfl ?_ fun H6 P6 _ _ => ⟨⟨_, _, _, _, _, rfl⟩, ?_⟩
    · rw [List.length_map, List.length_take]; omega
    · rw [tl_take hq]; exact P6
  · subst e
    rw [List.take_length] at p
    refine s_retAcc p rfl ?_
    unfold arrR at q
    rw [List.map_map] at q
    exact q.go a1
theorem g_placecrowd {i j k : Nat} {σ : L2.St} {x : V} {p : Nm} {n : Int} {Q : L2.St → Hp → Prop} (hx : Dp K H x (.tuple [.str p, crD n])) (q : ∀ v, Dp K H v (.tuple []) → Q (((σ.set i (some (.str p))).set j (some (.int n))).set k (some v)) H) :
    gTup K 2 (gCons (gName i) (gCons (gTup K 2 (gCons (gName j) (gCons (gName k) gNil))) gNil)) x σ H Q := by
  refine g_tup hx rfl fun xs hd => ?_
  obtain ⟨v, w', rfl, h1, h2⟩ := dp2 hd
  refine ⟨v, _, rfl, ?_⟩
  rw [dp_str h1]
  refine ⟨_, _, rfl, g_tup h2 rfl fun ys hd' => ?_⟩
  obtain ⟨a, b, rfl, h3, h4⟩ := dp2 hd'
  rw [dp_int h3]
  exact ⟨_, _, rfl, _, _, rfl, rfl, rfl, q _ h4⟩
theorem zipPC (ps : List Nm) (cr : List Int) : pairsD (ps.map .str) (cr.map crD) = (ps.zip cr).map fun q => .tuple [.str q.1, crD q.2] := pairsD_zip .str crD ps cr
theorem lenManyAt (h : spManyAt K vs H Q E) : vs.length = 1 := by
  obtain ⟨W, hd, _⟩ := h
  exact dp_len hd
theorem readManyAt (h : spManyAt K vs H Q E) : tManyAt K { nx := fun _ H' => Q .non H', rt := Q } (start nManyAt vs) H := by
  obtain ⟨W, hd, hn, hl, hz, q⟩ := h
  obtain ⟨x, rfl, hx⟩ := dp1 hd
  show tManyAt K _ [some x, none, none, none, none] H
  refine q_asgK ek_new fun l H2 a2 hn2 hp2 => ?_
  have iv := iv_zipT (K := K) (ep_i0 (ep_i0 (ep_var (σ := [some x, some (.ref l), none, none, none]) (i := 0) rfl hx))) (ep_i2 (ep_var (i := 0) rfl hx))
  rw [zipPC] at iv
  refine q_forM (W.places.zip W.crowd) _ iv a2 (fun i σ' H' => (∃ a b c, σ' = [some x, some (.ref l), a, b, c]) ∧ Ex H H' ∧ H' l = some (.dK (((W.places.zip W.crowd).take i).map fun q => (.inr q.1, .int q.2)))) (fun H3 a3 => ⟨⟨_, _, _, rfl⟩, a2.trans a3, a3 _ _ hp2⟩) (fun _ _ _ p => p.2.1) (fun i q' x' σ' H3 H4 hq ⟨⟨_, _, _, e⟩, p1, p2⟩ a4 hx' => ?_) fun σ' H3 ⟨⟨_, _, _, e⟩, p1, p2⟩ => ?_
  · subst e
    have hi := (List.getElem?_eq_some_iff.mp hq).1
    rw [List.length_zip] at hi
    refine g_placecrowd hx' fun v hv => ?_
    refine s_dputN (t := q'.1) (n := q'.2) (a4 _ _ p2) rfl rfl (ev_z (ev_add (ev_var rfl) (ed_lenT (ed_var rfl hv)))) ?_ ?_ fun H5 h5 o => ⟨⟨_, _, _, rfl⟩, o.ofB hn2 (p1.trans a4), ?_⟩
    · refine kv_no (key := fun q : Nm × Int => q.1) (val := fun q => V.int q.2) fun a ha z => ?_
      have nd : (((W.places.zip W.crowd).take (i + 1)).map (·.1)).Nodup := by
        have := List.map_fst_zip (l₁ := W.places) (l₂ := W.crowd) (by omega)
        refine List.Nodup.sublist ((List.take_sublist _ _).map _) ?_
        rw [this]
        exact hn
      rw [take_succ_at hq, List.map_append] at nd
      exact (List.nodup_append.mp nd).2.2 _ (List.mem_map.mpr ⟨a, ha, rfl⟩) _ (List.mem_singleton.mpr rfl) z
    · rw [List.length_map, List.length_take]; omega
    · rw [h5, take_succ_at hq, List.map_append]; rfl
  · subst e
    rw [List.take_length] at p2
    exact ev_var rfl H3 (Ex.refl _) _ fun H4 a4 => q l H4 (p1.trans a4) hn2 (a4 _ _ p2)
theorem g_crowd {j k : Nat} {σ : L2.St} {x : V} {n : Int} {Q : L2.St → Hp → Prop} (hx : Dp K H x (crD n)) (q : ∀ v, Dp K H v (.tuple []) → Q ((σ.set j (some (.int n))).set k (some v)) H) :
    gTup K 2 (gCons (gName j) (gCons (gName k) gNil)) x σ H Q := by
  refine g_tup hx rfl fun ys hd' => ?_
  obtain ⟨a, b, rfl, h3, h4⟩ := dp2 hd'
  rw [dp_int h3]
  exact ⟨_, _, rfl, _, _, rfl, rfl, q _ h4⟩
theorem lenWalkerCounts (h : spWalkerCounts K vs H Q E) : vs.length = 1 := by
  obtain ⟨W, hd, _⟩ := h
  exact dp_len hd
theorem readWalkerCounts (h : spWalkerCounts K vs H Q E) : tWalkerCounts K { nx := fun _ H' => Q .non H', rt := Q } (start nWalkerCounts vs) H := by
  obtain ⟨W, hd, hz, q⟩ := h
  obtain ⟨x, rfl, hx⟩ := dp1 hd
  show tWalkerCounts K _ [some x, none, none] H
  refine s_retN (en_lc0 W.crowd crD .int (iv_tup (ep_i2 (ep_var rfl hx))).toD (by omega) (fun _ _ => rfl) fun n x' H3 hn a3 hx' Q' k => ?_) q
  refine g_crowd hx' fun v hv => ?_
  refine k _ wi2 ?_
  exact ed_int (ev_z (ev_add (ev_var rfl) (ed_lenT (ed_var rfl hv))))
theorem lenLCounts (h : spLCounts K vs H Q E) : vs.length = 1 := by
  obtain ⟨W, hd, _⟩ := h
  exact dp_len hd
theorem readLCounts (h : spLCounts K vs H Q E) : tLCounts K { nx := fun _ H' => Q .non H', rt := Q } (start nLCounts vs) H := by
  obtain ⟨W, hd, hz, q⟩ := h
  obtain ⟨x, rfl, hx⟩ := dp1 hd
  show tLCounts K _ [some x, none] H
  refine s_retN (en_lcN0 W.crowd crD .int (iv_tup (ep_i2 (ep_var rfl hx))).toD (by omega) (by decide) (fun _ _ => rfl) fun n x' H3 hn a3 hx' => ?_) q
  exact ed_int (ev_z (ev_add (ei (ed_i0 (ed_var rfl hx'))) (ed_lenT (ed_i1 (ed_var rfl hx')))))
theorem lenCheckBorders (h : spCheckBorders K vs H Q E) : vs.length = 2 := by
  obtain ⟨p, q, hd, _⟩ := h
  exact dp_len hd
theorem readCheckBorders (h : spCheckBorders K vs H Q E) : tCheckBorders K { nx := fun _ H' => Q .non H', rt := Q } (start nCheckBorders vs) H := by
  obtain ⟨p, p', hd, hl, q⟩ := h
  obtain ⟨x, y, rfl, hx, hy⟩ := dp2 hd
  show tCheckBorders K _ [some x, some y] H
  refine s_when (b := false) (et_is (et_neI (ed_lenT (ep_i1 (ep_var rfl hx)).toD) (ed_lenT (ep_i1 (ep_var rfl hy)).toD)) ?_) (fun z => nomatch z) fun _ H1 a1 => q _ _ a1 .non
  rw [List.length_map, List.length_map, hl]
  simp
end
end Tb
set_option Elab.async false
set_option linter.all false
set_option maxRecDepth 100000
set_option maxHeartbeats 4000000
namespace Tb
open PySem PySem.Spec PyProof.Rows L2 Evl
section
variable {K : PySem.W.Frag} {vs : List V} {H : Hp} {Q : VK} {E : XK}
theorem cnt_snoc {l : List Nm} {t x : Nm} : (((l ++ [t]).count x : Nat) : Int) = if x = t then ((l.count x : Nat) : Int) + 1 else ((l.count x : Nat) : Int) := by
  rw [List.count_append, List.count_singleton]
  by_cases e : x = t
  · subst e; simp
  · have e' : ¬ t = x := fun z => e z.symm
    simp [e, e']
theorem lenWaysOut (h : spWaysOut K vs H Q E) : vs.length = 2 := by
  obtain ⟨_, _, _, hd, _⟩ := h
  exact dp_len hd
theorem tl_mem {w : Wy} {h : Nm} {ps : List Nm} (a : w.2.1 ∈ ps ∧ w.2.2 ∈ ps) : tl w h ∈ ps := by
  unfold tl
  split
  · exact a.1
  · exact a.2
/-- the dict of counts behind i turns -/
def OutP (B : Hp) (l : Addr) (ps : List Nm) (ts : List Nm) (H : Hp) : Prop := B l = none ∧ Ex B H ∧ H l = some (.dK (ps.map fun x => ((.inr x : Key), V.int ((ts.count x : Nat) : Int))))
theorem OutP.ex {B H' : Hp} {l : Addr} {ps ts : List Nm} (P : OutP B l ps ts H) (e : Ex H H') : OutP B l ps ts H' := ⟨P.1, P.2.1.trans e, e _ _ P.2.2⟩
theorem OutP.incr {B : Hp} {l : Addr} {ps ts : List Nm} {D : Ends} {σ : L2.St} {i j : Nat} {t : Nm} (P : OutP B l ps ts H) (hi : σ[i]? = some (some (.ref l))) (hj : σ[j]? = some (some (.str t))) (hn : ps.Nodup) (ht : t ∈ ps) (hz : ps.length ≤ 1000) (k : ∀ H1, OutP B l ps (ts ++ [t]) H1 → Oth l H H1 → D.nx σ H1) :
    sDAug (tVar i) (tVar j) (tC (.int 1)) rAdd D σ H := by
  refine s_incr P.2.2 hi hj hn ht hz fun H1 h1 o => k H1 ⟨P.1, o.ofB P.1 P.2.1, ?_⟩ o
  rw [h1]
  refine congrArg (fun z => some (HO.dK z)) (List.map_congr_left fun x _ => ?_)
  rw [cnt_snoc]
theorem outP_new {B : Hp} {l : Addr} {ps : List Nm} (a : Ex B H) (hn : B l = none) (h : H l = some (.dK (ps.map fun x => ((.inr x : Key), V.int 0)))) : OutP B l ps [] H := ⟨hn, a, h⟩
theorem readWaysOut (h : spWaysOut K vs H Q E) : tWaysOut K { nx := fun _ H' => Q .non H', rt := Q } (start nWaysOut vs) H := by
  obtain ⟨ps, ways, heads, hd, hn, hz, hm, q⟩ := h
  obtain ⟨x, y, rfl, hx, hy⟩ := dp2 hd
  show tWaysOut K _ [some x, some y, none, none, none, none, none, none, none, none, none] H
  refine q_unpD (ep_var rfl hx).toD rfl fun xs H1 a1 h1 => ?_
  obtain ⟨v1, v2, rfl, h11, h12⟩ := dp2 h1
  refine ⟨_, _, rfl, _, _, rfl, rfl, ?_⟩
  have hy1 := dp_ex a1 hy
  show tSeq _ _ _ [some x, some y, some v1, some v2, none, none, none, none, none, none, none] H1
  have ivp := iv_tup (K := K) (ep_var (σ := [some x, some y, some v1, some v2, none, none, none, none, none, none, none]) (i := 2) rfl h11)
  refine q_asgK (ek_dc0 ps .str (fun x => x) (fun _ => 0) ivp.toD (by omega) (by rw [List.map_id']; exact hn) fun a x' H3 ha a3 hx' Q' k => ?_) fun l H2 a2 hn2 hp2 => ?_
  · refine k _ wi1 ⟨ed_var rfl hx', ed_c_int⟩
  have iv := iv_zipT (K := K) (ep_var (σ := [some x, some y, some v1, some v2, some (.ref l), none, none, none, none, none, none]) (i := 3) rfl h12) (ep_var (i := 1) rfl hy1)
  rw [zipWH] at iv
  refine q_forM (ways.zip heads) _ iv a2 (fun i σ' H' => (∃ a b c d e f, σ' = [some x, some y, some v1, some v2, some (.ref l), a, b, c, d, e, f]) ∧ OutP H1 l ps (((ways.zip heads).take i).map fun q => tl q.1 q.2) H') (fun H3 a3 => ⟨⟨_, _, _, _, _, _, rfl⟩, (outP_new a2 hn2 hp2).ex a3⟩) (fun _ _ _ p => p.2.2.1) (fun i q' x' σ' H3 H4 hq ⟨⟨_, _, _, _, _, _, e⟩, p⟩ a4 hx' => ?_) fun σ' H3 ⟨⟨_, _, _, _, _, _, e⟩, p⟩ => ?_
  · subst e
    refine g_wayhead hx' ?_
    refine q_asg (es_ (ed_tl (K := K) rfl rfl rfl)) fun H5 a5 => ?_
    refine (p.ex (a4.trans a5)).incr rfl rfl hn (tl_mem (hm _ (List.of_mem_zip (List.mem_of_getElem? hq)).1)) (by omega) fun H6 p6 _ => ⟨⟨_, _, _, _, _, _, rfl⟩, ?_⟩
    rw [tl_take hq]
    exact p6
  · subst e
    rw [List.take_length] at p
    exact ev_var rfl H3 (Ex.refl _) _ fun H4 a4 => q l H4 (a1.trans (p.2.1.trans a4)) (fresh_back a1 p.1) (a4 _ _ p.2.2)
theorem lenDues (h : spDues K vs H Q E) : vs.length = 1 := by
  obtain ⟨_, hd, _⟩ := h
  exact dp_len hd
theorem g_way {i j k : Nat} {σ : L2.St} {x : V} {w : Wy} {Q : L2.St → Hp → Prop} (hx : Dp K H x (wayD w)) (q : Q (((σ.set i (some (.str w.1))).set j (some (.str w.2.1))).set k (some (.str w.2.2))) H) :
    gTup K 3 (gCons (gName i) (gCons (gName j) (gCons (gName k) gNil))) x σ H Q := by
  refine g_tup hx rfl fun xs hd => ?_
  obtain ⟨a, b, c, rfl, h3, h4, h5⟩ := dp3 hd
  rw [dp_str h3, dp_str h4, dp_str h5]
  exact ⟨_, _, rfl, _, _, rfl, _, _, rfl, rfl, q⟩
theorem arr_tails (W : Wd) : (arrR W).map (fun w => w.2.1) = tails W.ways W.heads := by
  unfold arrR tails
  rw [List.map_map]
  rfl
theorem arr_mem {W : Wd} (o : ∀ w ∈ W.ways, w.2.1 ∈ W.places ∧ w.2.2 ∈ W.places) {w : Wy} (h : w ∈ arrR W) : w.2.1 ∈ W.places := by
  obtain ⟨q, hq, rfl⟩ := List.mem_map.mp h
  exact tl_mem (o _ (List.of_mem_zip hq).1)
theorem fst_zip {W : Wd} (o : W.crowd.length = W.places.length) : (W.places.zip W.crowd).map (·.1) = W.places := List.map_fst_zip (by omega)
theorem many_at {W : Wd} (o : W.crowd.length = W.places.length) (hn : W.places.Nodup) {q : Nm × Int} (h : q ∈ W.places.zip W.crowd) : valV (manyK W) (.inr q.1) = some (.int q.2) := by
  unfold manyK
  exact kv_in (key := fun q : Nm × Int => q.1) (val := fun q => V.int q.2) (by rw [fst_zip o]; exact hn) h
theorem readDues (h : spDues K vs H Q E) : tDues K { nx := fun _ H' => Q .non H', rt := Q } (start nDues vs) H := by
  obtain ⟨W, hd, o, q⟩ := h
  obtain ⟨x, rfl, hx⟩ := dp1 hd
  have hlo : ∀ w ∈ W.ways, w.2.1 ∈ W.places ∧ w.2.2 ∈ W.places := fun w hw => ⟨(o.lo w hw).1, (o.lo w hw).2.1⟩
  show tDues K _ [some x, none, none, none, none, none, none] H
  have pl := o.pl
  refine q_asgK (ek_dc0 W.places .str (fun x => x) (fun _ => 0) (iv_tup (ep_i0 (ep_i0 (ep_var rfl hx)))).toD (by omega) (by rw [List.map_id']; exact o.nd) fun a x' H3 ha a3 hx' Q' k => ?_) fun l H2 a2 hn2 hp2 => ?_
  · refine k _ wi1 ⟨ed_var rfl hx', ed_c_int⟩
  have hx2 := dp_ex a2 hx
  refine q_forL (en_call (K := K) (es := (arrR W).map wayD) (eds1 (ed_var rfl hx2)) fun vs H3 a3 hv Q' E' r => ⟨W, hv, o.wl, r⟩) (fun p vs i σ' H' => (∃ a b c d e, σ' = [some x, some (.ref l), a, b, c, d, e]) ∧ p ≠ l ∧ H' p = some (.lst vs) ∧ DpAll K H' vs ((arrR W).map wayD) ∧ OutP H l W.places (((arrR W).take i).map fun w => w.2.1) H')
    (fun p vs H3 a3 hn hp hv => ⟨⟨_, _, _, _, _, rfl⟩, (fun z => by rw [z, hp2] at hn; cases hn), hp, hv, (outP_new a2 hn2 hp2).ex a3⟩) (fun p vs i σ' H' p => ⟨p.2.2.1, p.2.2.2.1⟩) (fun p vs i d x' σ' H3 hi ⟨⟨_, _, _, _, _, e⟩, p1, p2, p3, p4⟩ hx' => ?_) (fun p vs σ' H3 ⟨⟨j1, j2, j3, j4, j5, e⟩, p1, p2, p3, p4⟩ => ?_)
  · subst e
    rw [List.getElem?_map] at hi
    obtain ⟨w, hw, rfl⟩ := Option.map_eq_some_iff.mp hi
    refine g_way hx' ?_
    refine p4.incr rfl rfl o.nd (arr_mem hlo (List.mem_of_getElem? hw)) (by omega) fun H4 p5 o4 => ⟨⟨_, _, _, _, _, rfl⟩, p1, o4 _ _ p1 p2, dps_tx (o4.txK p4.2.2) p3 (tp_map tp_way _), ?_⟩
    rw [take_succ_at hw, List.map_append]
    exact p5
  · subst e
    rw [List.length_map, List.take_length, arr_tails] at p4
    have hx3 := dp_ex p4.2.1 hx
    refine q_asgK (ek_call (K := K) (kvs := manyK W) (eds1 (ed_var rfl hx3)) fun vs H4 a4 hv Q' E' r => ⟨W, hv, o.nd, o.cl, o.pl, r⟩) fun m H4 a4 hn4 hp4 => ?_
    have p5 := p4.ex a4
    have hx4 := dp_ex p5.2.1 hx
    have iv := (iv_tup (K := K) (ep_i0 (ep_i0 (ep_var (i := 0) (σ := [some x, some (.ref l), j1, j2, j3, some (.ref m), j5]) rfl hx4)))).toD
    rw [← fst_zip o.cl, List.map_map] at iv
    have r : EvN K _ _ H4 _ := en_lcN0 (W.places.zip W.crowd) _ (fun q : Nm × Int => .int ((outs W.ways W.heads q.1 : Int) - q.2)) iv (by rw [List.length_zip]; omega) (j := 6) (vs := [6]) (te := tOp rSubI (tDGet (tVar 1) (tVar 6)) (tDGet (tVar 5) (tVar 6))) (by decide) (fun _ _ => rfl) fun q' x' H5 hq a5 hx' => by
      rw [dp_str hx']
      exact ed_int (ev_sub (ev_dgetN (f := fun x => V.int (((tails W.ways W.heads).count x : Nat) : Int)) (ev_var rfl) (.inl (a5 _ _ p5.2.2)) (ev_var rfl) o.nd (List.of_mem_zip hq).1) (ev_dget (k := .inr q'.1) (ev_var rfl) (.inl (a5 _ _ hp4)) (ev_var rfl) (many_at o.cl o.nd hq)))
    refine s_retD (ed_tupOf r) ?_
    have e : (dues W).map PyData.int = (W.places.zip W.crowd).map fun q : Nm × Int => .int ((outs W.ways W.heads q.1 : Int) - q.2) := by
      unfold dues
      rw [List.map_map]
      rfl
    have q' := q.go p5.2.1
    unfold rowD at q'
    rw [e] at q'
    exact q'
theorem lenLPlain (h : spLPlain K vs H Q E) : vs.length = 1 := by
  obtain ⟨_, hd, _⟩ := h
  exact dp_len hd
theorem map_at {α β : Type} {f : α → β} {l : List α} {i : Nat} {a : α} (h : l[i]? = some a) : (l.map f)[i]? = some (f a) := by rw [List.getElem?_map, h]; rfl
theorem zip_at2 {α β : Type} {l : List α} {m : List β} {i : Nat} {q : α × β} (h : (l.zip m)[i]? = some q) : l[i]? = some q.1 ∧ m[i]? = some q.2 := by
  rw [List.getElem?_zip_eq_some] at h
  exact h
theorem readLPlain (h : spLPlain K vs H Q E) : tLPlain K { nx := fun _ H' => Q .non H', rt := Q } (start nLPlain vs) H := by
  obtain ⟨W, hd, hl, hz, q⟩ := h
  obtain ⟨x, rfl, hx⟩ := dp1 hd
  show tLPlain K _ [some x, none] H
  refine s_retN (en_lcR0 (W.places.zip W.crowd) cntD (ea1 (ed_lenT (ep_i2 (ep_var rfl hx)).toD)) (by rw [List.length_map, List.length_zip]; omega) (by rw [List.length_zip]; omega) (by decide) tp_cnt fun i a H1 hi a1 => ?_) q
  have hx1 := dp_ex a1 hx
  refine ed_tup (eds2 ?_ ?_)
  · exact (ep_ixT (ep_i0 (ep_i0 (ep_var rfl hx1))) (ev_var rfl) (map_at (zip_at2 hi).1)).toD
  · exact (ep_i0 (ep_ixT (ep_i2 (ep_var rfl hx1)) (ev_var rfl) (map_at (zip_at2 hi).2))).toD
theorem lenLTail (h : spLTail K vs H Q E) : vs.length = 2 := by
  obtain ⟨_, _, _, _, _, hd, _⟩ := h
  exact dp_len hd
theorem readLTail (h : spLTail K vs H Q E) : tLTail K { nx := fun _ H' => Q .non H', rt := Q } (start nLTail vs) H := by
  obtain ⟨W, hq, k, w, h, hd, hh, e1, e2, ne, hor, q⟩ := h
  obtain ⟨x, y, rfl, hx, hy⟩ := dp2 hd
  rw [dp_int hy]
  unfold worldQ at hx
  show tLTail K _ [some x, some (.int k), none] H
  refine q_asgD (ep_ixT (ep_i1 (ep_i0 (ep_var rfl hx))) (ev_var rfl) (map_at (f := wayD) e1)).toD fun v H1 a1 hv => ?_
  have hx1 := dp_ex a1 hx
  have hhd : EvD K (tOp (rIx K) (tOp (rIxT K) (tVar 0) (tC (.int 1))) (tVar 1)) [some x, some (.int k), some v] H1 (.str h) := by
    refine ed_ixQ (ep_i1 (ep_var rfl hx1)).toD (ds := W.heads.map .str) ?_ (ev_var rfl) (map_at e2)
    rcases hh with rfl | rfl
    · exact .inl rfl
    · exact .inr rfl
  refine q_when (et_eqS (es_ hhd) (es_ (ep_i1 (ep_var rfl hv)).toD)) (fun c H2 a2 => ?_) fun c H2 a2 => ?_
  · have c' : h = w.2.1 := of_decide_eq_true c
    have e : tl w h = w.2.2 := by
      unfold tl
      rw [if_neg (by rw [c']; exact ne)]
    rw [e] at q
    exact s_retD (ep_i2 (ep_var rfl (dp_ex a2 hv))).toD ((q.go a1).go a2)
  · have c' : ¬ h = w.2.1 := of_decide_eq_false c
    have e : tl w h = w.2.1 := by
      unfold tl
      rw [if_pos (hor.resolve_left c')]
    rw [e] at q
    exact s_retD (ep_i1 (ep_var rfl (dp_ex a2 hv))).toD ((q.go a1).go a2)
end
end Tb
set_option Elab.async false
set_option linter.all false
set_option maxRecDepth 100000
set_option maxHeartbeats 4000000
namespace Tb
open PySem PySem.Spec PyProof.Rows L2 Evl
section
variable {K : PySem.W.Frag} {vs : List V} {H : Hp} {Q : VK} {E : XK}
theorem lenLLinks (h : spLLinks K vs H Q E) : vs.length = 1 := by
  obtain ⟨_, _, hd, _⟩ := h
  exact dp_len hd
theorem readLLinks (h : spLLinks K vs H Q E) : tLLinks K { nx := fun _ H' => Q .non H', rt := Q } (start nLLinks vs) H := by
  obtain ⟨W, hh, hd, hq, o, q⟩ := h
  obtain ⟨x, rfl, hx⟩ := dp1 hd
  have hx0 := hx
  unfold worldQ at hx
  show tLLinks K _ [some x, none] H
  have hhd : hh = .tuple (W.heads.map .str) ∨ hh = .list (W.heads.map .str) := by
    rcases hq with rfl | rfl
    · exact .inl rfl
    · exact .inr rfl
  have wl := o.wl
  have hl := o.hl
  have e : arrR W = (W.ways.zip W.heads).map fun q => (q.1.1, tl q.1 q.2, q.2) := rfl
  refine s_retN (en_lcR0 (W.ways.zip W.heads) (fun q => wayD (q.1.1, tl q.1 q.2, q.2)) (ea1 (ed_len (ep_i1 (ep_var rfl hx)).toD hhd)) (by rw [List.length_map, List.length_zip]; omega) (by rw [List.length_zip]; omega) (by decide) (fun _ => rfl) fun i a H1 hi a1 => ?_) (by rw [e, List.map_map] at q; exact q)
  have hx1 := dp_ex a1 hx
  have z := zip_at2 hi
  refine ed_tup (eds_cons (ep_i0 (ep_ixT (ep_i1 (ep_i0 (ep_var rfl hx1))) (ev_var rfl) (map_at (f := wayD) z.1))).toD (eds2 ?_ ?_))
  · exact ed_call (eds2 (ed_var rfl (dp_ex a1 hx0)) (ed_vi rfl)) fun vs H2 a2 hv Q' E' r => ⟨W, hh, i, a.1, a.2, hv, hq, z.1, z.2, o.ne _ (List.of_mem_zip (List.mem_of_getElem? hi)).1, o.hd _ (List.mem_of_getElem? hi), r⟩
  · exact ed_ixQ (ep_i1 (ep_var rfl hx1)).toD hhd (ev_var rfl) (map_at z.2)
theorem ltS_ne {a b : Nm} (h : ltS a b) : a ≠ b := fun e => by
  rw [e] at h
  exact List.lt_irrefl _ h
theorem OkW.hdok {W : Wd} (o : OkW W) : HdOk W := ⟨o.hl, fun w hw => ltS_ne (o.lo w hw).2.2, o.hd, o.wl⟩
theorem worldQ_D (W : Wd) : worldQ W (nsD W.heads) = worldD W := rfl
theorem cnt_filter (L : List (Wy × Nm)) (x : Nm) : (L.filter fun q => decide (tl q.1 q.2 = x)).length = (L.map fun q => tl q.1 q.2).count x := by
  induction L with
  | nil => rfl
  | cons a r ih =>
    rw [List.map_cons, List.filter_cons, List.count_cons, ← ih]
    by_cases e : tl a.1 a.2 = x <;> simp [e]
theorem lenLDueRow (h : spLDueRow K vs H Q E) : vs.length = 1 := by
  obtain ⟨_, hd, _⟩ := h
  exact dp_len hd
theorem readLDueRow (h : spLDueRow K vs H Q E) : tLDueRow K { nx := fun _ H' => Q .non H', rt := Q } (start nLDueRow vs) H := by
  obtain ⟨W, hd, o, q⟩ := h
  obtain ⟨x, rfl, hx⟩ := dp1 hd
  show tLDueRow K _ [some x, none, none, none, none, none] H
  have pl := o.pl
  have cl := o.cl
  have wl := o.wl
  have hl := o.hl
  refine q_asgD (en_call (es := W.crowd.map .int) (eds1 (ed_var rfl hx)) fun vs H1 a1 hv Q' E' r => ⟨W, hv, by omega, r⟩).toD fun v H1 a1 hv => ?_
  have hx1 := dp_ex a1 hx
  refine q_newL (K := K) fun l H2 P => ?_
  refine q_forR (W.places.zip W.crowd) (H := H1) (ea1 (ed_lenL (ed_var rfl hv))) (by rw [List.length_map, List.length_zip]; omega) (by rw [List.length_zip]; omega) P.2.1 (fun i σ' H' => (∃ a b c, σ' = [some x, some v, some (.ref l), a, b, c]) ∧ LcP K H1 l (((W.places.zip W.crowd).take i).map fun q => .int ((outs W.ways W.heads q.1 : Int) - q.2)) H') (fun H3 a3 => ⟨⟨_, _, _, rfl⟩, P.ex a3⟩) (fun _ _ _ p => p.2.2.1) (fun i a σ' H3 hi ⟨⟨_, j1, j2, e⟩, p⟩ => ?_) fun σ' H3 ⟨⟨_, _, _, e⟩, p⟩ => ?_
  · subst e
    have hx3 := dp_ex p.2.1 hx1
    have hv3 := dp_ex p.2.1 hv
    have z := zip_at2 hi
    show tSeq _ _ _ [some x, some v, some (.ref l), some (.int (i : Nat)), j1, j2] H3
    have r : Ev (tCB (rLenS K) (tCons (tLc (iRng1 (tCons (tCB (rLenS K) (tCons (tOp (rIxT K) (tVar 0) (tC (.int 1))) tNil)) tNil)) (gName 5) (tTest (tOp rEq (tCall (spLTail K) [] E0 (tCons (tVar 0) (tCons (tVar 5) tNil))) (tOp (rIxT K) (tOp (rIxT K) (tOp (rIxT K) (tVar 0) (tC (.int 0))) (tC (.int 0))) (tVar 3)))) (tVar 5) [5]) tNil)) [some x, some v, some (.ref l), some (.int (i : Nat)), j1, j2] H3 (.int (outs W.ways W.heads a.1 : Nat)) := by
      refine ev_is (ev_lenN' (en_lcR (W.ways.zip W.heads) (fun q => decide (tl q.1 q.2 = a.1)) (fun i _ => .int (i : Nat)) (ea1 (ed_lenT (ep_i1 (ep_var rfl hx3)).toD)) (by rw [List.length_map, List.length_zip]; omega) (by rw [List.length_zip]; omega) (by decide) (fun _ _ => rfl) fun j b H4 hj a4 => ⟨et_eqS (es_ (K := K) ?_) (es_ (K := K) ?_), fun _ => ed_vi rfl⟩)) ?_
      · have zj := zip_at2 hj
        exact ed_call (eds2 (ed_var rfl (dp_ex a4 hx3)) (ed_vi rfl)) fun vs H2 a2 hv Q' E' r => ⟨W, nsD W.heads, j, b.1, b.2, hv, .inl rfl, zj.1, zj.2, o.hdok.ne _ (List.of_mem_zip (List.mem_of_getElem? hj)).1, o.hd _ (List.mem_of_getElem? hj), r⟩
      · exact (ep_ixT (ep_i0 (ep_i0 (ep_var rfl (dp_ex a4 hx3)))) (ev_var rfl) (map_at z.1)).toD
      · refine congrArg (fun n : Nat => V.int n) ?_
        have := congrArg List.length (zip_filter (fun q : Wy × Nm => decide (tl q.1 q.2 = a.1)) (fun _ => (0 : Nat)) (W.ways.zip W.heads) 0)
        rw [List.length_map] at this ⊢
        rw [this, List.length_map, cnt_filter]
        rfl
    refine q_asg r fun H4 a4 => ?_
    refine s_acc (p.ex a4) rfl (ed_int (ev_sub (ev_var rfl) (ei (ed_ixL (ed_var rfl (dp_ex a4 hv3)) (ev_var rfl) (map_at z.2))))) (tp_map (fun _ => rfl) _) rfl ?_ fun H6 P6 _ _ => ⟨⟨_, _, _, rfl⟩, ?_⟩
    · rw [List.length_map, List.length_take, List.length_zip]; omega
    · rw [take_succ_at hi, List.map_append]; exact P6
  · subst e
    rw [List.take_length] at p
    refine s_retD (ed_tupOfL (ed_var rfl p.edp)) ?_
    have e : (dues W).map PyData.int = (W.places.zip W.crowd).map fun q : Nm × Int => .int ((outs W.ways W.heads q.1 : Int) - q.2) := by
      unfold dues
      rw [List.map_map]
      rfl
    have q' := q.go (a1.trans p.2.1)
    unfold rowD at q'
    rw [e] at q'
    exact q'
theorem arr_cnt (W : Wd) (b : Nm) : ((arrR W).filter fun w => decide (w.2.1 = b)).length = outs W.ways W.heads b := by
  unfold outs
  rw [← arr_tails, List.count_eq_countP, List.countP_map, List.countP_eq_length_filter]
  refine congrArg List.length (List.filter_congr fun w _ => ?_)
  show _ = (w.2.1 == b)
  by_cases e : w.2.1 = b <;> simp [e]
theorem arr_len {W : Wd} (o : OkW W) : (arrR W).length ≤ 6 := by
  have := o.wl
  unfold arrR
  rw [List.length_map, List.length_zip]
  omega
theorem lenLLoadRow (h : spLLoadRow K vs H Q E) : vs.length = 1 := by
  obtain ⟨_, hd, _⟩ := h
  exact dp_len hd
theorem readLLoadRow (h : spLLoadRow K vs H Q E) : tLLoadRow K { nx := fun _ H' => Q .non H', rt := Q } (start nLLoadRow vs) H := by
  obtain ⟨p, hd, o, q⟩ := h
  obtain ⟨x, rfl, hx⟩ := dp1 hd
  show tLLoadRow K _ [some x, none, none] H
  have bl := o.bl
  have al := arr_len o.w
  rw [rowD, List.map_map] at q
  refine s_retD (ed_tupOf (en_lcN0 p.border .str (fun b => .int (outs p.w.ways p.w.heads b : Nat)) (iv_tup (ep_i1 (ep_var rfl hx))).toD (by omega) (by decide) (fun _ _ => rfl) fun b x' H1 hb a1 hx' => ?_)) q
  rw [dp_str hx']
  refine ed_int (ev_is (ev_lenN' (en_lcN (arrR p.w) wayD (fun w => decide (w.2.1 = b)) wayD (iv_lstD (en_call (eds1 (ep_i0 (ep_var rfl (dp_ex a1 hx))).toD) fun vs H2 a2 hv Q' E' r => ⟨p.w, nsD p.w.heads, hv, .inl rfl, o.w.hdok, r⟩).toD) (by omega) (by decide) (fun _ _ _ => rfl) fun w x2 H2 hw a2 hx2 => ⟨et_eqS (es_ (ed_i1 (ed_var rfl hx2))) (ev_var rfl), fun _ => ed_var rfl hx2⟩)) ?_)
  rw [List.length_map, arr_cnt]
theorem lenLitSets (h : spLitSets K vs H Q E) : vs.length = 1 := by
  obtain ⟨_, rfl, _⟩ := h
  rfl
theorem len_litSets : ∀ n : Nat, (litSets n).length = 2 ^ n
  | 0 => rfl
  | n + 1 => by
    show (litSets n ++ _).length = _
    rw [List.length_append, List.length_map, len_litSets n]
    omega
theorem EvN.lcp {te : TE} {σ : L2.St} {ds : List PyData} {H0 : Hp} (h : EvN K te σ H ds) (a : Ex H0 H) {D : Ends} {i : Nat} (k : ∀ p H1, Ex H H1 → LcP K H0 p ds H1 → D.nx (σ.set i (some (.ref p))) H1) : tAsg te (gName i) D σ H := s_asgN h fun p vs H1 b hn hp hd => k p H1 b ⟨fresh_back a hn, a.trans b, vs, hp, hd⟩
theorem rowD_snoc (r : List Int) (n : Int) : PyData.tuple (r.map .int ++ [.int n]) = rowD (r ++ [n]) := by
  show _ = PyData.tuple ((r ++ [n]).map .int)
  rw [List.map_append]
  rfl
theorem lit_len : ∀ (n : Nat) (r : List Int), r ∈ litSets n → r.length ≤ n
  | 0, r, h => by
    rw [List.mem_singleton.mp h]
    exact Nat.le_refl _
  | n + 1, r, h => by
    rcases List.mem_append.mp h with h | h
    · have := lit_len n r h; omega
    · obtain ⟨s, hs, rfl⟩ := List.mem_map.mp h
      have := lit_len n s hs
      rw [List.length_append]
      simp
      omega
theorem readLitSets (h : spLitSets K vs H Q E) : tLitSets K { nx := fun _ H' => Q .non H', rt := Q } (start nLitSets vs) H := by
  obtain ⟨n, rfl, hn, q⟩ := h
  show tLitSets K _ [some (.int n), none, none, none] H
  refine q_asgNL (K := K) (ds := (litSets 0).map rowD) (en_lst (ds := [.tuple []]) (eds1 (ed_tup (ds := []) eds_nil (Nat.zero_le _))) (by decide)) fun l H1 P => ?_
  refine q_forR (List.range n) (H := H) (ea1 (ev_var rfl)) (by rw [List.length_range]) (by rw [List.length_range]; omega) P.2.1 (fun i σ' H' => (∃ l a b, σ' = [some (.int n), some (.ref l), a, b] ∧ LcP K H l ((litSets i).map rowD) H')) (fun H3 a3 => ⟨l, _, _, rfl, P.ex a3⟩) (fun _ _ _ ⟨_, _, _, _, p⟩ => p.2.1) (fun i a σ' H3 hi ⟨l, _, j, e, p⟩ => ?_) fun σ' H3 ⟨l, _, _, e, p⟩ => ?_
  · subst e
    have hin : i < n := by
      have := (List.getElem?_eq_some_iff.mp hi).1
      rw [List.length_range] at this
      exact this
    have i3 : i ≤ 3 := by omega
    have hlen : (litSets i).length ≤ 8 := by
      rw [len_litSets]
      exact Nat.le_trans (Nat.pow_le_pow_right (by omega) i3) (by decide)
    show tAsg _ _ _ [some (.int n), some (.ref l), some (.int i), j] H3
    have ivl := (iv_lst (K := K) (ep_var (σ := [some (.int n), some (.ref l), some (.int i), j]) (i := 1) rfl p.edp)).toD
    have r := en_lcN0 (litSets i) rowD (fun r => rowD (r ++ [(i : Int)])) (j := 3) (vs := [3]) (te := tOp (rCatA K) (tVar 3) (tTup (tCons (tVar 2) tNil))) ivl (by omega) (by decide) (fun r _ => tp_row _) fun r x' H4 hr a4 hx' => by
      have := lit_len i r hr
      rw [← rowD_snoc]
      exact ed_catT (ed_var rfl hx') (ed_tup (eds1 (ed_vi rfl))) (by rw [List.length_map]; simp; omega)
    obtain ⟨_, _, ws, hws, hwd⟩ := id p
    have r2 := en_catV (K := K) (ta := tVar 1) (ev_var rfl) hws hwd r (by rw [List.length_map, List.length_map]; omega)
    have e2 : (litSets i).map rowD ++ (litSets i).map (fun r => rowD (r ++ [(i : Int)])) = (litSets (i + 1)).map rowD := by
      show _ = List.map rowD (litSets i ++ (litSets i).map fun r => r ++ [(i : Int)])
      rw [List.map_append, List.map_map]
      rfl
    rw [e2] at r2
    exact r2.lcp p.2.1 fun p' H4 a4 p4 => ⟨p', _, _, rfl, p4⟩
  · subst e
    rw [List.length_range] at p
    exact s_retAcc p rfl q
theorem nsD_snoc (r : List Nm) (n : Nm) : PyData.tuple (r.map .str ++ [.str n]) = nsD (r ++ [n]) := by
  show _ = PyData.tuple ((r ++ [n]).map .str)
  rw [List.map_append]
  rfl
theorem ends_len (free : List Nm) (q : Wy × Nm) : (ends free q).length ≤ 2 := by
  unfold ends
  split
  · exact Nat.le_refl _
  · show 1 ≤ 2
    omega
theorem ptsF_len (free : List Nm) (rows : List (List Nm)) (q : Wy × Nm) : (ptsF free rows q).length ≤ 2 * rows.length := by
  unfold ptsF
  induction rows with
  | nil => exact Nat.le_refl _
  | cons a r ih =>
    have := ends_len free q
    rw [List.flatMap_cons, List.length_append, List.length_map, List.length_cons]
    omega
def ptsG (free : List Nm) (L : List (Wy × Nm)) : List (List Nm) := L.foldl (ptsF free) [[]]
theorem ptsG_snoc (free : List Nm) (L : List (Wy × Nm)) (q : Wy × Nm) : ptsG free (L ++ [q]) = ptsF free (ptsG free L) q := by
  unfold ptsG
  rw [List.foldl_append]
  rfl
theorem ptsG_len (free : List Nm) (L : List (Wy × Nm)) : (ptsG free L).length ≤ 2 ^ L.length := by
  have key : ∀ M : List (Wy × Nm), (ptsG free M.reverse).length ≤ 2 ^ M.length := fun M => by
    induction M with
    | nil => exact Nat.le_refl _
    | cons a r ih =>
      rw [List.reverse_cons, ptsG_snoc, List.length_cons, Nat.pow_succ]
      exact Nat.le_trans (ptsF_len free _ a) (by omega)
  have := key L.reverse
  rw [List.reverse_reverse, List.length_reverse] at this
  exact this
theorem ptsG_row (free : List Nm) (L : List (Wy × Nm)) : ∀ r ∈ ptsG free L, r.length = L.length := by
  have key : ∀ M : List (Wy × Nm), ∀ r ∈ ptsG free M.reverse, r.length = M.length := fun M => by
    induction M with
    | nil => intro r hr; rw [List.mem_singleton.mp hr]; rfl
    | cons a s ih =>
      intro r hr
      rw [List.reverse_cons, ptsG_snoc] at hr
      unfold ptsF at hr
      obtain ⟨t, ht, h2⟩ := List.mem_flatMap.mp hr
      obtain ⟨e, _, rfl⟩ := List.mem_map.mp h2
      rw [List.length_append, ih t ht]
      rfl
  have := key L.reverse
  rw [List.reverse_reverse, List.length_reverse] at this
  exact this
theorem lenPointings (h : spPointings K vs H Q E) : vs.length = 2 := by
  obtain ⟨_, _, hd, _⟩ := h
  exact dp_len hd
theorem readPointings (h : spPointings K vs H Q E) : tPointings K { nx := fun _ H' => Q .non H', rt := Q } (start nPointings vs) H := by
  obtain ⟨W, free, hd, hz, q⟩ := h
  obtain ⟨x, y, rfl, hx, hy⟩ := dp2 hd
  show tPointings K _ [some x, some y, none, none, none, none, none, none, none, none] H
  refine q_asgNL (K := K) (ds := (ptsG free []).map nsD) (en_lst (ds := [.tuple []]) (eds1 (ed_tup (ds := []) eds_nil (Nat.zero_le _))) (by decide)) fun l H1 P => ?_
  have iv := iv_zipT (K := K) (H := H) (ep_i1 (ep_i0 (ep_var (σ := [some x, some y, some (.ref l), none, none, none, none, none, none, none]) (i := 0) rfl hx))) (ep_i1 (ep_var (i := 0) rfl hx))
  rw [zipWH] at iv
  refine q_forM (W.ways.zip W.heads) _ iv P.2.1 (fun i σ' H' => ∃ l a b c d e f g, σ' = [some x, some y, some (.ref l), a, b, c, d, e, f, g] ∧ LcP K H l ((ptsG free ((W.ways.zip W.heads).take i)).map nsD) H') (fun H3 a3 => ⟨l, _, _, _, _, _, _, _, rfl, P.ex a3⟩) (fun _ _ _ ⟨_, _, _, _, _, _, _, _, _, p⟩ => p.2.1) (fun i q' x' σ' H3 H4 hq ⟨l, _, _, _, _, j1, j2, j3, e, p⟩ a4 hx' => ?_) fun σ' H3 ⟨l, _, _, _, _, _, _, _, e, p⟩ => ?_
  · subst e
    have hi := (List.getElem?_eq_some_iff.mp hq).1
    rw [List.length_zip] at hi
    have p4 := p.ex a4
    refine g_wayhead hx' ?_
    show tSeq _ _ _ [some x, some y, some (.ref l), some (.str q'.1.1), some (.str q'.1.2.1), some (.str q'.1.2.2), some (.str q'.2), j1, j2, j3] H4
    refine q_asgD (K := K) (d := nsD (ends free q')) (ed_if (et_inL (ed_vs rfl) (ed_var rfl (dp_ex p4.2.1 hy))) (fun c => ?_) fun c => ?_) fun v H5 a5 hv => ?_
    · have c' : q'.1.1 ∈ free := of_decide_eq_true c
      have e : ends free q' = [q'.1.2.1, q'.1.2.2] := if_pos c'
      rw [e]
      exact ed_tup (ds := [.str _, .str _]) (eds2 (ed_vs rfl) (ed_vs rfl))
    · have c' : q'.1.1 ∉ free := of_decide_eq_false c
      have e : ends free q' = [q'.2] := if_neg c'
      rw [e]
      exact ed_tup (ds := [.str _]) (eds1 (ed_vs rfl))
    have p5 := p4.ex a5
    show tAsg _ _ _ [some x, some y, some (.ref l), some (.str q'.1.1), some (.str q'.1.2.1), some (.str q'.1.2.2), some (.str q'.2), some v, j2, j3] H5
    have ivl := (iv_lst (K := K) (ep_var (σ := [some x, some y, some (.ref l), some (.str q'.1.1), some (.str q'.1.2.1), some (.str q'.1.2.2), some (.str q'.2), some v, j2, j3]) (i := 2) rfl p5.edp)).toD
    have pl := ptsG_len free ((W.ways.zip W.heads).take i)
    have p6 : (ptsG free ((W.ways.zip W.heads).take i)).length ≤ 64 := Nat.le_trans pl (Nat.le_trans (Nat.pow_le_pow_right (by omega) (by rw [List.length_take]; omega)) (show 2 ^ 6 ≤ 64 by decide))
    have hm : ((ptsG free ((W.ways.zip W.heads).take i)).flatMap fun _ => ends free q').length ≤ 50000 := by
      have := ends_len free q'
      rw [List.length_flatMap, List.map_const', List.sum_replicate_nat]
      exact Nat.le_trans (Nat.mul_le_mul p6 this) (by decide)
    have r := en_lc2 (K := K) (ptsG free ((W.ways.zip W.heads).take i)) nsD (fun _ => ends free q') .str (fun r e => nsD (r ++ [e])) (wi1 := iTup K (tVar 7)) (g := gName 8) (g1 := gName 9) (te := tOp (rCatA K) (tVar 8) (tTup (tCons (tVar 9) tNil))) (vs := [8, 9]) (vs1 := [9]) ivl hm (fun _ _ => tp_ns _) (fun _ _ _ _ => tp_ns _) fun r x1 H6 hr a6 hx1 Q' k => by
      have rl := ptsG_row free _ r hr
      refine k _ wi1 (iv_tup (ep_var rfl hv)) fun e x2 H7 he a7 tx hx2 Q1 k1 => ?_
      refine k1 _ wi1 ?_
      rw [← nsD_snoc]
      refine ed_catT (ed_var rfl (dp_tx tx hx1 (tp_ns _))) (ed_tup (eds1 (ed_var rfl hx2))) ?_
      rw [List.length_map, rl, List.length_take]
      simp
      omega
    have e2 : ((ptsG free ((W.ways.zip W.heads).take i)).flatMap fun r => (ends free q').map fun e => nsD (r ++ [e])) = (ptsG free ((W.ways.zip W.heads).take (i + 1))).map nsD := by
      rw [take_succ_at hq, ptsG_snoc]
      unfold ptsF
      rw [List.map_flatMap]
      refine congrArg (fun f => List.flatMap f _) (funext fun r => ?_)
      rw [List.map_map]
      rfl
    rw [e2] at r
    exact r.lcp p5.2.1 fun p' H6 a6 p7 => ⟨p', _, _, _, _, _, _, _, rfl, p7⟩
  · subst e
    rw [List.take_length] at p
    exact s_retAcc p rfl q
end
end Tb
set_option Elab.async false
set_option linter.all false
set_option maxRecDepth 100000
set_option maxHeartbeats 4000000
namespace Tb
open PySem PySem.Spec PyProof.Rows L2 Evl
/-! Plain facts: equality of data, sorted lists, what is come to. -/
/-! ### equality -/
theorem eqv_map {α : Type} [DecidableEq α] {f : α → PyData} (h : ∀ a b, PyData.eqv (f a) (f b) = decide (a = b)) : ∀ l m : List α, PyData.eqvAll (l.map f) (m.map f) = decide (l = m)
  | [], [] => by simp [PyData.eqvAll]
  | [], b :: m => by simp [PyData.eqvAll]
  | a :: l, [] => by simp [PyData.eqvAll]
  | a :: l, b :: m => by
    rw [List.map_cons, List.map_cons]
    show PyData.eqvAll (f a :: l.map f) (f b :: m.map f) = _
    simp only [PyData.eqvAll]
    rw [h, eqv_map h l m]
    by_cases e : a = b <;> by_cases e2 : l = m <;> simp [e, e2]
theorem eqv_tup {α : Type} [DecidableEq α] {f : α → PyData} (h : ∀ a b, PyData.eqv (f a) (f b) = decide (a = b)) (l m : List α) : PyData.eqv (.tuple (l.map f)) (.tuple (m.map f)) = decide (l = m) := by
  simp only [PyData.eqv]
  exact eqv_map h l m
theorem eqv_int (a b : Int) : PyData.eqv (.int a) (.int b) = decide (a = b) := by
  simp only [PyData.eqv]
  by_cases e : a = b <;> simp [e]
theorem eqv_row (a b : List Int) : PyData.eqv (rowD a) (rowD b) = decide (a = b) := eqv_tup eqv_int a b
theorem eqv_rows (a b : List (List Int)) : PyData.eqv (rowsD a) (rowsD b) = decide (a = b) := eqv_tup eqv_row a b
theorem eqv_beh (a b : List (List (List Int))) : PyData.eqv (behD a) (behD b) = decide (a = b) := eqv_tup eqv_rows a b
theorem can_map {α : Type} {f : α → PyData} (h : ∀ a, (f a).canLay0 = true) : ∀ l : List α, PyData.canLayAll0 (l.map f) = true
  | [] => by simp [PyData.canLayAll0]
  | a :: l => by
    rw [List.map_cons]
    simp only [PyData.canLayAll0, h, can_map h l, Bool.and_self]
theorem dep_map {α : Type} {f : α → PyData} {n : Nat} (h : ∀ a, (f a).depth ≤ n) : ∀ l : List α, PyData.depthAll (l.map f) ≤ n
  | [] => by simp [PyData.depthAll]
  | a :: l => by
    rw [List.map_cons]
    simp only [PyData.depthAll]
    have := h a
    have := dep_map h l
    omega
theorem can_tup {α : Type} {f : α → PyData} (h : ∀ a, (f a).canLay0 = true) (l : List α) : (PyData.tuple (l.map f)).canLay0 = true := by
  simp only [PyData.canLay0]
  exact can_map h l
theorem dep_tup {α : Type} {f : α → PyData} {n : Nat} (h : ∀ a, (f a).depth ≤ n) (l : List α) : (PyData.tuple (l.map f)).depth ≤ n + 1 := by
  simp only [PyData.depth]
  have := dep_map h l
  omega
theorem can_int (i : Int) : (PyData.int i).canLay0 = true := by simp only [PyData.canLay0]
theorem dep_int0 (i : Int) : (PyData.int i).depth ≤ 0 := by simp only [PyData.depth]; omega
theorem dep_str0 (i : Str) : (PyData.str i).depth ≤ 0 := by simp only [PyData.depth]; omega
theorem can_row (l : List Int) : (rowD l).canLay0 = true := can_tup can_int l
theorem dep_row (l : List Int) : (rowD l).depth ≤ 1 := dep_tup dep_int0 l
theorem can_rows (l : List (List Int)) : (rowsD l).canLay0 = true := can_tup can_row l
theorem dep_rows (l : List (List Int)) : (rowsD l).depth ≤ 2 := dep_tup dep_row l
theorem can_beh (l : List (List (List Int))) : (behD l).canLay0 = true := can_tup can_rows l
theorem dep_beh (l : List (List (List Int))) : (behD l).depth ≤ 3 := dep_tup dep_rows l
theorem shaped_of {d : PyData} {n : Nat} (h : d.canLay0 = true) (h2 : d.depth ≤ n) (hn : n ≤ 64) : SeqAt.shaped d = true := by
  show (d.canLay0 && decide (d.depth ≤ 64)) = true
  rw [h, decide_eq_true (by omega)]
  rfl
theorem any_row (a : List Int) : ∀ l : List (List Int), (!(l.map rowD).any fun z => PyData.eqv z (rowD a)) = decide (a ∉ l)
  | [] => rfl
  | c :: r => by
    have ih := any_row a r
    rw [List.map_cons, List.any_cons, Bool.not_or, ih, eqv_row]
    by_cases e1 : c = a
    · subst e1; simp
    · have e1' : ¬ a = c := fun z => e1 z.symm
      simp [e1, e1']
section
variable {K : PySem.W.Frag} {σ : L2.St} {H : Hp} {ta tb : TE}
theorem ev_eqB {a b : List (List (List Int))} (h : EvD K ta σ H (behD a)) (h2 : EvD K tb σ H (behD b)) : Ev (tOp (rEqD K) ta tb) σ H (.bl (decide (a = b))) := fun H1 e Q q =>
  h H1 e _ fun v H2 e2 hv => h2 H2 (e.trans e2) _ fun w H3 e3 hw => ⟨_, _, dp_ex e3 hv, hw, shaped_of (can_beh a) (dep_beh a) (by decide), shaped_of (can_beh b) (dep_beh b) (by decide), by
    rw [eqv_beh]
    exact q H3 (e2.trans e3)⟩
theorem et_niR {a : List Int} {l : List (List Int)} (h : EvD K ta σ H (rowD a)) (h2 : EvD K tb σ H (.list (l.map rowD))) : EvT (tTest (tOp (rNotInD K) ta tb)) σ H (decide (a ∉ l)) := fun H1 e Q q =>
  h H1 e _ fun v H2 e2 hv => h2 H2 (e.trans e2) _ fun w H3 e3 hw => ⟨_, _, dp_ex e3 hv, hw, shaped_of (can_row a) (dep_row a) (by decide), by
    refine shaped_of (n := 2) ?_ ?_ (by decide)
    · simp only [PyData.canLay0]
      exact can_map can_row l
    · simp only [PyData.depth]
      have := dep_map dep_row l
      omega, by
    rw [any_row]
    exact ⟨_, rfl, q H3 (e2.trans e3)⟩⟩
end
/-! ### sorted -/
open PySem.W in
theorem srt_map {α : Type} (f : α → PyData) (l : List α) : srtD (l.map f) = (l.mergeSort (dataLe false f)).map f := (sort_maps f fun _ _ _ _ => rfl).symm
open PySem.W in
theorem srt_str (l : List Nm) : srtD (l.map .str) = (sortS l).map .str := srt_map .str l
open PySem.W in
theorem srt_row (l : List (List Int)) : srtD (l.map rowD) = (sortR l).map rowD := srt_map rowD l
open PySem.W in
theorem srt_way (l : List Wy) : srtD (l.map wayD) = (sortW l).map wayD := srt_map wayD l
open PySem.W in
theorem ok_str {l : List Nm} (h : l.length ≤ 100000) : SortOk (l.map .str) := ⟨AllAlike.of fun _ _ => by simp [alike], Sortable.others fun _ => ⟨fun z => (by cases z), fun _ z => (by cases z)⟩, fun d hd => by
  obtain ⟨x, _, rfl⟩ := List.mem_map.mp hd
  have := dep_str0 x
  omega, by rw [List.length_map]; exact sz_of h⟩
open PySem.W in
theorem ok_way {l : List Wy} (h : l.length ≤ 100000) : SortOk (l.map wayD) := ⟨AllAlike.of fun _ _ => by simp [alike, alikeAll], Sortable.tuples fun _ => ⟨_, _, rfl⟩, fun d hd => by
  obtain ⟨x, _, rfl⟩ := List.mem_map.mp hd
  simp [PyData.depth, PyData.depthAll], by rw [List.length_map]; exact sz_of h⟩
open PySem.W in
theorem ok_row {l : List (List Int)} (h : l.length ≤ 100000) (ne : ∀ r ∈ l, r ≠ []) : SortOk (l.map rowD) := ⟨fun d hd d' hd' => by
  obtain ⟨x, _, rfl⟩ := List.mem_map.mp hd
  obtain ⟨y, _, rfl⟩ := List.mem_map.mp hd'
  simp only [alike]
  exact alike_ints x y, .inl fun d hd => by
  obtain ⟨x, hx, rfl⟩ := List.mem_map.mp hd
  cases x with
  | nil => exact absurd rfl (ne _ hx)
  | cons a r => exact ⟨_, _, rfl⟩, fun d hd => by
  obtain ⟨x, _, rfl⟩ := List.mem_map.mp hd
  have := dep_row x
  omega, by rw [List.length_map]; exact sz_of h⟩
open PySem.W in
theorem tot {α : Type} (f : α → PyData) : TotalLe (dataLe false f) := sortLe_total _ _ _
open PySem.W in
theorem sort_perm {α : Type} (f : α → PyData) (l : List α) : (l.mergeSort (dataLe false f)).Perm l := List.mergeSort_perm l _
open PySem.W in
/-- where none are equal in the order the sorted list is one -/
theorem sort_eq {α : Type} [DecidableEq α] {f : α → PyData} (anti : ∀ a b, dataLe false f a b = true → dataLe false f b a = true → a = b) {l m : List α} (hl : l.Nodup) (hm : m.Nodup) (h : ∀ x, x ∈ l ↔ x ∈ m) : l.mergeSort (dataLe false f) = m.mergeSort (dataLe false f) := by
  refine sort_unique (tot f) (sort_pairwise (tot f) l) fun c => ?_
  have e : ∀ n : List α, n.filter (sameRank (dataLe false f) c) = n.filter fun a => decide (a = c) := fun n => List.filter_congr fun a _ => by
    unfold sameRank
    by_cases z : a = c
    · subst z
      rw [(tot f).refl]
      simp
    · rw [decide_eq_false z]
      cases q1 : dataLe false f c a with
      | false => rfl
      | true =>
        cases q2 : dataLe false f a c with
        | false => rfl
        | true => exact absurd (anti _ _ q2 q1) z
  have fl : ∀ n : List α, n.Nodup → n.filter (fun a => decide (a = c)) = if c ∈ n then [c] else [] := fun n hn => by
    induction n with
    | nil => rfl
    | cons a r ih =>
      obtain ⟨h1, h2⟩ := List.nodup_cons.mp hn
      rw [List.filter_cons, ih h2]
      by_cases z : a = c
      · subst z
        rw [if_pos (by simp), if_neg h1, if_pos List.mem_cons_self]
      · rw [if_neg (by simp [z])]
        have : (c ∈ a :: r) ↔ c ∈ r := ⟨fun q => (List.mem_cons.mp q).resolve_left fun w => z w.symm, List.mem_cons_of_mem _⟩
        by_cases w : c ∈ r
        · rw [if_pos w, if_pos (this.mpr w)]
        · rw [if_neg w, if_neg fun q => w (this.mp q)]
  have hs : (l.mergeSort (dataLe false f)).Nodup := (sort_perm f l).nodup_iff.mpr hl
  rw [e, e, fl _ hs, fl _ hm]
  have : c ∈ l.mergeSort (dataLe false f) ↔ c ∈ m := ((sort_perm f l).mem_iff).trans (h c)
  by_cases w : c ∈ m
  · rw [if_pos w, if_pos (this.mpr w)]
  · rw [if_neg w, if_neg fun q => w (this.mp q)]
open PySem.W in
/-- what is in strict order already -/
theorem sort_is {α : Type} [DecidableEq α] {f : α → PyData} (anti : ∀ a b, dataLe false f a b = true → dataLe false f b a = true → a = b) {l m : List α} (hl : l.Nodup) (hm : m.Nodup) (h : ∀ x, x ∈ l ↔ x ∈ m) (hs : m.Pairwise fun a b => dataLe false f a b = true) : l.mergeSort (dataLe false f) = m := by
  rw [sort_eq anti hl hm h]
  exact (sort_unique (tot f) hs fun _ => rfl).symm
open PySem.W in
theorem anti_str (a b : Nm) (h : dataLe false PyData.str a b = true) (h2 : dataLe false PyData.str b a = true) : a = b := by
  have e : (dataLe false fun b : Nm => PyData.str b) = fun a b => decide (a.cps.toList ≤ b.cps.toList) := dataLe_str fun b => b
  have h' : a.cps.toList ≤ b.cps.toList := by
    have := congrFun (congrFun e a) b
    rw [show dataLe false PyData.str a b = _ from this] at h
    exact of_decide_eq_true h
  have h2' : b.cps.toList ≤ a.cps.toList := by
    have := congrFun (congrFun e b) a
    rw [show dataLe false PyData.str b a = _ from this] at h2
    exact of_decide_eq_true h2
  have := List.le_antisymm h' h2'
  cases a with
  | mk x => cases b with
    | mk y => exact congrArg Str.mk (Array.toList_inj.mp this)
open PySem.W in
theorem le_str {a b : Nm} (h : ltS a b) : dataLe false PyData.str a b = true := by
  have e : (dataLe false fun b : Nm => PyData.str b) = fun a b => decide (a.cps.toList ≤ b.cps.toList) := dataLe_str fun b => b
  have := congrFun (congrFun e a) b
  rw [show dataLe false PyData.str a b = _ from this]
  exact decide_eq_true (List.le_of_lt h)
open PySem.W in
theorem row_le (a b : List Int) : dataLe false rowD a b = !decide (b < a) := by
  show (!dataLt (rowD b) (rowD a)) = _
  unfold rowD
  rw [dataLt_tuple]
  exact congrArg (! ·) (dataLt_ints b a)
open PySem.W in
theorem anti_row (a b : List Int) (h : dataLe false rowD a b = true) (h2 : dataLe false rowD b a = true) : a = b := by
  rw [row_le] at h h2
  have h' : ¬ b < a := by simpa using h
  have h2' : ¬ a < b := by simpa using h2
  exact List.le_antisymm (List.not_lt.mp h') (List.not_lt.mp h2')
end Tb
set_option Elab.async false
set_option linter.all false
set_option maxRecDepth 100000
set_option maxHeartbeats 4000000
namespace Tb
open PySem PySem.Spec PyProof.Rows L2 Evl
section
variable {K : PySem.W.Frag} {vs : List V} {H : Hp} {Q : VK} {E : XK}
theorem lenCheckLit (h : spCheckLit K vs H Q E) : vs.length = 2 := by
  obtain ⟨_, _, hd, _⟩ := h
  exact dp_len hd
theorem row_at {lit : List Int} {i : Nat} {k : Int} (h : lit[i]? = some k) : (lit.map PyData.int)[i]? = some (.int k) := map_at h
theorem nd_take {lit : List Int} (nd : lit.Nodup) {i : Nat} {k : Int} (h : lit[i]? = some k) : k ∉ lit.take i := fun m => by
  have nd2 : (lit.take (i + 1)).Nodup := nd.sublist (List.take_sublist _ _)
  rw [take_succ_at h] at nd2
  exact (List.nodup_append.mp nd2).2.2 _ m _ (List.mem_singleton.mpr rfl) rfl
theorem cut0 (xs : List V) (i : Nat) : cutV xs none (some (i : Int)) = xs.take i := by
  unfold cutV
  rw [HT.sIx_none, HT.sIx_nat]
  simp [List.drop_zero]
theorem ev_cut {σ : L2.St} {ta tb : TE} {a : Addr} {xs : List V} {i : Nat} (h : Ev ta σ H (.ref a)) (hs : SqT K H a xs) (hi : Ev tb σ H (.int (i : Nat))) (hl : i < xs.length) : EvU (tSl (rSlA K) ta tNoPart (tPart tb)) σ H (xs.take i) := fun H1 e Q q =>
  h H1 e _ fun H2 e2 => hi H2 (e.trans e2) _ fun H3 e3 => ⟨_, rfl, a, xs, rfl, ex_t ((e.trans e2).trans e3) hs, fun w => absurd w (by
    rw [HT.sIx_none, HT.sIx_nat]
    rintro ⟨_, w⟩
    omega), fun _ p hp => by
    rw [cut0]
    exact q p _ (fresh_back (e2.trans e3) hp) ((e2.trans e3).trans (Ex.new hp)) upd_same⟩
theorem readCheckLit (h : spCheckLit K vs H Q E) : tCheckLit K { nx := fun _ H' => Q .non H', rt := Q } (start nCheckLit vs) H := by
  obtain ⟨p, lit, hd, ⟨nd, rng⟩, q⟩ := h
  obtain ⟨x, y, rfl, hx, hy⟩ := dp2 hd
  show tCheckLit K _ [some x, some y, none, none, none] H
  refine q_asg (ev_sub (ed_lenT (ep_i1 (ep_var rfl hx)).toD) ev_c) fun H1 a1 => ?_
  rw [List.length_map]
  have hy1 := dp_ex a1 hy
  show tSeq _ _ _ [some x, some y, some (.int ((p.border.length : Int) - 1)), none, none] H1
  refine q_forM lit .int (iv_tup (ep_var (i := 1) rfl hy1)) (Ex.refl _) (fun i σ' H' => (∃ a, σ' = [some x, some y, some (.int ((p.border.length : Int) - 1)), a, none]) ∧ Ex H1 H') (fun H3 a3 => ⟨⟨_, rfl⟩, a3⟩) (fun _ _ _ p => p.2) (fun i k x' σ' H3 H4 hk ⟨⟨_, e⟩, p3⟩ a4 hx' => ?_) fun σ' H3 ⟨⟨j0, e⟩, p3⟩ => ?_
  · subst e
    rw [dp_int hx']
    show tDrop _ _ [some x, some y, some (.int ((p.border.length : Int) - 1)), some (.int k), none] H4
    have r := rng k (List.mem_of_getElem? hk)
    refine s_drop (v := .int k) (ei (ed_call (K := K) (eds_cons (ed_vi rfl) (eds2 ed_c_int (ed_vi rfl))) fun vs H5 a5 hv Q' E' r' => ?_)) fun H5 a5 => ⟨⟨_, rfl⟩, (p3.trans a4).trans a5⟩
    obtain ⟨a, b, c, rfl, h1, h2, h3⟩ := dp3 hv
    rw [dp_int h1, dp_int h2, dp_int h3]
    exact ⟨k, 0, (p.border.length : Int) - 1, rfl, r.1, by have := r.2; omega, r'⟩
  · subst e
    have hy3 := dp_ex p3 hy1
    have iv := iv_enum (K := K) (ep_var (σ := [some x, some y, some (.int ((p.border.length : Int) - 1)), j0, none]) (i := 1) rfl hy3)
    refine s_for iv (Ex.refl _) (fun i σ' H' => (∃ a b, σ' = [some x, some y, some (.int ((p.border.length : Int) - 1)), a, b]) ∧ Ex H3 H') (fun H4 a4 => ⟨⟨_, _, rfl⟩, a4⟩) (fun _ _ _ p => p.2) (fun i d x' σ' H4 H5 hi ⟨⟨_, _, e⟩, p4⟩ a5 hx' => ?_) fun σ' H4 ⟨_, p4⟩ => q _ _ (a1.trans (p3.trans p4)) .non
    subst e
    have hlen := (List.getElem?_eq_some_iff.mp hi).1
    rw [pairsD_len] at hlen
    have h2 : i < lit.length := by
      rw [List.length_map] at hlen
      omega
    have hk := List.getElem?_eq_getElem h2
    have hr : (rngD (lit.map PyData.int).length)[i]? = some (.int (i : Nat)) := by
      unfold rngD
      rw [List.getElem?_map, getRange, if_pos (by rw [List.length_map]; exact h2)]
      rfl
    rw [pairsD_at hr (row_at hk)] at hi
    cases hi
    refine g_tup hx' rfl fun xs hxs => ?_
    obtain ⟨v1, v2, rfl, h3, h4⟩ := dp2 hxs
    rw [dp_int h3, dp_int h4]
    refine ⟨_, _, rfl, _, _, rfl, rfl, ?_⟩
    show tIfS _ _ _ _ [some x, some y, some (.int ((p.border.length : Int) - 1)), some (.int lit[i]), some (.int (i : Nat))] H5
    obtain ⟨ya, ys, rfl, hys, hyd⟩ := dp_tup (dp_ex (p4.trans a5) hy3)
    have eys := dps_ints hyd
    have hyl : i < ys.length := by rw [eys, List.length_map]; exact h2
    refine s_when (b := false) (et_is (et_test (ev_inU (x := .int lit[i]) (xs := ys.take i) (ev_var rfl) (ev_cut (ev_var rfl) hys (ev_var rfl) hyl) rfl ?_)) ?_) (fun z => nomatch z) fun _ H6 a6 => ⟨⟨_, _, rfl⟩, (p4.trans a5).trans a6⟩
    · rw [eys, ← List.map_take]
      exact flat_ints _
    · rw [eys, ← List.map_take, inV_ints, decide_eq_false (nd_take nd hk)]
theorem lenLiftWay (h : spLiftWay K vs H Q E) : vs.length = 2 := by
  obtain ⟨_, _, hd, _⟩ := h
  exact dp_len hd
theorem dp4 {K : PySem.W.Frag} {H : Hp} {vs : List V} {d e f g : PyData} (h : DpAll K H vs [d, e, f, g]) : ∃ v w u t, vs = [v, w, u, t] ∧ Dp K H v d ∧ Dp K H w e ∧ Dp K H u f ∧ Dp K H t g := by
  cases h with
  | cons h1 h2 =>
    obtain ⟨w, u, t, rfl, h3, h4, h5⟩ := dp3 h2
    exact ⟨_, _, _, _, rfl, h1, h3, h4, h5⟩
theorem g_wh {i j : Nat} {σ : L2.St} {x : V} {w : Wy} {h : Nm} {Q : L2.St → Hp → Prop} (hx : Dp K H x (.tuple [wayD w, .str h])) (q : ∀ v, Dp K H v (wayD w) → Q ((σ.set i (some v)).set j (some (.str h))) H) :
    gTup K 2 (gCons (gName i) (gCons (gName j) gNil)) x σ H Q := by
  refine g_tup hx rfl fun xs hd => ?_
  obtain ⟨v, w', rfl, h1, h2⟩ := dp2 hd
  rw [dp_str h2]
  exact ⟨_, _, rfl, _, _, rfl, rfl, q v h1⟩
theorem tp_wh (q : Wy × Nm) : Tp (.tuple [wayD q.1, .str q.2]) = true := rfl
theorem readLiftWay (h : spLiftWay K vs H Q E) : tLiftWay K { nx := fun _ H' => Q .non H', rt := Q } (start nLiftWay vs) H := by
  obtain ⟨p, nm, hd, hin, hz, q⟩ := h
  obtain ⟨x, y, rfl, hx, hy⟩ := dp2 hd
  rw [dp_str hy]
  show tLiftWay K _ [some x, some (.str nm), none, none, none, none, none, none, none, none, none] H
  refine q_unpD (ep_var rfl hx).toD rfl fun xs H1 a1 h1 => ?_
  obtain ⟨vw, vb, rfl, hw, hb⟩ := dp2 h1
  refine ⟨_, _, rfl, g_tup hw rfl fun ys hys => ?_⟩
  obtain ⟨vweb, vh, vc, rfl, hweb, hh, hc⟩ := dp3 hys
  refine ⟨_, _, rfl, g_tup hweb rfl fun zs hzs => ?_⟩
  obtain ⟨vp, vy, rfl, hp, hy'⟩ := dp2 hzs
  refine ⟨_, _, rfl, _, _, rfl, rfl, _, _, rfl, _, _, rfl, rfl, _, _, rfl, rfl, ?_⟩
  show tSeq _ _ _ [some x, some (.str nm), some vp, some vy, some vh, some vc, some vb, none, none, none, none] H1
  have nms : EvN K (tLc (iTup K (tVar 3)) (gName 9) tYes (tOp (rIxT K) (tVar 9) (tC (.int 0))) [9]) [some x, some (.str nm), some vp, some vy, some vh, some vc, some vb, none, none, none, none] H1 ((p.w.ways.map (·.1)).map .str) := by
    rw [List.map_map]
    exact en_lcN0 p.w.ways wayD (fun w => .str w.1) (iv_tup (ep_var rfl hy')).toD (by omega) (by decide) (fun _ _ => rfl) fun w x' H2 hw a2 hx' => ed_i0 (ed_var rfl hx')
  refine q_when (b := false) (et_is (et_niL (ed_vs rfl) nms.toD) (decide_eq_false fun z => z hin)) (fun z => nomatch z) fun _ H2 a2 => ?_
  have iv := iv_zipT (K := K) (ep_var (σ := [some x, some (.str nm), some vp, some vy, some vh, some vc, some vb, none, none, none, none]) (i := 3) rfl (dp_ex a2 hy')) (ep_var (i := 4) rfl (dp_ex a2 hh))
  rw [zipWH] at iv
  have hzl : (p.w.ways.zip p.w.heads).length ≤ 6 := by rw [List.length_zip]; omega
  refine q_asgD (en_lc (p.w.ways.zip p.w.heads) _ (fun q => decide (q.1.1 ≠ nm)) (fun q => .tuple [wayD q.1, .str q.2]) iv.toD (by omega) (fun _ _ _ => rfl) fun q' x' H3 hq a3 hx' Q' k => ?_).toD fun vk H3 a3 hk => ?_
  · refine g_wh hx' fun v hv => ?_
    refine k _ wi2 ?_ ?_
    · exact et_neS (es_ (ed_i0 (ed_var rfl hv))) (ev_var rfl)
    · exact fun _ => ed_tup (eds2 (ed_var rfl hv) (ed_vs rfl))
  show tSeq _ _ _ [some x, some (.str nm), some vp, some vy, some vh, some vc, some vb, some vk, none, none, none] H3
  have hfl : ((p.w.ways.zip p.w.heads).filter fun q => decide (q.1.1 ≠ nm)).length ≤ 6 := Nat.le_trans (List.length_filter_le _ _) hzl
  have ivk : IvB K (iList K (tVar 7)) [some x, some (.str nm), some vp, some vy, some vh, some vc, some vb, some vk, none, none, none] H3 _ := iv_lst (ep_var rfl hk)
  refine q_asgD (K := K) (d := webD p.w.places (liftW p.w nm).ways) (ed_tup (eds2 (ed_var rfl (dp_ex (a2.trans a3) hp)) (ed_tupOf ?_))) fun vweb2 H4 a4 hweb2 => ?_
  · show EvN K _ _ _ (((((p.w.ways.zip p.w.heads).filter fun q => decide (q.1.1 ≠ nm)).map (·.1))).map wayD)
    rw [List.map_map]
    refine en_lc0 _ _ (fun q : Wy × Nm => wayD q.1) ivk.toD (by omega) (fun _ _ => rfl) fun q' x' H4 hq a4 hx' Q' k => ?_
    refine g_wh hx' fun v hv => ?_
    refine k _ wi2 ?_
    exact ed_var rfl hv
  show tRet _ _ [some x, some (.str nm), some vp, some vy, some vh, some vc, some vb, some vk, some vweb2, none, none] H4
  have ivk4 : IvB K (iList K (tVar 7)) [some x, some (.str nm), some vp, some vy, some vh, some vc, some vb, some vk, some vweb2, none, none] H4 _ := iv_lst (ep_var rfl (dp_ex a4 hk))
  refine s_retD (K := K) (d := pieceD (lift p nm)) (ed_tup (eds2 (ed_tup (eds_cons (ed_var rfl hweb2) (eds2 (ed_tupOf ?_) (ed_var rfl (dp_ex ((a2.trans a3).trans a4) hc))))) (ed_var rfl (dp_ex ((a2.trans a3).trans a4) hb)))) ((q.go a1).go ((a2.trans a3).trans a4))
  show EvN K _ _ _ (((((p.w.ways.zip p.w.heads).filter fun q => decide (q.1.1 ≠ nm)).map (·.2))).map .str)
  rw [List.map_map]
  refine en_lc0 _ _ (fun q : Wy × Nm => .str q.2) ivk4.toD (by omega) (fun _ _ => rfl) fun q' x' H4 hq a4 hx' Q' k => ?_
  refine g_wh hx' fun v hv => ?_
  refine k _ wi2 ?_
  exact ed_vs rfl
theorem lit_nd : ∀ n : Nat, ∀ r ∈ litSets n, r.Nodup ∧ ∀ k ∈ r, 0 ≤ k ∧ k < (n : Int)
  | 0, r, h => by
    rw [List.mem_singleton.mp h]
    exact ⟨List.nodup_nil, fun _ z => nomatch z⟩
  | n + 1, r, h => by
    rcases List.mem_append.mp h with h | h
    · obtain ⟨h1, h2⟩ := lit_nd n r h
      exact ⟨h1, fun k hk => by have := h2 k hk; omega⟩
    · obtain ⟨s, hs, rfl⟩ := List.mem_map.mp h
      obtain ⟨h1, h2⟩ := lit_nd n s hs
      refine ⟨List.nodup_append.mpr ⟨h1, List.nodup_cons.mpr ⟨(fun z => nomatch z), List.nodup_nil⟩, fun a ha b hb e => ?_⟩, fun k hk => ?_⟩
      · rw [List.mem_singleton.mp hb] at e
        have := (h2 a ha).2
        omega
      · rcases List.mem_append.mp hk with hk | hk
        · have := h2 k hk; omega
        · rw [List.mem_singleton.mp hk]; omega
theorem lenBehaviour (h : spBehaviour K vs H Q E) : vs.length = 1 := by
  obtain ⟨_, hd, _⟩ := h
  exact dp_len hd
theorem readBehaviour (h : spBehaviour K vs H Q E) : tBehaviour K { nx := fun _ H' => Q .non H', rt := Q } (start nBehaviour vs) H := by
  obtain ⟨p, hd, o, q⟩ := h
  obtain ⟨x, rfl, hx⟩ := dp1 hd
  show tBehaviour K _ [some x, none] H
  have bl := o.bl
  have ll : (litSets p.border.length).length ≤ 8 := by
    rw [len_litSets]
    exact Nat.le_trans (Nat.pow_le_pow_right (by omega) bl.2) (by decide)
  have hcall : EvN K (tCall (spLitSets K) [] E0 (tCons (tCB (rLenS K) (tCons (tOp (rIxT K) (tVar 0) (tC (.int 1))) tNil)) tNil)) [some x, none] H ((litSets p.border.length).map rowD) := by
    refine en_call (ds := [.int (p.border.length : Nat)]) (eds1 (ed_int (ev_is (ed_lenT (ep_i1 (ep_var rfl hx)).toD) (by rw [List.length_map])))) fun vs H2 a2 hv Q' E' r => ?_
    obtain ⟨v, rfl, hv1⟩ := dp1 hv
    rw [dp_int hv1]
    exact ⟨p.border.length, rfl, bl.2, r⟩
  have e : (behav p).map rowsD = (litSets p.border.length).map fun l => rowsD (shifts p l) := by
    unfold behav
    rw [List.map_map]
    rfl
  refine s_retD (K := K) (d := behD (behav p)) ?_ q
  rw [behD, e]
  refine ed_tupOf (en_lcN0 _ rowD _ (iv_lstD hcall.toD) (by omega) (by decide) (fun _ _ => tp_rows _) fun lit x' H3 hl a3 hx' => ?_)
  exact ed_call (eds2 (ed_var rfl (dp_ex a3 hx)) (ed_var rfl hx')) fun vs H2 a2 hv Q' E' r => ⟨p, lit, hv, o, lit_nd _ _ hl, r⟩
theorem lenAreAlike (h : spAreAlike K vs H Q E) : vs.length = 2 := by
  obtain ⟨_, _, hd, _⟩ := h
  exact dp_len hd
theorem ed_beh {σ : L2.St} {ta : TE} {p : Pc} (o : Ok p) (h : EvD K ta σ H (pieceD p)) : EvD K (tCall (spBehaviour K) [] E0 (tCons ta tNil)) σ H (behD (behav p)) := ed_call (eds1 h) fun vs H2 a2 hv Q' E' r => ⟨p, hv, o, r⟩
theorem readAreAlike (h : spAreAlike K vs H Q E) : tAreAlike K { nx := fun _ H' => Q .non H', rt := Q } (start nAreAlike vs) H := by
  obtain ⟨p, p', hd, o, o', hl, q⟩ := h
  obtain ⟨x, y, rfl, hx, hy⟩ := dp2 hd
  show tAreAlike K _ [some x, some y] H
  refine q_dropD (K := K) (d := .none) (ed_call (eds2 (ed_var rfl hx) (ed_var rfl hy)) fun vs H2 a2 hv Q' E' r => ⟨p, p', hv, hl, r⟩) fun H1 a1 => ?_
  exact s_retD (ed_bl (ev_eqB (ed_beh o (ed_var rfl (dp_ex a1 hx))) (ed_beh o' (ed_var rfl (dp_ex a1 hy))))) ((q _ (by simp)).go a1)
end
end Tb
set_option Elab.async false
set_option linter.all false
set_option maxRecDepth 100000
set_option maxHeartbeats 4000000
namespace Tb
open PySem PySem.Spec PyProof.Rows L2 Evl
/-! What is come to, step by step. -/
def grow (r : List Nm) (a : Nm × Nm) : List Nm := if a.1 ∈ r ∧ a.2 ∉ r then r ++ [a.2] else r
def pass (r : List Nm) (L : List (Nm × Nm)) : List Nm := L.foldl grow r
theorem pass_snoc (r : List Nm) (L : List (Nm × Nm)) (a : Nm × Nm) : pass r (L ++ [a]) = grow (pass r L) a := by
  unfold pass
  rw [List.foldl_append]
  rfl
theorem grow_len (r : List Nm) (a : Nm × Nm) : r.length ≤ (grow r a).length := by
  unfold grow
  split
  · rw [List.length_append]; omega
  · exact Nat.le_refl _
theorem grow_sub (r : List Nm) (a : Nm × Nm) : ∀ x ∈ r, x ∈ grow r a := fun x hx => by
  unfold grow
  split
  · exact List.mem_append_left _ hx
  · exact hx
theorem pass_sub (L : List (Nm × Nm)) : ∀ (r : List Nm), ∀ x ∈ r, x ∈ pass r L := by
  induction L with
  | nil => exact fun r x hx => hx
  | cons a L ih => exact fun r x hx => ih (grow r a) x (grow_sub r a x hx)
theorem pass_len (L : List (Nm × Nm)) : ∀ (r : List Nm), r.length ≤ (pass r L).length := by
  induction L with
  | nil => exact fun r => Nat.le_refl _
  | cons a L ih => exact fun r => Nat.le_trans (grow_len r a) (ih (grow r a))
def Closed (r : List Nm) (L : List (Nm × Nm)) : Prop := ∀ a ∈ L, a.1 ∈ r → a.2 ∈ r
theorem grow_id {r : List Nm} {a : Nm × Nm} (h : (grow r a).length ≤ r.length) : a.1 ∈ r → a.2 ∈ r := fun h1 => Decidable.byContradiction fun h2 => by
  unfold grow at h
  rw [if_pos ⟨h1, h2⟩, List.length_append, List.length_singleton] at h
  omega
theorem grow_same {r : List Nm} {a : Nm × Nm} (h : a.1 ∈ r → a.2 ∈ r) : grow r a = r := if_neg fun z => z.2 (h z.1)
theorem pass_closed (L : List (Nm × Nm)) : ∀ (r : List Nm), (pass r L).length ≤ r.length → Closed r L ∧ pass r L = r := by
  induction L with
  | nil => exact fun r _ => ⟨fun _ z => (nomatch z), rfl⟩
  | cons a L ih =>
    intro r h
    have h1 : (pass (grow r a) L).length ≤ r.length := h
    have h2 := pass_len L (grow r a)
    have h3 := grow_id (r := r) (a := a) (by omega)
    have e := grow_same h3
    rw [e] at h1
    obtain ⟨h4, h5⟩ := ih r h1
    refine ⟨fun b hb => ?_, ?_⟩
    · rcases List.mem_cons.mp hb with rfl | hb
      · exact h3
      · exact h4 b hb
    · show pass (grow r a) L = r
      rw [e, h5]
theorem closed_pass {L : List (Nm × Nm)} {r : List Nm} (h : Closed r L) : pass r L = r := by
  unfold Closed at h
  induction L with
  | nil => rfl
  | cons a L ih =>
    show pass (grow r a) L = r
    rw [grow_same (h a List.mem_cons_self)]
    exact ih fun b hb => h b (List.mem_cons_of_mem _ hb)
/-- what is known of a growing list -/
structure Grw (W : Wd) (S : Nm → Prop) (r : List Nm) : Prop where
  pl : ∀ x ∈ r, x ∈ W.places
  rc : ∀ x ∈ r, Rch W S x
  sr : ∀ x, S x → x ∈ r
theorem arrS_mem {W : Wd} (o : OkW W) {a : Nm × Nm} (h : a ∈ arrS W) : a.1 ∈ W.places ∧ a.2 ∈ W.places := by
  obtain ⟨q, hq, rfl⟩ := List.mem_map.mp h
  have hw := o.lo _ (List.of_mem_zip hq).1
  refine ⟨tl_mem ⟨hw.1, hw.2.1⟩, ?_⟩
  rcases o.hd q hq with e | e
  · show q.2 ∈ _
    rw [e]; exact hw.1
  · show q.2 ∈ _
    rw [e]; exact hw.2.1
theorem Grw.grow {W : Wd} {S : Nm → Prop} {r : List Nm} (o : OkW W) (h : Grw W S r) {a : Nm × Nm} (ha : a ∈ arrS W) : Grw W S (grow r a) := by
  unfold Tb.grow
  split
  · rename_i c
    refine ⟨fun x hx => ?_, fun x hx => ?_, fun x hx => List.mem_append_left _ (h.sr x hx)⟩
    · rcases List.mem_append.mp hx with hx | hx
      · exact h.pl x hx
      · rw [List.mem_singleton.mp hx]; exact (arrS_mem o ha).2
    · rcases List.mem_append.mp hx with hx | hx
      · exact h.rc x hx
      · rw [List.mem_singleton.mp hx]; exact .step (h.rc _ c.1) ha
  · exact h
theorem Grw.pass {W : Wd} {S : Nm → Prop} (o : OkW W) : ∀ (L : List (Nm × Nm)), (∀ a ∈ L, a ∈ arrS W) → ∀ {r : List Nm}, Grw W S r → Grw W S (pass r L)
  | [], _, _, h => h
  | a :: L, m, r, h => Grw.pass o L (fun b hb => m b (List.mem_cons_of_mem _ hb)) (h.grow o (m a List.mem_cons_self))
theorem Grw.iff {W : Wd} {S : Nm → Prop} {r : List Nm} (h : Grw W S r) (c : Closed r (arrS W)) (x : Nm) : x ∈ r ↔ Rch W S x := ⟨h.rc x, fun q => by
  induction q with
  | src s => exact h.sr _ s
  | step _ m ih => exact c _ m ih⟩
/-- the places not come to -/
def miss (W : Wd) (r : List Nm) : Nat := (W.places.filter fun x => decide (x ∉ r)).length
theorem filter_le {α : Type} {p q : α → Bool} (h : ∀ x, p x = true → q x = true) : ∀ l : List α, (l.filter p).length ≤ (l.filter q).length
  | [] => Nat.le_refl _
  | a :: l => by
    have ih := filter_le h l
    rw [List.filter_cons, List.filter_cons]
    cases hp : p a with
    | true => rw [if_pos rfl, if_pos (h a hp)]; exact Nat.succ_le_succ ih
    | false =>
      rw [if_neg (by simp)]
      split
      · exact Nat.le_succ_of_le ih
      · exact ih
theorem miss_mono {W : Wd} {r r' : List Nm} (h : ∀ x ∈ r, x ∈ r') : miss W r' ≤ miss W r := filter_le (fun x hx => by
  rw [decide_eq_true_eq] at *
  exact fun z => hx (h x z)) _
theorem filter_lt {α : Type} {p q : α → Bool} (h : ∀ x, p x = true → q x = true) {a : α} (h1 : p a = false) (h2 : q a = true) : ∀ {l : List α}, a ∈ l → (l.filter p).length < (l.filter q).length
  | b :: l, hm => by
    have le := filter_le h l
    rw [List.filter_cons, List.filter_cons]
    rcases List.mem_cons.mp hm with e | hm
    · subst e
      rw [h1, h2, if_pos rfl, if_neg (by simp)]
      exact Nat.lt_succ_of_le le
    · have ih := filter_lt h h1 h2 hm
      cases hp : p b with
      | true => rw [if_pos rfl, if_pos (h b hp)]; exact Nat.succ_lt_succ ih
      | false =>
        rw [if_neg (by simp)]
        split
        · exact Nat.lt_succ_of_lt ih
        · exact ih
theorem miss_lt {W : Wd} {r : List Nm} {x : Nm} (hx : x ∈ W.places) (n : x ∉ r) : miss W (r ++ [x]) < miss W r :=
  filter_lt (fun y hy => by
    rw [decide_eq_true_eq] at *
    exact fun z => hy (List.mem_append_left _ z)) (a := x) (by simp) (by simp [n]) hx
theorem pass_miss {W : Wd} (o : OkW W) : ∀ (L : List (Nm × Nm)), (∀ a ∈ L, a ∈ arrS W) → ∀ r : List Nm, r.length < (pass r L).length → miss W (pass r L) < miss W r
  | [], _, r, h => absurd h (Nat.lt_irrefl _)
  | a :: L, m, r, h => by
    have h' : r.length < (pass (grow r a) L).length := h
    show miss W (pass (grow r a) L) < _
    by_cases c : a.1 ∈ r ∧ a.2 ∉ r
    · have e : grow r a = r ++ [a.2] := if_pos c
      have h1 : miss W (pass (grow r a) L) ≤ miss W (grow r a) := miss_mono (pass_sub L _)
      have h2 : miss W (grow r a) < miss W r := by
        rw [e]
        exact miss_lt (arrS_mem o (m a List.mem_cons_self)).2 c.2
      omega
    · have e : grow r a = r := if_neg c
      rw [e] at h' ⊢
      exact pass_miss o L (fun b hb => m b (List.mem_cons_of_mem _ hb)) r h'
theorem miss_le {W : Wd} {r : List Nm} : miss W r ≤ W.places.length := List.length_filter_le _ _
theorem miss_start {W : Wd} {x : Nm} {r : List Nm} (h : x ∈ W.places) (hr : x ∈ r) : miss W r < W.places.length := by
  have := filter_lt (p := fun y => decide (y ∉ r)) (q := fun _ => true) (fun _ _ => rfl) (a := x) (by simp [hr]) rfl h
  rw [List.filter_eq_self.mpr fun _ _ => rfl] at this
  exact this
/-- the list has no more than its start and the places -/
theorem pass_size {W : Wd} (o : OkW W) : ∀ (L : List (Nm × Nm)), (∀ a ∈ L, a ∈ arrS W) → ∀ r : List Nm, (pass r L).length + miss W (pass r L) ≤ r.length + miss W r
  | [], _, r => Nat.le_refl _
  | a :: L, m, r => by
    have ih := pass_size o L (fun b hb => m b (List.mem_cons_of_mem _ hb)) (grow r a)
    have : (grow r a).length + miss W (grow r a) ≤ r.length + miss W r := by
      by_cases c : a.1 ∈ r ∧ a.2 ∉ r
      · have e : grow r a = r ++ [a.2] := if_pos c
        have := miss_lt (arrS_mem o (m a List.mem_cons_self)).2 c.2
        rw [e, List.length_append, List.length_singleton]
        omega
      · have e : grow r a = r := if_neg c
        rw [e]
        exact Nat.le_refl _
    exact Nat.le_trans ih this
end Tb
set_option Elab.async false
set_option linter.all false
set_option maxRecDepth 100000
set_option maxHeartbeats 4000000
namespace Tb
open PySem PySem.Spec PyProof.Rows L2 Evl
section
variable {K : PySem.W.Frag} {vs : List V} {H : Hp} {Q : VK} {E : XK}
/-- a for over zip(a tuple, a new list); the turns may change what stands outside both -/
theorem q_forZM {σ : L2.St} {H0 : Hp} {ta tb : TE} {ds es : List PyData} {D : Ends} {tu tz : TS} {g : TG} (h : EvP K ta σ H0 (.tuple ds)) (a0 : Ex H0 H) (h2 : EvN K tb σ H es) (Pv : Addr → List V → Nat → L2.St → Hp → Prop) (h0 : ∀ p vs H1, Ex H H1 → H p = none → H1 p = some (.lst vs) → DpAll K H1 vs es → Pv p vs 0 σ H1)
    (hG : ∀ p vs i σ' H', Pv p vs i σ' H' → Ex H0 H' ∧ H' p = some (.lst vs) ∧ DpAll K H' vs es)
    (hs : ∀ p vs i d x σ' H1 H2, (pairsD ds es)[i]? = some d → Pv p vs i σ' H1 → Ex H1 H2 → Dp K H2 x d → g x σ' H2 fun σ2 H3 => tu { D with nx := Pv p vs (i + 1), ct := Pv p vs (i + 1), bk := tz D } σ2 H3) (hd : ∀ p vs σ' H', Pv p vs (pairsD ds es).length σ' H' → tz D σ' H') : tSeq (tFor (iZipM K (tCons ta (tCons tb tNil))) g tu) tz D σ H := by
  obtain ⟨v, h1, hv⟩ := h
  obtain ⟨p, xs, rfl, hs1, hd1⟩ := dp_tup h1
  refine hv H a0 _ fun H2 b => h2 H2 b _ fun p2 ys H3 c hn2 hp2 hd2 => ⟨p, p2, xs, ys, rfl, ex_t ((a0.trans b).trans c) hs1, sq_of hp2, ?_⟩
  have w := wd_pair (K := K) ds es (walk_zipM (K := K) (a := p) (b := p2) (xs := xs) (ys := ys) rfl) (by rw [pairsD_len, dp_len hd1, dp_len hd2])
  obtain ⟨Y, w, wy⟩ := w
  have gk : ∀ i σ' H', Pv p2 ys i σ' H' → (SqT K H' p xs ∧ SqL K H' p2 ys) ∧ DpAll K H' xs ds ∧ DpAll K H' ys es := fun i σ' H' P => by
    obtain ⟨e, q1, q2⟩ := hG p2 ys i σ' H' P
    exact ⟨⟨ex_t e hs1, sq_of q1⟩, dps_ex e hd1, q2⟩
  refine for_it (D := { D with nx := tz D }) w (Pv p2 ys) (h0 p2 ys H3 (b.trans c) (fresh_back b hn2) hp2 hd2) (fun i σ' H' _ P => gk i σ' H' P) (fun i x σ' H1 H2' _ P y => ?_) (hd p2 ys)
  obtain ⟨e, d, q1, q2⟩ := wy i H1 x H2' (gk i σ' H1 P) y
  exact hs p2 ys i d x σ' H1 H2' q1 P e q2
/-- a for over a list that stands; the turns may change other things -/
theorem s_forLV {σ : L2.St} {tl : TE} {ds : List PyData} {D : Ends} {tu : TS} {g : TG} {a : Addr} {ws : List V} (h : Ev tl σ H (.ref a)) (Pv : Nat → L2.St → Hp → Prop) (h0 : ∀ H1, Ex H H1 → Pv 0 σ H1)
    (hG : ∀ i σ' H', Pv i σ' H' → H' a = some (.lst ws) ∧ DpAll K H' ws ds)
    (hs : ∀ i d x σ' H1, ds[i]? = some d → Pv i σ' H1 → Dp K H1 x d → g x σ' H1 fun σ2 H3 => tu { D with nx := Pv (i + 1), ct := Pv (i + 1), bk := D.nx } σ2 H3) (hd : ∀ σ' H', Pv ds.length σ' H' → D.nx σ' H') : tFor (iList K tl) g tu D σ H :=
  h H (Ex.refl H) _ fun H1 e1 => by
    obtain ⟨hp, hv⟩ := hG 0 σ H1 (h0 H1 e1)
    refine ⟨a, rfl, ⟨ws, sq_of hp⟩, ?_⟩
    have hl := dp_len hv
    refine for_list (xs := ws) Pv (h0 H1 e1) (fun i σ' H' _ q => sq_of (hG i σ' H' q).1) (fun i x σ' H' hx q => ?_) (fun σ' H' q => ?_)
    · obtain ⟨d, h1, h2⟩ := dps_get' (hG i σ' H' q).2 hx
      exact hs i d x σ' H' h1 q h2
    · rw [hl] at q
      exact hd σ' H' q
def bat (p : Pc) (k : Int) : Nm := p.border.getD k.toNat ""
theorem bat_at {p : Pc} {k : Int} (h : 0 ≤ k ∧ k < p.border.length) : p.border[k.toNat]? = some (bat p k) := by
  unfold bat
  rw [List.getD_eq_getElem?_getD, List.getElem?_eq_getElem (by omega)]
  rfl
/-- who is there -/
def occ (W : Wd) : List (Nm × Int) := (W.places.zip W.crowd).filter fun q => decide (0 < q.2)
theorem srcs_iff {p : Pc} {lit : List Int} (lo : LitOk p lit) (x : Nm) : srcs p lit x ↔ x ∈ lit.map (bat p) ++ (occ p.w).map (·.1) := by
  rw [List.mem_append]
  refine or_congr ⟨fun ⟨k, h1, h2⟩ => ?_, fun h => ?_⟩ ⟨fun ⟨i, n, h1, h2, h3⟩ => ?_, fun h => ?_⟩
  · refine List.mem_map.mpr ⟨k, h1, ?_⟩
    have := bat_at (p := p) (lo.2 k h1)
    rw [Int.toNat_natCast, h2] at this
    exact (Option.some.inj this).symm
  · obtain ⟨k, hk, rfl⟩ := List.mem_map.mp h
    refine ⟨k.toNat, ?_, bat_at (lo.2 k hk)⟩
    have := (lo.2 k hk).1
    rw [Int.toNat_of_nonneg this]
    exact hk
  · refine List.mem_map.mpr ⟨(x, n), List.mem_filter.mpr ⟨List.mem_of_getElem? (i := i) ?_, decide_eq_true h3⟩, rfl⟩
    rw [List.getElem?_zip_eq_some]
    exact ⟨h1, h2⟩
  · obtain ⟨q, hq, rfl⟩ := List.mem_map.mp h
    obtain ⟨h1, h2⟩ := List.mem_filter.mp hq
    obtain ⟨i, hi⟩ := List.getElem?_of_mem h1
    have := zip_at2 hi
    exact ⟨i, q.2, this.1, this.2, of_decide_eq_true h2⟩
theorem grw0 {p : Pc} (o : Ok p) {lit : List Int} (lo : LitOk p lit) : Grw p.w (srcs p lit) (lit.map (bat p) ++ (occ p.w).map (·.1)) := by
  refine ⟨fun x hx => ?_, fun x hx => .src ((srcs_iff lo x).mpr hx), fun x hx => (srcs_iff lo x).mp hx⟩
  rcases List.mem_append.mp hx with hx | hx
  · obtain ⟨k, hk, rfl⟩ := List.mem_map.mp hx
    exact o.bs _ (List.mem_of_getElem? (bat_at (lo.2 k hk)))
  · obtain ⟨q, hq, rfl⟩ := List.mem_map.mp hx
    exact (List.of_mem_zip (List.mem_filter.mp hq).1).1
theorem nd_sub {α : Type} [DecidableEq α] : ∀ {l m : List α}, l.Nodup → (∀ x ∈ l, x ∈ m) → l.length ≤ m.length
  | [], _, _, _ => Nat.zero_le _
  | a :: r, m, h, s => by
    obtain ⟨h1, h2⟩ := List.nodup_cons.mp h
    have ih := nd_sub (l := r) (m := m.erase a) h2 fun x hx => (List.mem_erase_of_ne fun z => h1 (by rw [← z]; exact hx)).mpr (s x (List.mem_cons_of_mem _ hx))
    have ha := s a List.mem_cons_self
    rw [List.length_erase_of_mem ha] at ih
    have : 0 < m.length := List.length_pos_of_mem ha
    rw [List.length_cons]
    omega
theorem nd_len {lit : List Int} (nd : lit.Nodup) {n : Nat} (h : ∀ k ∈ lit, 0 ≤ k ∧ k < (n : Int)) : lit.length ≤ n := by
  have := nd_sub nd (m := (List.range n).map (fun i : Nat => (i : Int))) fun k hk => List.mem_map.mpr ⟨k.toNat, List.mem_range.mpr (by have := h k hk; omega), by have := h k hk; omega⟩
  rw [List.length_map, List.length_range] at this
  exact this
theorem lit_le {p : Pc} {lit : List Int} (lo : LitOk p lit) (o : Ok p) : lit.length ≤ 3 := Nat.le_trans (nd_len lo.1 lo.2) o.bl.2
theorem occ_len {W : Wd} (o : OkW W) : (occ W).length ≤ 10 := Nat.le_trans (List.length_filter_le _ _) (by rw [List.length_zip]; have := o.pl; omega)
theorem en_bat {σ : L2.St} {p : Pc} {lit : List Int} {wi : TI} {ta : TE} {j : Nat} {vs : List Nat} (o : Ok p) (lo : LitOk p lit) (iv : IvD K wi σ H (lit.map .int)) (hj : j ∈ vs) (hb : ∀ k H1, Ex H H1 → EvD K ta ((wipe σ vs).set j (some (.int k))) H1 (nsD p.border)) (hjl : j < σ.length) :
    EvN K (tLc wi (gName j) tYes (tOp (rIxT K) ta (tVar j)) vs) σ H ((lit.map (bat p)).map .str) := by
  rw [List.map_map]
  refine en_lcN0 lit .int (fun k => .str (bat p k)) iv (by have := lit_le lo o; omega) hj (fun _ _ => rfl) fun k x' H1 hk a1 hx' => ?_
  rw [dp_int hx']
  obtain ⟨n, rfl⟩ := Int.eq_ofNat_of_zero_le (lo.2 k hk).1
  refine ed_ixT (k := n) (hb _ H1 a1) (ev_var ?_) (map_at ?_)
  · rw [List.getElem?_set_self (by rw [wipe_length]; exact hjl)]
  · have := bat_at (lo.2 _ hk)
    rw [Int.toNat_natCast] at this
    exact this
theorem g_pair {i j : Nat} {σ : L2.St} {x : V} {w : Nm × Nm} {Q : L2.St → Hp → Prop} (hx : Dp K H x (pairD w)) (q : Q ((σ.set i (some (.str w.1))).set j (some (.str w.2))) H) :
    gTup K 2 (gCons (gName i) (gCons (gName j) gNil)) x σ H Q := by
  refine g_tup hx rfl fun xs hd => ?_
  obtain ⟨a, b, rfl, h3, h4⟩ := dp2 hd
  rw [dp_str h3, dp_str h4]
  exact ⟨_, _, rfl, _, _, rfl, rfl, q⟩
theorem g_cnt {i j : Nat} {σ : L2.St} {x : V} {w : Nm × Int} {Q : L2.St → Hp → Prop} (hx : Dp K H x (cntD w)) (q : Q ((σ.set i (some (.str w.1))).set j (some (.int w.2))) H) :
    gTup K 2 (gCons (gName i) (gCons (gName j) gNil)) x σ H Q := by
  refine g_tup hx rfl fun xs hd => ?_
  obtain ⟨a, b, rfl, h3, h4⟩ := dp2 hd
  rw [dp_str h3, dp_int h4]
  exact ⟨_, _, rfl, _, _, rfl, rfl, q⟩
theorem arrS_len {W : Wd} (o : OkW W) : (arrS W).length ≤ 6 := by
  unfold arrS
  rw [List.length_map, List.length_zip]
  have := o.wl
  omega
theorem lenLitReach (h : spLitReach K vs H Q E) : vs.length = 2 := by
  obtain ⟨_, _, hd, _⟩ := h
  exact dp_len hd
theorem tp_strs (l : List Nm) : Tp.all (l.map .str) = true := tp_map (fun _ => rfl) l
theorem readLitReach (h : spLitReach K vs H Q E) : tLitReach K { nx := fun _ H' => Q .non H', rt := Q } (start nLitReach vs) H := by
  obtain ⟨p, lit, hd, o, lo, q⟩ := h
  obtain ⟨x, y, rfl, hx, hy⟩ := dp2 hd
  have ow := o.w
  have oc := occ_len ow
  have ll := lit_le lo o
  have pl := ow.pl
  have cl := ow.cl
  show tLitReach K _ [some x, some y, none, none, none, none, none, none, none, none, none, none] H
  refine q_unpD (ep_var rfl hx).toD rfl fun xs H1 a1 h1 => ?_
  obtain ⟨vw, vb, rfl, hw, hb⟩ := dp2 h1
  refine ⟨_, _, rfl, _, _, rfl, rfl, ?_⟩
  have hy1 := dp_ex a1 hy
  show tSeq _ _ _ [some x, some y, some vw, some vb, none, none, none, none, none, none, none, none] H1
  refine q_asgNL (K := K) (en_bat o lo (iv_tup (ep_var rfl hy1)).toD (by decide) (fun k H2 a2 => ed_var rfl (dp_ex a2 hb)) (by show (11 : Nat) < 12; decide)) fun l H2 P => ?_
  show tSeq _ _ _ [some x, some y, some vw, some vb, some (.ref l), none, none, none, none, none, none, none] H2
  have hw2 := dp_ex P.2.1 hw
  refine q_forZM (K := K) (H0 := H1) (ds := p.w.places.map .str) (es := p.w.crowd.map .int) (ep_i0 (ep_i0 (ep_var rfl hw))) P.2.1 (en_call (eds1 (ed_var rfl hw2)) fun vs H3 a3 hv Q' E' r => ⟨p.w, hv, by omega, r⟩)
    (fun pc ws i σ' H' => (∃ a b, σ' = [some x, some y, some vw, some vb, some (.ref l), a, b, none, none, none, none, none]) ∧ pc ≠ l ∧ H' pc = some (.lst ws) ∧ DpAll K H' ws (p.w.crowd.map .int) ∧ LcP K H1 l ((lit.map (bat p) ++ (((p.w.places.zip p.w.crowd).take i).filter fun q => decide (0 < q.2)).map (·.1)).map .str) H')
    (fun pc ws H3 a3 hn hp hv => ⟨⟨_, _, rfl⟩, (fun z => by obtain ⟨_, _, us, hu, _⟩ := P; rw [z, hu] at hn; cases hn), hp, hv, by rw [List.take_zero, List.filter_nil, List.map_nil, List.append_nil]; exact P.ex a3⟩)
    (fun pc ws i σ' H' ⟨_, _, p2, p3, p4⟩ => ⟨p4.2.1, p2, p3⟩)
    (fun pc ws i d x' σ' H3 H4 hi ⟨⟨_, _, e⟩, p1, p2, p3, p4⟩ a4 hx' => ?_) fun pc ws σ' H3 ⟨⟨j5, j6, e⟩, p1, p2, p3, p4⟩ => ?_
  · subst e
    rw [pairsD_zip, List.getElem?_map] at hi
    obtain ⟨q', hq, rfl⟩ := Option.map_eq_some_iff.mp hi
    refine g_cnt hx' ?_
    show tIfS _ _ _ _ [some x, some y, some vw, some vb, some (.ref l), some (.str q'.1), some (.int q'.2), none, none, none, none, none] H4
    have st : ((p.w.places.zip p.w.crowd).take (i + 1)).filter (fun q => decide (0 < q.2)) = ((p.w.places.zip p.w.crowd).take i).filter (fun q => decide (0 < q.2)) ++ (if decide (0 < q'.2) = true then [q'] else []) := by
      rw [take_succ_at hq, List.filter_append, List.filter_cons]
      rfl
    refine s_when (et_gt (ev_var rfl) ev_c) (fun c H5 a5 => ?_) fun c H5 a5 => ⟨⟨_, _, rfl⟩, p1, (a4.trans a5) _ _ p2, dps_ex (a4.trans a5) p3, ?_⟩
    · refine s_acc ((p4.ex a4).ex a5) rfl (ed_vs rfl) (tp_strs _) rfl ?_ fun H6 P6 o6 t6 => ⟨⟨_, _, rfl⟩, p1, o6 _ _ p1 ((a4.trans a5) _ _ p2), dps_tx t6 (dps_ex (a4.trans a5) p3) (tp_map (fun _ => rfl) _), ?_⟩
      · have l1 := List.length_filter_le (fun q : Nm × Int => decide (0 < q.2)) ((p.w.places.zip p.w.crowd).take i)
        have l2 := List.length_take_le' i (p.w.places.zip p.w.crowd)
        rw [List.length_zip] at l2
        rw [List.length_map, List.length_append, List.length_map, List.length_map]
        omega
      · rw [st, if_pos c]
        simp only [List.map_append, List.append_assoc, List.map_cons, List.map_nil] at P6 ⊢
        exact P6
    · rw [st, if_neg (by rw [c]; simp), List.append_nil]
      exact (p4.ex a4).ex a5
  · subst e
    have el : (pairsD (p.w.places.map PyData.str) (p.w.crowd.map PyData.int)).length = (p.w.places.zip p.w.crowd).length := by rw [pairsD_zip, List.length_map]
    rw [el, List.take_length] at p4
    change LcP K H1 l ((lit.map (bat p) ++ (occ p.w).map (·.1)).map .str) H3 at p4
    have hw3 := dp_ex p4.2.1 hw
    refine q_asgN (en_call (K := K) (es := (arrS p.w).map pairD) (eds1 (ed_var rfl hw3)) fun vs H4 a4 hv Q' E' r => ⟨p.w, hv, ow.wl, r⟩) fun ps ss H4 a4 hn4 hp4 hv4 => ?_
    have nl : ps ≠ l := fun z => by
      obtain ⟨_, _, us, hu, _⟩ := p4
      rw [z, hu] at hn4
      cases hn4
    refine q_asg ev_c fun H5 a5 => ?_
    show tSeq _ _ _ [some x, some y, some vw, some vb, some (.ref l), j5, j6, some (.ref ps), some (.bl true), none, none, none] H5
    have ol := arrS_len ow
    refine q_while (fun m σ' H' => ∃ (r : List Nm) (g : Bool) (j9 j10 : Option V), σ' = [some x, some y, some vw, some vb, some (.ref l), j5, j6, some (.ref ps), some (.bl g), j9, j10, none] ∧ H' ps = some (.lst ss) ∧ DpAll K H' ss ((arrS p.w).map pairD) ∧ LcP K H1 l (r.map .str) H' ∧ Grw p.w (srcs p lit) r ∧ (g = false → Closed r (arrS p.w)) ∧ r.length + miss p.w r ≤ 30 ∧ m = 2 * miss p.w r + (if g = true then 1 else 0)) _
      ⟨_, true, _, _, rfl, a5 _ _ hp4, dps_ex a5 hv4, (p4.ex a4).ex a5, grw0 o lo, fun z => (nomatch z), ?_, rfl⟩ fun m σ' H6 ⟨r, g, j9, j10, e, s1, s2, s3, s4, s5, s6, s7⟩ => ⟨g, ?_, fun c H7 a7 => ?_, fun c H7 a7 => ?_⟩
    · rw [List.length_append, List.length_map, List.length_map]
      have := miss_le (W := p.w) (r := lit.map (bat p) ++ (occ p.w).map (·.1))
      omega
    · subst e
      exact et_B (ev_var rfl)
    · subst e
      subst c
      refine ⟨fun σ' H' => ∃ m', m' < m ∧ ∃ (r : List Nm) (g : Bool) (j9 j10 : Option V), σ' = [some x, some y, some vw, some vb, some (.ref l), j5, j6, some (.ref ps), some (.bl g), j9, j10, none] ∧ H' ps = some (.lst ss) ∧ DpAll K H' ss ((arrS p.w).map pairD) ∧ LcP K H1 l (r.map .str) H' ∧ Grw p.w (srcs p lit) r ∧ (g = false → Closed r (arrS p.w)) ∧ r.length + miss p.w r ≤ 30 ∧ m' = 2 * miss p.w r + (if g = true then 1 else 0), fun _ _ h => h, ?_⟩
      refine q_asg ev_c fun H8 a8 => ?_
      show tFor _ _ _ _ [some x, some y, some vw, some vb, some (.ref l), j5, j6, some (.ref ps), some (.bl false), j9, j10, none] H8
      have a78 := a7.trans a8
      have psz : ∀ i, (pass r ((arrS p.w).take i)).length ≤ 30 := fun i => by
        have := pass_size ow ((arrS p.w).take i) (fun a ha => List.mem_of_mem_take ha) r
        omega
      refine s_forLV (K := K) (a := ps) (ws := ss) (ds := (arrS p.w).map pairD) (ev_var rfl) (fun i σ' H' => (∃ a b, σ' = [some x, some y, some vw, some vb, some (.ref l), j5, j6, some (.ref ps), some (.bl (decide (r.length < (pass r ((arrS p.w).take i)).length))), a, b, none]) ∧ H' ps = some (.lst ss) ∧ DpAll K H' ss ((arrS p.w).map pairD) ∧ LcP K H1 l ((pass r ((arrS p.w).take i)).map .str) H')
        (fun H9 a9 => ⟨⟨_, _, by rw [List.take_zero]; show _ = [some x, some y, some vw, some vb, some (.ref l), j5, j6, some (.ref ps), some (.bl (decide (r.length < r.length))), _, _, none]; rw [decide_eq_false (Nat.lt_irrefl _)]⟩, (a78.trans a9) _ _ s1, dps_ex (a78.trans a9) s2, s3.ex (a78.trans a9)⟩) (fun i σ' H' t => ⟨t.2.1, t.2.2.1⟩) (fun i d x' σ' H9 hi ⟨⟨_, _, e⟩, t1, t2, t3⟩ hx' => ?_) fun σ' H9 ⟨⟨k9, k10, e⟩, t1, t2, t3⟩ => ?_
      · subst e
        rw [List.getElem?_map] at hi
        obtain ⟨a, ha, rfl⟩ := Option.map_eq_some_iff.mp hi
        refine g_pair hx' ?_
        show tIfS _ _ _ _ [some x, some y, some vw, some vb, some (.ref l), j5, j6, some (.ref ps), some (.bl (decide (r.length < (pass r ((arrS p.w).take i)).length))), some (.str a.1), some (.str a.2), none] H9
        have hst : pass r ((arrS p.w).take (i + 1)) = grow (pass r ((arrS p.w).take i)) a := by rw [take_succ_at ha, pass_snoc]
        have lr := pass_len ((arrS p.w).take i) r
        refine s_when (et_and (et_inL (ed_vs rfl) (ed_var rfl t3.edp)) fun _ => et_niL (ed_vs rfl) (ed_var rfl t3.edp)) (fun c H10 a10 => ?_) fun c H10 a10 => ?_
        · rw [Bool.and_eq_true] at c
          have c1 := of_decide_eq_true c.1
          have c2 := of_decide_eq_true c.2
          have eg : grow (pass r ((arrS p.w).take i)) a = pass r ((arrS p.w).take i) ++ [a.2] := if_pos ⟨c1, c2⟩
          have ps30 := psz i
          refine q_acc (t3.ex a10) rfl (ed_vs rfl) (tp_strs _) rfl (by rw [List.length_map]; omega) fun H11 P11 o11 t11 => ?_
          refine s_asg ev_c fun H12 a12 => ⟨⟨some (.str a.1), some (.str a.2), ?_⟩, a12 _ _ (o11 _ _ nl (a10 _ _ t1)), dps_ex a12 (dps_tx t11 (dps_ex a10 t2) (tp_map tp_pair _)), ?_⟩
          · rw [hst, eg, decide_eq_true (p := r.length < (pass r ((arrS p.w).take i) ++ [a.2]).length) (by rw [List.length_append, List.length_singleton]; omega)]
            rfl
          · rw [hst, eg, List.map_append]
            exact P11.ex a12
        · have eg : grow (pass r ((arrS p.w).take i)) a = pass r ((arrS p.w).take i) := if_neg fun z => by
            rw [decide_eq_true z.1, decide_eq_true z.2] at c
            cases c
          refine ⟨⟨some (.str a.1), some (.str a.2), ?_⟩, a10 _ _ t1, dps_ex a10 t2, ?_⟩
          · rw [hst, eg]
          · rw [hst, eg]
            exact t3.ex a10
      · subst e
        rw [List.length_map, List.take_length] at t3 ⊢
        have g' := s4.pass ow (arrS p.w) (fun a ha => ha)
        have z' := pass_size ow (arrS p.w) (fun a ha => ha) r
        by_cases c : r.length < (pass r (arrS p.w)).length
        · have m' := pass_miss ow (arrS p.w) (fun a ha => ha) r c
          refine ⟨2 * miss p.w (pass r (arrS p.w)) + 1, ?_, _, true, k9, k10, by rw [decide_eq_true c], t1, t2, t3, g', fun z => (nomatch z), by omega, rfl⟩
          rw [s7, if_pos rfl]
          omega
        · obtain ⟨c1, c2⟩ := pass_closed (arrS p.w) r (by omega)
          rw [c2] at t3 ⊢
          refine ⟨2 * miss p.w r, ?_, r, false, k9, k10, by rw [decide_eq_false (Nat.lt_irrefl _)], t1, t2, t3, s4, fun _ => c1, s6, rfl⟩
          rw [s7, if_pos rfl]
          omega
    · subst e
      subst c
      exact s_retAcc (s3.ex a7) rfl ((q r fun z => s4.iff (s5 rfl) z).go a1)
end
end Tb
set_option Elab.async false
set_option linter.all false
set_option maxRecDepth 100000
set_option maxHeartbeats 4000000
namespace Tb
open PySem PySem.Spec PyProof.Rows L2 Evl
section
variable {K : PySem.W.Frag} {vs : List V} {H : Hp} {Q : VK} {E : XK}
theorem rch_congr {W : Wd} {S T : Nm → Prop} (h : ∀ x, S x ↔ T x) (x : Nm) : Rch W S x ↔ Rch W T x := by
  have key : ∀ {S T : Nm → Prop}, (∀ x, S x → T x) → Rch W S x → Rch W T x := fun {S T} h q => by
    induction q with
    | src s => exact .src (h _ s)
    | step _ m ih => exact .step ih m
  exact ⟨key fun y => (h y).mp, key fun y => (h y).mpr⟩
theorem arrS_at {W : Wd} {i : Nat} {q : Wy × Nm} (h : (W.ways.zip W.heads)[i]? = some q) : (arrS W)[i]? = some (tl q.1 q.2, q.2) := by
  unfold arrS
  rw [List.getElem?_map, h]
  rfl
theorem lenLCome (h : spLCome K vs H Q E) : vs.length = 2 := by
  obtain ⟨_, _, hd, _⟩ := h
  exact dp_len hd
theorem ed_tail {σ : L2.St} {W : Wd} {ta tb : TE} {k : Nat} {a : Wy × Nm} (o : OkW W) (h : EvD K ta σ H (worldD W)) (h2 : Ev tb σ H (.int (k : Nat))) (hk : (W.ways.zip W.heads)[k]? = some a) : EvD K (tCall (spLTail K) [] E0 (tCons ta (tCons tb tNil))) σ H (.str (tl a.1 a.2)) := by
  have z := zip_at2 hk
  exact ed_call (eds2 h (ed_int h2)) fun vs H2 a2 hv Q' E' r => ⟨W, nsD W.heads, k, a.1, a.2, hv, .inl rfl, z.1, z.2, o.hdok.ne _ (List.of_mem_zip (List.mem_of_getElem? hk)).1, o.hd _ (List.mem_of_getElem? hk), r⟩
theorem readLCome (h : spLCome K vs H Q E) : tLCome K { nx := fun _ H' => Q .non H', rt := Q } (start nLCome vs) H := by
  obtain ⟨W, os, hd, o, ol, q⟩ := h
  obtain ⟨x, y, rfl, hx, hy⟩ := dp2 hd
  have pl := o.pl
  have wl := o.wl
  have hl := o.hl
  show tLCome K _ [some x, some y, none, none, none, none] H
  refine q_asgNL (K := K) (en_lcN W.places .str (fun a => decide (a ∈ os)) .str (iv_tup (ep_i0 (ep_i0 (ep_var rfl hx)))).toD (by omega) (by decide) (fun _ _ _ => rfl) fun a x' H1 ha a1 hx' => ⟨et_inL (by rw [dp_str hx']; exact ed_vs rfl) (ed_var rfl (dp_ex a1 hy)), fun _ => ed_var rfl hx'⟩) fun l H1 P => ?_
  show tSeq _ _ _ [some x, some y, some (.ref l), none, none, none] H1
  have g0 : Grw W (fun x => x ∈ W.places ∧ x ∈ os) (W.places.filter fun a => decide (a ∈ os)) := ⟨fun x hx => (List.mem_filter.mp hx).1, fun x hx => .src ⟨(List.mem_filter.mp hx).1, of_decide_eq_true (List.mem_filter.mp hx).2⟩, fun x hx => List.mem_filter.mpr ⟨hx.1, decide_eq_true hx.2⟩⟩
  have s0 := List.length_filter_le (fun a => decide (a ∈ os)) W.places
  refine q_forR W.places (H := H) (ea1 (ed_lenT (ep_i0 (ep_i0 (ep_var rfl hx))).toD)) (by rw [List.length_map]) (by omega) P.2.1 (fun i σ' H' => ∃ (r : List Nm) (j3 j4 : Option V), σ' = [some x, some y, some (.ref l), j3, j4, none] ∧ LcP K H l (r.map .str) H' ∧ Grw W (fun x => x ∈ W.places ∧ x ∈ os) r ∧ (Closed r (arrS W) ∨ i + miss W r < W.places.length) ∧ r.length + miss W r ≤ 30) (fun H3 a3 => ⟨_, _, _, rfl, P.ex a3, g0, ?_, ?_⟩) (fun _ _ _ ⟨_, _, _, _, p, _⟩ => p.2.1) (fun i a σ' H3 hi ⟨r, j3, j4, e, p, g, cl, sz⟩ => ?_) fun σ' H3 ⟨r, j3, j4, e, p, g, cl, sz⟩ => ?_
  · cases hf : W.places.filter (fun a => decide (a ∈ os)) with
    | nil => exact .inl fun a _ z => (nomatch z)
    | cons b r =>
      refine .inr ?_
      rw [Nat.zero_add]
      have hb : b ∈ W.places.filter (fun a => decide (a ∈ os)) := by rw [hf]; exact List.mem_cons_self
      exact miss_start (List.mem_filter.mp hb).1 List.mem_cons_self
  · have := miss_le (W := W) (r := W.places.filter fun a => decide (a ∈ os))
    omega
  · subst e
    show tFor _ _ _ _ [some x, some y, some (.ref l), some (.int (i : Nat)), j4, none] H3
    have hx3 := dp_ex p.2.1 hx
    refine s_forR (W.ways.zip W.heads) (H := H) (ea1 (ed_lenT (ep_i1 (ep_var rfl hx)).toD)) (by rw [List.length_map, List.length_zip]; omega) (by rw [List.length_zip]; omega) p.2.1 (fun k σ' H' => (∃ b, σ' = [some x, some y, some (.ref l), some (.int (i : Nat)), b, none]) ∧ LcP K H l ((pass r ((arrS W).take k)).map .str) H') (fun H4 a4 => ⟨⟨_, rfl⟩, p.ex a4⟩) (fun k σ' H' t => t.2.2.1) (fun k a' σ' H4 hk ⟨⟨_, e⟩, t⟩ => ?_) fun σ' H4 ⟨⟨b, e⟩, t⟩ => ?_
    · subst e
      show tIfS _ _ _ _ [some x, some y, some (.ref l), some (.int (i : Nat)), some (.int (k : Nat)), none] H4
      have hx4 := dp_ex t.2.1 hx
      have ha := arrS_at hk
      have hst : pass r ((arrS W).take (k + 1)) = grow (pass r ((arrS W).take k)) (tl a'.1 a'.2, a'.2) := by rw [take_succ_at ha, pass_snoc]
      have psz := pass_size o ((arrS W).take k) (fun a ha => List.mem_of_mem_take ha) r
      have hh : ∀ H5, Ex H4 H5 → EvD K (tOp (rIxT K) (tOp (rIxT K) (tVar 0) (tC (.int 1))) (tVar 4)) [some x, some y, some (.ref l), some (.int (i : Nat)), some (.int (k : Nat)), none] H5 (.str a'.2) := fun H5 a5 => (ep_ixT (ep_i1 (ep_var rfl (dp_ex a5 hx4))) (ev_var rfl) (map_at (zip_at2 hk).2)).toD
      refine s_when (et_and (et_inL (ed_tail o (ed_var rfl hx4) (ev_var rfl) hk) (ed_var rfl t.edp)) fun _ => et_niL (hh H4 (Ex.refl _)) (ed_var rfl t.edp)) (fun c H5 a5 => ?_) fun c H5 a5 => ⟨⟨_, rfl⟩, ?_⟩
      · rw [Bool.and_eq_true] at c
        have eg : grow (pass r ((arrS W).take k)) (tl a'.1 a'.2, a'.2) = pass r ((arrS W).take k) ++ [a'.2] := if_pos ⟨of_decide_eq_true c.1, of_decide_eq_true c.2⟩
        refine s_acc (t.ex a5) rfl (hh H5 a5) (tp_strs _) rfl (by rw [List.length_map]; omega) fun H6 P6 _ _ => ⟨⟨_, rfl⟩, ?_⟩
        rw [hst, eg, List.map_append]
        exact P6
      · have eg : grow (pass r ((arrS W).take k)) (tl a'.1 a'.2, a'.2) = pass r ((arrS W).take k) := if_neg fun z => by
          rw [decide_eq_true z.1, decide_eq_true z.2] at c
          cases c
        rw [hst, eg]
        exact t.ex a5
    · subst e
      have ew : (arrS W).length = (W.ways.zip W.heads).length := by unfold arrS; rw [List.length_map]
      rw [← ew, List.take_length] at t
      have psz := pass_size o (arrS W) (fun a ha => ha) r
      refine ⟨pass r (arrS W), _, _, rfl, t, g.pass o _ fun a ha => ha, ?_, by omega⟩
      rcases cl with cl | cl
      · rw [closed_pass cl]
        exact .inl cl
      · by_cases c : r.length < (pass r (arrS W)).length
        · have := pass_miss o (arrS W) (fun a ha => ha) r c
          exact .inr (by omega)
        · obtain ⟨c1, c2⟩ := pass_closed (arrS W) r (by omega)
          rw [c2]
          exact .inl c1
  · subst e
    have cl' : Closed r (arrS W) := cl.resolve_right (by omega)
    have r1 := en_sortedL (K := K) (ed_var (σ := [some x, some y, some (.ref l), j3, j4, none]) (i := 2) rfl p.edp) (ok_str (by omega))
    rw [srt_str] at r1
    exact s_retD (ed_tupOf r1) ((q (sortS r) fun z => ((sort_perm PyData.str r).mem_iff).trans (g.iff cl' z)).go p.2.1)
theorem s_retCall {sp : Sp} {E : XK} {tas : TA} {σ : L2.St} {D : Ends} {ds : List PyData} (h : EvDs K tas σ H ds) (hs : ∀ vs H1, Ex H H1 → DpAll K H1 vs ds → sp vs H1 D.rt E) : tRet (tCall sp [] E tas) D σ H := by
  show tas σ H fun vs H1 => sp (vs ++ []) H1 D.rt E
  exact h H (Ex.refl H) _ fun vs H1 a hv => by
    rw [List.append_nil]
    exact hs vs H1 a hv
theorem lenLFlooded (h : spLFlooded K vs H Q E) : vs.length = 2 := by
  obtain ⟨_, _, hd, _⟩ := h
  exact dp_len hd
theorem readLFlooded (h : spLFlooded K vs H Q E) : tLFlooded K { nx := fun _ H' => Q .non H', rt := Q } (start nLFlooded vs) H := by
  obtain ⟨p, lit, hd, o, lo, q⟩ := h
  obtain ⟨x, y, rfl, hx, hy⟩ := dp2 hd
  have ow := o.w
  have oc := occ_len ow
  have ll := lit_le lo o
  have pl := ow.pl
  have cl := ow.cl
  show tLFlooded K _ [some x, some y, none, none, none] H
  refine q_asgD (en_call (es := p.w.crowd.map .int) (eds1 (ep_i0 (ep_var rfl hx)).toD) fun vs H1 a1 hv Q' E' r => ⟨p.w, hv, by omega, r⟩).toD fun v H1 a1 hv => ?_
  refine q_asgD (ep_i0 (ep_i0 (ep_i0 (ep_var rfl (dp_ex a1 hx))))).toD fun u H2 a2 hu => ?_
  show tRet _ _ [some x, some y, some v, some u, none] H2
  have hx2 := dp_ex (a1.trans a2) hx
  have hy2 := dp_ex (a1.trans a2) hy
  have hv2 := dp_ex a2 hv
  have n1 : EvN K _ [some x, some y, some v, some u, none] H2 _ := en_bat (ta := tOp (rIxT K) (tVar 0) (tC (.int 1))) o lo (iv_lst (ep_var (i := 1) rfl hy2)).toD (j := 4) (vs := [4]) (by decide) (fun k H3 a3 => (ep_i1 (ep_var rfl (dp_ex a3 hx2))).toD) (by show (4 : Nat) < 5; decide)
  have n2 : EvN K (tLc (iRng1 (tCons (tCB (rLenS K) (tCons (tVar 3) tNil)) tNil)) (gName 4) (tTest (tOp rGtI (tOp (rIxL K) (tVar 2) (tVar 4)) (tC (.int 0)))) (tOp (rIxT K) (tVar 3) (tVar 4)) [4]) [some x, some y, some v, some u, none] H2 (((occ p.w).map (·.1)).map .str) := by
    rw [List.map_map]
    refine en_lcR1 (p.w.places.zip p.w.crowd) (fun q => decide (0 < q.2)) (fun q => .str q.1) (ea1 (ed_lenT (ed_var rfl hu))) (by rw [List.length_map, List.length_zip]; omega) (by rw [List.length_zip]; omega) (by decide) (fun _ => rfl) fun i a H3 hi a3 => ⟨?_, fun _ => ?_⟩
    · exact et_gt (ei (ed_ixL (ed_var rfl (dp_ex a3 hv2)) (ev_var rfl) (map_at (zip_at2 hi).2))) ev_c
    · exact ed_ixT (ed_var rfl (dp_ex a3 hu)) (ev_var rfl) (map_at (zip_at2 hi).1)
  have n3 := en_cat n1 n2 (by rw [List.length_map, List.length_map, List.length_map, List.length_map]; omega)
  rw [← List.map_append] at n3
  have key : ∀ x, (x ∈ p.w.places ∧ x ∈ lit.map (bat p) ++ (occ p.w).map (·.1)) ↔ srcs p lit x := fun z => by
    rw [srcs_iff lo]
    exact ⟨fun h => h.2, fun h => ⟨(grw0 o lo).pl z h, h⟩⟩
  refine s_retCall (eds2 (ep_i0 (ep_var rfl hx2)).toD n3.toD) fun vs H3 a3 hv => ⟨p.w, _, hv, ow, ?_, fun r hr => (q r fun z => (hr z).trans (rch_congr key z)).go ((a1.trans a2).trans a3)⟩
  rw [List.length_append, List.length_map, List.length_map]
  omega
end
end Tb
set_option Elab.async false
set_option linter.all false
set_option maxRecDepth 100000
set_option maxHeartbeats 4000000
namespace Tb
open PySem PySem.Spec PyProof.Rows L2 Evl
/-! Pointings: the program's lists and the law's numbers give the same rows. -/
theorem mem_ptsG (free : List Nm) (L : List (Wy × Nm)) (hs : List Nm) : hs ∈ ptsG free L ↔ hs.length = L.length ∧ ∀ (i : Nat) (q : Wy × Nm), L[i]? = some q → ∃ e, e ∈ ends free q ∧ hs[i]? = some e := by
  have key : ∀ M : List (Wy × Nm), ∀ hs : List Nm, hs ∈ ptsG free M.reverse ↔ hs.length = M.reverse.length ∧ ∀ (i : Nat) (q : Wy × Nm), M.reverse[i]? = some q → ∃ e, e ∈ ends free q ∧ hs[i]? = some e := fun M => by
    induction M with
    | nil =>
      intro hs
      refine ⟨fun h => ?_, fun h => ?_⟩
      · rw [List.mem_singleton.mp h]
        exact ⟨rfl, fun i q z => by simp at z⟩
      · have : hs = [] := List.length_eq_zero_iff.mp h.1
        rw [this]
        exact List.mem_singleton.mpr rfl
    | cons a M ih =>
      intro hs
      rw [List.reverse_cons, ptsG_snoc]
      unfold ptsF
      rw [List.mem_flatMap]
      refine ⟨fun ⟨r, hr, h⟩ => ?_, fun ⟨h1, h2⟩ => ?_⟩
      · obtain ⟨e, he, rfl⟩ := List.mem_map.mp h
        obtain ⟨h3, h4⟩ := (ih r).mp hr
        refine ⟨by rw [List.length_append, List.length_append, h3]; rfl, fun i q hq => ?_⟩
        by_cases c : i < M.reverse.length
        · rw [List.getElem?_append_left c] at hq
          obtain ⟨e', h5, h6⟩ := h4 i q hq
          exact ⟨e', h5, by rw [List.getElem?_append_left (by rw [h3]; exact c)]; exact h6⟩
        · rw [List.getElem?_append_right (by omega)] at hq
          have c2 : i - M.reverse.length = 0 := by
            have := (List.getElem?_eq_some_iff.mp hq).1
            rw [List.length_singleton] at this
            omega
          rw [c2] at hq
          have hq' : a = q := Option.some.inj hq
          subst hq'
          exact ⟨e, he, by rw [List.getElem?_append_right (by rw [h3]; omega), h3, c2]; rfl⟩
      · have hl : hs.length = M.reverse.length + 1 := by rw [h1, List.length_append]; rfl
        have e1 : hs = hs.take M.reverse.length ++ hs.drop M.reverse.length := (List.take_append_drop _ _).symm
        obtain ⟨e, he, h3⟩ := h2 M.reverse.length a (by rw [List.getElem?_append_right (Nat.le_refl _), Nat.sub_self]; rfl)
        have e2 : hs.drop M.reverse.length = [e] := by
          refine List.ext_getElem? fun i => ?_
          rw [List.getElem?_drop]
          cases i with
          | zero => rw [Nat.add_zero, h3]; rfl
          | succ i => rw [List.getElem?_eq_none (by omega)]; rfl
        refine ⟨hs.take M.reverse.length, (ih _).mpr ⟨by rw [List.length_take]; omega, fun i q hq => ?_⟩, List.mem_map.mpr ⟨e, he, ?_⟩⟩
        · have c := (List.getElem?_eq_some_iff.mp hq).1
          obtain ⟨e', h5, h6⟩ := h2 i q (by rw [List.getElem?_append_left c]; exact hq)
          exact ⟨e', h5, by rw [List.getElem?_take, if_pos c]; exact h6⟩
        · rw [← e2]
          exact e1.symm
  have := key L.reverse hs
  rw [List.reverse_reverse] at this
  exact this
/-- one turn: the k-th head by the last bit -/
def stepP (ways : List Wy) (z : List Nm × Nat) (k : Nat) : List Nm × Nat := (z.1.set k (if z.2 % 2 = 0 then (ways.getD k ("", "", "")).2.1 else (ways.getD k ("", "", "")).2.2), z.2 / 2)
def setP (ways : List Wy) (ks : List Nat) (z : List Nm × Nat) : List Nm × Nat := ks.foldl (stepP ways) z
theorem setP_len (ways : List Wy) : ∀ (ks : List Nat) (z : List Nm × Nat), (setP ways ks z).1.length = z.1.length
  | [], _ => rfl
  | k :: ks, z => by
    show (setP ways ks (stepP ways z k)).1.length = _
    rw [setP_len ways ks]
    exact List.length_set
theorem setP_snd (ways : List Wy) : ∀ (ks : List Nat) (z : List Nm × Nat), (setP ways ks z).2 = z.2 / 2 ^ ks.length
  | [], z => by simp [setP]
  | k :: ks, z => by
    show (setP ways ks (stepP ways z k)).2 = _
    rw [setP_snd ways ks]
    show z.2 / 2 / 2 ^ ks.length = _
    rw [Nat.div_div_eq_div_mul, List.length_cons, Nat.pow_succ, Nat.mul_comm]
theorem setP_out (ways : List Wy) : ∀ (ks : List Nat) (z : List Nm × Nat) (i : Nat), i ∉ ks → (setP ways ks z).1[i]? = z.1[i]?
  | [], _, _, _ => rfl
  | k :: ks, z, i, h => by
    show (setP ways ks (stepP ways z k)).1[i]? = _
    rw [setP_out ways ks _ i fun m => h (List.mem_cons_of_mem _ m)]
    exact List.getElem?_set_ne fun e => h (by rw [e]; exact List.mem_cons_self)
theorem setP_in (ways : List Wy) : ∀ (ks : List Nat) (z : List Nm × Nat) (i : Nat), i ∈ ks → i < z.1.length → (setP ways ks z).1[i]? = some (ways.getD i ("", "", "")).2.1 ∨ (setP ways ks z).1[i]? = some (ways.getD i ("", "", "")).2.2
  | k :: ks, z, i, h, hi => by
    show (setP ways ks (stepP ways z k)).1[i]? = _ ∨ (setP ways ks (stepP ways z k)).1[i]? = _
    by_cases c : i ∈ ks
    · exact setP_in ways ks _ i c (by unfold stepP; rw [List.length_set]; exact hi)
    · have e : i = k := (List.mem_cons.mp h).resolve_right c
      subst e
      rw [setP_out ways ks _ i c]
      unfold stepP
      rw [List.getElem?_set_self hi]
      by_cases b : z.2 % 2 = 0
      · rw [if_pos b]; exact .inl rfl
      · rw [if_neg b]; exact .inr rfl
theorem setP_all (ways : List Wy) : ∀ (ks : List Nat) (hs tg : List Nm), ks.Nodup → (∀ k ∈ ks, k < hs.length) → tg.length = hs.length → (∀ i, i ∉ ks → tg[i]? = hs[i]?) → (∀ i ∈ ks, tg[i]? = some (ways.getD i ("", "", "")).2.1 ∨ tg[i]? = some (ways.getD i ("", "", "")).2.2) → ∃ n, n < 2 ^ ks.length ∧ (setP ways ks (hs, n)).1 = tg
  | [], hs, tg, _, _, hl, h1, _ => ⟨0, by simp, (List.ext_getElem? fun i => by exact (h1 i (fun z => nomatch z)).symm)⟩
  | k :: ks, hs, tg, nd, hk, hl, h1, h2 => by
    obtain ⟨n1, n2⟩ := List.nodup_cons.mp nd
    have hkl := hk k List.mem_cons_self
    have go : ∀ (b : Nat) (e : Nm), b < 2 → tg[k]? = some e → (if b = 0 then (ways.getD k ("", "", "")).2.1 else (ways.getD k ("", "", "")).2.2) = e → ∃ n, n < 2 ^ (k :: ks).length ∧ (setP ways (k :: ks) (hs, n)).1 = tg := fun b e hb he hbe => by
      obtain ⟨n', hn', hs'⟩ := setP_all ways ks (hs.set k e) tg n2 (fun j hj => by rw [List.length_set]; exact hk j (List.mem_cons_of_mem _ hj)) (by rw [List.length_set]; exact hl) (fun i hi => by
        by_cases c : i = k
        · subst c
          rw [List.getElem?_set_self hkl, he]
        · rw [List.getElem?_set_ne fun z => c z.symm]
          exact h1 i fun z => (List.mem_cons.mp z).elim c hi) (fun i hi => h2 i (List.mem_cons_of_mem _ hi))
      refine ⟨b + 2 * n', by rw [List.length_cons, Nat.pow_succ]; omega, ?_⟩
      show (setP ways ks (stepP ways (hs, b + 2 * n') k)).1 = tg
      have e1 : (b + 2 * n') % 2 = b := by omega
      have e2 : (b + 2 * n') / 2 = n' := by omega
      unfold stepP
      show (setP ways ks (hs.set k (if (b + 2 * n') % 2 = 0 then _ else _), (b + 2 * n') / 2)).1 = tg
      rw [e1, e2, hbe]
      exact hs'
    rcases h2 k List.mem_cons_self with h | h
    · exact go 0 _ (by omega) h rfl
    · exact go 1 _ (by omega) h rfl
open Classical in
/-- the places in the list of the loose ways -/
noncomputable def looseI (W : Wd) (R : Nm → Prop) : List Nat := ((W.ways.zip W.heads).zipIdx.filter fun q => decide (R q.1.1.2.1) && decide (R q.1.1.2.2)).map (·.2)
theorem zipIdx_nd {α : Type} (L : List α) : (L.zipIdx.map (·.2)).Nodup := by
  have := zip_rng L
  unfold rngD at this
  have e : L.zipIdx.map (·.2) = List.range L.length := by
    have inj : ∀ l m : List Nat, l.map (fun i : Nat => PyData.int (i : Nat)) = m.map (fun i : Nat => PyData.int (i : Nat)) → l = m := fun l => by
      induction l with
      | nil => intro m h; cases m with
        | nil => rfl
        | cons _ _ => cases h
      | cons a l ih => intro m h; cases m with
        | nil => cases h
        | cons b m =>
          rw [List.map_cons, List.map_cons] at h
          obtain ⟨h1, h2⟩ := List.cons.inj h
          rw [ih m h2]
          have := PyData.int.inj h1
          rw [show a = b by omega]
    refine inj _ _ ?_
    rw [List.map_map]
    exact this
  rw [e]
  exact List.nodup_range
theorem looseI_nd (W : Wd) (R : Nm → Prop) : (looseI W R).Nodup := (zipIdx_nd _).sublist ((List.filter_sublist ..).map _)
open Classical in
theorem looseI_mem {W : Wd} {R : Nm → Prop} {i : Nat} : i ∈ looseI W R ↔ ∃ q, (W.ways.zip W.heads)[i]? = some q ∧ R q.1.2.1 ∧ R q.1.2.2 := by
  unfold looseI
  rw [List.mem_map]
  refine ⟨fun ⟨z, hz, e⟩ => ?_, fun ⟨q, hq, h1, h2⟩ => ⟨(q, i), List.mem_filter.mpr ⟨List.mem_zipIdx_iff_getElem?.mpr hq, ?_⟩, rfl⟩⟩
  · obtain ⟨h1, h2⟩ := List.mem_filter.mp hz
    subst e
    rw [Bool.and_eq_true, decide_eq_true_eq, decide_eq_true_eq] at h2
    exact ⟨z.1, zip_at h1, h2.1, h2.2⟩
  · rw [Bool.and_eq_true, decide_eq_true_eq, decide_eq_true_eq]
    exact ⟨h1, h2⟩
theorem ways_inj {W : Wd} (o : OkW W) {v w : Wy} (hv : v ∈ W.ways) (hw : w ∈ W.ways) (e : v.1 = w.1) : v = w := by
  have key : ∀ l : List Wy, (l.Pairwise fun a b => ltS a.1 b.1) → v ∈ l → w ∈ l → v = w := fun l => by
    induction l with
    | nil => intro _ h; cases h
    | cons a l ih =>
      intro hp h1 h2
      obtain ⟨p1, p2⟩ := List.pairwise_cons.mp hp
      rcases List.mem_cons.mp h1 with e1 | k1 <;> rcases List.mem_cons.mp h2 with e2 | k2
      · rw [e1, e2]
      · rw [← e1] at p1; exact absurd e (ltS_ne (p1 w k2))
      · rw [← e2] at p1; exact absurd e.symm (ltS_ne (p1 v k1))
      · exact ih p2 k1 k2
  exact key _ o.nn hv hw
open Classical in
theorem looseN_mem {W : Wd} (o : OkW W) {R : Nm → Prop} {w : Wy} (hw : w ∈ W.ways) : w.1 ∈ looseN W R ↔ R w.2.1 ∧ R w.2.2 := by
  unfold looseN
  rw [List.mem_map]
  refine ⟨fun ⟨v, hv, e⟩ => ?_, fun h => ⟨w, List.mem_filter.mpr ⟨hw, by rw [Bool.and_eq_true, decide_eq_true_eq, decide_eq_true_eq]; exact h⟩, rfl⟩⟩
  obtain ⟨h1, h2⟩ := List.mem_filter.mp hv
  rw [Bool.and_eq_true, decide_eq_true_eq, decide_eq_true_eq] at h2
  rw [← ways_inj o h1 hw e]
  exact h2
theorem way_getD {W : Wd} {i : Nat} {q : Wy × Nm} (h : (W.ways.zip W.heads)[i]? = some q) : W.ways.getD i ("", "", "") = q.1 := by
  rw [List.getD_eq_getElem?_getD, (zip_at2 h).1]
  rfl
theorem mem_pts {W : Wd} (o : OkW W) (R : Nm → Prop) (hs : List Nm) : hs ∈ pts W.ways W.heads (looseN W R) ↔ ∃ n, n < 2 ^ (looseI W R).length ∧ (setP W.ways (looseI W R) (W.heads, n)).1 = hs := by
  have hl := o.hl
  have zl : (W.ways.zip W.heads).length = W.heads.length := by rw [List.length_zip]; omega
  show hs ∈ ptsG _ _ ↔ _
  rw [mem_ptsG]
  refine ⟨fun ⟨h1, h2⟩ => ?_, fun ⟨n, _, e⟩ => ?_⟩
  · refine setP_all W.ways (looseI W R) W.heads hs (looseI_nd W R) (fun k hk => ?_) (by omega) (fun i hi => ?_) fun i hi => ?_
    · obtain ⟨q, hq, _⟩ := looseI_mem.mp hk
      exact (List.getElem?_eq_some_iff.mp (zip_at2 hq).2).1
    · by_cases c : i < (W.ways.zip W.heads).length
      · have hq := List.getElem?_eq_getElem c
        obtain ⟨e, h3, h4⟩ := h2 i _ hq
        have hw : ((W.ways.zip W.heads)[i]).1 ∈ W.ways := (List.of_mem_zip (List.mem_of_getElem? hq)).1
        have hne : ¬ ((W.ways.zip W.heads)[i]).1.1 ∈ looseN W R := fun z => hi (looseI_mem.mpr ⟨_, hq, (looseN_mem o hw).mp z⟩)
        unfold ends at h3
        rw [if_neg hne] at h3
        rw [h4, List.mem_singleton.mp h3]
        exact (zip_at2 hq).2.symm
      · rw [List.getElem?_eq_none (by omega), List.getElem?_eq_none (by omega)]
    · obtain ⟨q, hq, h5⟩ := looseI_mem.mp hi
      obtain ⟨e, h3, h4⟩ := h2 i _ hq
      have hw : q.1 ∈ W.ways := (List.of_mem_zip (List.mem_of_getElem? hq)).1
      unfold ends at h3
      rw [if_pos ((looseN_mem o hw).mpr h5)] at h3
      rw [h4, way_getD hq]
      rcases List.mem_cons.mp h3 with z | z
      · rw [z]; exact .inl rfl
      · rw [List.mem_singleton.mp z]; exact .inr rfl
  · subst e
    refine ⟨by rw [setP_len]; exact zl.symm, fun i q hq => ?_⟩
    have hw : q.1 ∈ W.ways := (List.of_mem_zip (List.mem_of_getElem? hq)).1
    have hil : i < W.heads.length := (List.getElem?_eq_some_iff.mp (zip_at2 hq).2).1
    by_cases c : i ∈ looseI W R
    · obtain ⟨q', hq', h5⟩ := looseI_mem.mp c
      have eq : q = q' := Option.some.inj (hq.symm.trans hq')
      subst eq
      unfold ends
      rw [if_pos ((looseN_mem o hw).mpr h5)]
      have := setP_in W.ways (looseI W R) (W.heads, n) i c hil
      rw [way_getD hq] at this
      rcases this with z | z
      · exact ⟨_, List.mem_cons_self, z⟩
      · exact ⟨_, List.mem_cons_of_mem _ List.mem_cons_self, z⟩
    · refine ⟨q.2, ?_, by rw [setP_out _ _ _ _ c]; exact (zip_at2 hq).2⟩
      unfold ends
      rw [if_neg fun z => c (looseI_mem.mpr ⟨q, hq, (looseN_mem o hw).mp z⟩)]
      exact List.mem_singleton.mpr rfl
/-- a world whose heads are others of the same ways -/
theorem hd_of_pts {W : Wd} (o : OkW W) {free : List Nm} {hs : List Nm} (h : hs ∈ pts W.ways W.heads free) : HdOk { W with heads := hs } := by
  have hl := o.hl
  obtain ⟨h1, h2⟩ := (mem_ptsG free (W.ways.zip W.heads) hs).mp h
  rw [List.length_zip] at h1
  refine ⟨by show hs.length = W.ways.length; omega, o.hdok.ne, fun q hq => ?_, o.wl⟩
  obtain ⟨i, hi⟩ := List.getElem?_of_mem hq
  have z := zip_at2 (l := W.ways) (m := hs) hi
  have hil : i < W.heads.length := by
    have := (List.getElem?_eq_some_iff.mp z.1).1
    omega
  have hq2 : (W.ways.zip W.heads)[i]? = some (q.1, W.heads[i]) := by
    rw [List.getElem?_zip_eq_some]
    exact ⟨z.1, List.getElem?_eq_getElem hil⟩
  obtain ⟨e, h3, h4⟩ := h2 i _ hq2
  have ee : q.2 = e := Option.some.inj (z.2.symm.trans h4)
  unfold ends at h3
  rw [ee]
  split at h3
  · rcases List.mem_cons.mp h3 with z | z
    · exact .inl z
    · exact .inr (List.mem_singleton.mp z)
  · rw [List.mem_singleton.mp h3]
    exact o.hd _ (List.mem_of_getElem? hq2)
/-! ### rows without repeats -/
theorem dd_mem {α : Type} [DecidableEq α] {x : α} : ∀ {l : List α}, x ∈ dd l ↔ x ∈ l
  | [] => Iff.rfl
  | a :: r => by
    have ih := dd_mem (x := x) (l := r)
    unfold dd
    by_cases c : a ∈ dd r
    · rw [if_pos c, ih, List.mem_cons]
      refine ⟨.inr, fun h => h.elim (fun e => ?_) id⟩
      rw [e]
      exact (dd_mem (l := r)).mp c
    · rw [if_neg c, List.mem_cons, List.mem_cons, ih]
theorem dd_nd {α : Type} [DecidableEq α] : ∀ l : List α, (dd l).Nodup
  | [] => List.nodup_nil
  | a :: r => by
    unfold dd
    by_cases c : a ∈ dd r
    · rw [if_pos c]; exact dd_nd r
    · rw [if_neg c]; exact List.nodup_cons.mpr ⟨c, dd_nd r⟩
theorem shifts_is {p : Pc} {lit : List Int} {l : List (List Int)} (nd : l.Nodup) (h : ∀ r, r ∈ l ↔ r ∈ rawRows p lit) : sortR l = shifts p lit :=
  sort_eq anti_row nd (dd_nd _) fun r => (h r).trans dd_mem.symm
theorem outs_le (ways : List Wy) (hs : List Nm) (x : Nm) : outs ways hs x ≤ ways.length := by
  unfold outs tails
  refine Nat.le_trans List.count_le_length ?_
  rw [List.length_map, List.length_zip]
  omega
theorem pts_len {W : Wd} (o : OkW W) (free : List Nm) : (pts W.ways W.heads free).length ≤ 2 ^ W.ways.length := by
  have := ptsG_len free (W.ways.zip W.heads)
  have hl := o.hl
  rw [List.length_zip] at this
  refine Nat.le_trans this (Nat.pow_le_pow_right (by omega) (by omega))
theorem few {p : Pc} (o : Ok p) (free : List Nm) (good : List Nm → Bool) {L : List (List Int)} (nd : L.Nodup) (h : ∀ r ∈ L, r ∈ ((pts p.w.ways p.w.heads free).filter good).map (rowOf p)) : L.length < 63 := by
  rcases o.sz with s | s
  · have h1 := nd_sub nd h
    rw [List.length_map] at h1
    have h2 := List.length_filter_le good (pts p.w.ways p.w.heads free)
    have h3 := pts_len o.w free
    have h4 : 2 ^ p.w.ways.length ≤ 2 ^ 5 := Nat.pow_le_pow_right (by omega) s
    have h5 : 2 ^ 5 = 32 := by decide
    omega
  · have hb : ∃ b, p.border = [b] := by
      cases hb : p.border with
      | nil => rw [hb] at s; cases s
      | cons b r =>
        rw [hb] at s
        cases r with
        | nil => exact ⟨b, rfl⟩
        | cons _ _ => simp at s
    obtain ⟨b, hb⟩ := hb
    have wl := o.w.wl
    have sub := nd_sub nd (m := (List.range 7).map fun i : Nat => [((i : Nat) : Int) - (outs p.w.ways p.w.heads b : Int)]) fun r hr => by
      obtain ⟨hs, _, rfl⟩ := List.mem_map.mp (h r hr)
      unfold rowOf
      rw [hb]
      have := outs_le p.w.ways hs b
      exact List.mem_map.mpr ⟨outs p.w.ways hs b, List.mem_range.mpr (by omega), rfl⟩
    rw [List.length_map, List.length_range] at sub
    omega
end Tb
set_option Elab.async false
set_option linter.all false
set_option maxRecDepth 100000
set_option maxHeartbeats 4000000
namespace Tb
open PySem PySem.Spec PyProof.Rows L2 Evl
section
variable {K : PySem.W.Frag} {vs : List V} {H : Hp} {Q : VK} {E : XK}
theorem q_asgCall {sp : Sp} {E : XK} {tas : TA} {σ : L2.St} {D : Ends} {tz : TS} {ds : List PyData} {i : Nat} (h : EvDs K tas σ H ds) (hs : ∀ vs H1, Ex H H1 → DpAll K H1 vs ds → sp vs H1 (fun v H2 => tz D (σ.set i (some v)) H2) E) : tSeq (tAsg (tCall sp [] E tas) (gName i)) tz D σ H := by
  show tas σ H fun vs H1 => sp (vs ++ []) H1 (fun v H2 => tz D (σ.set i (some v)) H2) E
  exact h H (Ex.refl H) _ fun vs H1 a hv => by
    rw [List.append_nil]
    exact hs vs H1 a hv
theorem rows_ks : ∀ {vs : List V} {rs : List (List Int)}, DpAll K H vs (rs.map rowD) → ∃ ks : List (Addr × List Int), vs = ks.map (fun p => V.ref p.1) ∧ ks.map (·.2) = rs ∧ ∀ p ∈ ks, SqT K H p.1 (p.2.map V.int)
  | _, [], h => by cases h; exact ⟨[], rfl, rfl, fun _ z => nomatch z⟩
  | _, r :: rs, h => by
    cases h with
    | cons h1 h2 =>
      obtain ⟨a, xs, rfl, hs, hd⟩ := dp_tup h1
      obtain ⟨ks, rfl, rfl, hk⟩ := rows_ks h2
      rw [dps_ints hd] at hs
      refine ⟨(a, r) :: ks, rfl, rfl, fun p hp => ?_⟩
      rcases List.mem_cons.mp hp with rfl | hp
      · exact hs
      · exact hk p hp
/-- tuple(sorted({row for row in rows})) -/
theorem ed_sortset {P : Program} {w : World} {σ : L2.St} {ta : TE} {rs : List (List Int)} (h : EvD K ta σ H (.list (rs.map rowD))) (few : ∀ L : List (List Int), L.Nodup → (∀ k ∈ L, k ∈ rs) → L.length < 63) (ne : ∀ r ∈ rs, r ≠ []) {out : List (List Int)} (ho : ∀ l : List (List Int), l.Nodup → (∀ r, r ∈ l ↔ r ∈ rs) → sortR l = out) :
    EvD K (tCB (rTupOf K) (tCons (tCB (rSortedST K P w) (tCons (tScT K P w ta) tNil)) tNil)) σ H (rowsD out) := fun H1 a Q q =>
  h H1 a _ fun v H2 b hv => by
    obtain ⟨l, xs, rfl, hs, hd⟩ := dp_lst hv
    obtain ⟨ks, rfl, rfl, hk⟩ := rows_ks hd
    refine ⟨l, ks, rfl, hs, hk, few, fun c L hc hL1 hL2 => ?_⟩
    have ex := Ex.new (o := SetTO P w c L) hc
    refine ⟨c, L, rfl, upd_same, fun p hp => ex_t ex (hk p (hL1 p hp)), fun p hp => ne _ (List.mem_map.mpr ⟨p, hL1 p hp, rfl⟩), fun c2 ys L' hc2 nd pm hy => ?_⟩
    have ex2 := Ex.new (o := HO.lst ys) hc2
    refine ⟨c2, ys, rfl, .inl ⟨sq_of upd_same, fun c3 hc3 => ?_⟩⟩
    refine q _ _ (((b.trans ex).trans ex2).trans (Ex.new hc3)) (.tup (st_of upd_same) (dps_ex (Ex.new hc3) (dps_ex ex2 ?_)))
    have nd' : (L'.map (·.2)).Nodup := (List.Perm.nodup_iff (pm.map _)).mpr nd
    have e : srtD (L'.map fun q => rowD q.2) = out.map rowD := by
      rw [show (L'.map fun q => rowD q.2) = (L'.map (·.2)).map rowD by rw [List.map_map]; rfl, srt_row]
      refine congrArg (List.map rowD) (ho _ nd' fun r => ⟨fun hr => ?_, fun hr => ?_⟩)
      · obtain ⟨p, hp, rfl⟩ := List.mem_map.mp hr
        exact List.mem_map.mpr ⟨p, hL1 p (pm.mem_iff.mp hp), rfl⟩
      · obtain ⟨p, hp, rfl⟩ := List.mem_map.mp hr
        obtain ⟨p', hp', e⟩ := List.mem_map.mp (hL2 p hp)
        exact List.mem_map.mpr ⟨p', pm.mem_iff.mpr hp', e⟩
    rw [← e]
    exact hy
theorem valV_outs {places : List Nm} {ways : List Wy} {heads : List Nm} (hn : places.Nodup) {x : Nm} (hx : x ∈ places) : valV (outsK places ways heads) (.inr x) = some (.int (outs ways heads x : Nat)) := kv_in (key := fun x => x) (val := fun x => V.int (outs ways heads x : Nat)) (by rw [List.map_id']; exact hn) hx
theorem good_filter {p : Pc} (hs : List Nm) : ((((p.w.places.zip (dues p.w)).filter fun q => decide (q.1 ∉ p.border)).map fun q => decide (q.2 ≤ (outs p.w.ways hs q.1 : Int))).all id) = goodH p hs := by
  unfold goodH
  rw [List.all_map, List.all_filter]
  refine congrArg (fun f => List.all _ f) (funext fun q => ?_)
  show (!decide (q.1 ∉ p.border) || decide _) = _
  by_cases c : q.1 ∈ p.border <;> simp [c]
theorem dues_len {W : Wd} (o : OkW W) : (dues W).length = W.places.length := by
  unfold dues
  rw [List.length_map, List.length_zip, o.cl, Nat.min_self]
open Classical in
theorem loose_filter (W : Wd) (r : List Nm) (R : Nm → Prop) (h : ∀ x, x ∈ r ↔ R x) : ((W.ways.filter fun w => decide (w.2.1 ∈ r) && decide (w.2.2 ∈ r)).map (·.1)) = looseN W R := by
  unfold looseN
  refine congrArg (List.map _) (List.filter_congr fun w _ => ?_)
  rw [decide_eq_decide.mpr (h w.2.1), decide_eq_decide.mpr (h w.2.2)]
theorem lenShifts (h : spShifts K vs H Q E) : vs.length = 2 := by
  obtain ⟨_, _, hd, _⟩ := h
  exact dp_len hd
theorem readShifts {P : Program} {w : World} (h : spShifts K vs H Q E) : tShifts P w K { nx := fun _ H' => Q .non H', rt := Q } (start nShifts vs) H := by
  obtain ⟨p, lit, hd, o, lo, q⟩ := h
  obtain ⟨x, y, rfl, hx, hy⟩ := dp2 hd
  have ow := o.w
  have pl := ow.pl
  have wl := ow.wl
  have dl := dues_len ow
  have hlo : ∀ w ∈ p.w.ways, w.2.1 ∈ p.w.places ∧ w.2.2 ∈ p.w.places := fun w hw => ⟨(ow.lo w hw).1, (ow.lo w hw).2.1⟩
  have bl := o.bl
  show tShifts P w K _ [some x, some y, none, none, none, none, none, none, none, none, none, none, none, none, none, none, none, none] H
  refine q_dropD (K := K) (d := .none) (ed_call (eds2 (ed_var rfl hx) (ed_var rfl hy)) fun vs H2 a2 hv Q' E' r => ⟨p, lit, hv, lo, r⟩) fun H1 a1 => ?_
  refine q_unpD (ep_var rfl (dp_ex a1 hx)).toD rfl fun xs H2 a2 h2 => ?_
  obtain ⟨vw, vb, rfl, hw, hb⟩ := dp2 h2
  refine ⟨_, _, rfl, _, _, rfl, rfl, ?_⟩
  show tSeq _ _ _ [some x, some y, some vw, some vb, none, none, none, none, none, none, none, none, none, none, none, none, none, none] H2
  refine q_asgD (ep_i0 (ep_var rfl hw)).toD fun vweb H3 a3 hweb => ?_
  have hx3 := dp_ex ((a1.trans a2).trans a3) hx
  have hy3 := dp_ex ((a1.trans a2).trans a3) hy
  show tSeq _ _ _ [some x, some y, some vw, some vb, some vweb, none, none, none, none, none, none, none, none, none, none, none, none, none] H3
  refine q_asgCall (eds2 (ed_var rfl hx3) (ed_var rfl hy3)) fun vs H4 a4 hv => ⟨p, lit, hv, o, lo, fun r hr pf ws H5 a5 hn5 hp5 hd5 => ?_⟩
  have b5 := a4.trans a5
  have hw5 := dp_ex (a3.trans b5) hw
  have hb5 := dp_ex (a3.trans b5) hb
  have hweb5 := dp_ex b5 hweb
  have hf5 : Dp K H5 (.ref pf) (.list (r.map .str)) := .lst (sq_of hp5) hd5
  show tSeq _ _ _ [some x, some y, some vw, some vb, some vweb, some (.ref pf), none, none, none, none, none, none, none, none, none, none, none, none] H5
  have nl : EvN K (tLc (iTup K (tOp (rIxT K) (tVar 4) (tC (.int 1)))) (gTup K 3 (gCons (gName 12) (gCons (gName 13) (gCons (gName 14) gNil)))) (tAnd (tTest (tOp (rIn K false) (tVar 13) (tVar 5))) (tTest (tOp (rIn K false) (tVar 14) (tVar 5)))) (tVar 12) [12, 13, 14]) [some x, some y, some vw, some vb, some vweb, some (.ref pf), none, none, none, none, none, none, none, none, none, none, none, none] H5 ((looseN p.w (Rch p.w (srcs p lit))).map .str) := by
    rw [← loose_filter p.w r _ hr, List.map_map]
    refine en_lc p.w.ways wayD (fun w => decide (w.2.1 ∈ r) && decide (w.2.2 ∈ r)) (fun w => .str w.1) (iv_tup (ep_i1 (ep_var rfl hweb5))).toD (by omega) (fun _ _ _ => rfl) fun w' x' H6 hw' a6 hx' Q' k => ?_
    refine g_way hx' ?_
    refine k _ wi3 ?_ fun _ => ed_vs rfl
    exact et_and (et_inL (ed_vs rfl) (ed_var rfl (dp_ex a6 hf5))) fun _ => et_inL (ed_vs rfl) (ed_var rfl (dp_ex a6 hf5))
  refine q_asgD nl.toD fun vl H6 a6 hl6 => ?_
  have hw6 := dp_ex a6 hw5
  have hb6 := dp_ex a6 hb5
  have hweb6 := dp_ex a6 hweb5
  show tSeq _ _ _ [some x, some y, some vw, some vb, some vweb, some (.ref pf), some vl, none, none, none, none, none, none, none, none, none, none, none] H6
  have izip : IvD K (RZ.iZipA K (tCons (tOp (rIxT K) (tVar 4) (tC (.int 0))) (tCons (tCall (spDues K) [] E0 (tCons (tVar 2) tNil)) tNil))) [some x, some y, some vw, some vb, some vweb, some (.ref pf), some vl, none, none, none, none, none, none, none, none, none, none, none] H6 ((p.w.places.zip (dues p.w)).map cntD) := by
    have := iv_zipTD (K := K) (ta := tOp (rIxT K) (tVar 4) (tC (.int 0))) (tb := tCall (spDues K) [] E0 (tCons (tVar 2) tNil)) (σ := [some x, some y, some vw, some vb, some vweb, some (.ref pf), some vl, none, none, none, none, none, none, none, none, none, none, none]) (ep_i0 (ep_var rfl hweb6)).toD (es := (dues p.w).map .int) (ed_call (eds1 (ed_var rfl hw6)) fun vs H7 a7 hv Q' E' r => ⟨p.w, hv, ow, r⟩)
    rw [pairsD_zip] at this
    exact this
  refine q_asgK (ek_dc (p.w.places.zip (dues p.w)) cntD (fun q => decide (q.1 ∉ p.border)) (·.1) (·.2) izip (by rw [List.length_zip]; omega) (by rw [List.map_fst_zip (by omega)]; exact ow.nd) fun q' x' H7 hq a7 hx' Q' k => ?_) fun pk H7 a7 hn7 hp7 => ?_
  · refine g_cnt hx' ?_
    refine k _ wi2 (et_niT (ed_vs rfl) (ed_var rfl (dp_ex a7 hb6))) fun _ => ⟨ed_vs rfl, ed_vi rfl⟩
  have hw7 := dp_ex a7 hw6
  have hb7 := dp_ex a7 hb6
  have hweb7 := dp_ex a7 hweb6
  have hl7 := dp_ex a7 hl6
  show tSeq _ _ _ [some x, some y, some vw, some vb, some vweb, some (.ref pf), some vl, some (.ref pk), none, none, none, none, none, none, none, none, none, none] H7
  refine q_asgK (ek_call (K := K) (kvs := outsK p.w.places p.w.ways p.w.heads) (eds2 (ed_var rfl hweb7) (ep_i1 (ep_var rfl hw7)).toD) fun vs H8 a8 hv Q' E' r => ⟨p.w.places, p.w.ways, p.w.heads, hv, ow.nd, ow.pl, hlo, r⟩) fun pB H8 a8 hn8 hp8 => ?_
  show tSeq _ _ _ [some x, some y, some vw, some vb, some vweb, some (.ref pf), some vl, some (.ref pk), some (.ref pB), none, none, none, none, none, none, none, none, none] H8
  refine q_newL (K := K) fun l H9 P9 => ?_
  show tSeq _ _ _ [some x, some y, some vw, some vb, some vweb, some (.ref pf), some vl, some (.ref pk), some (.ref pB), some (.ref l), none, none, none, none, none, none, none, none] H9
  have b8 := a7.trans a8
  have hw8 := dp_ex b8 hw6
  have hb8 := dp_ex b8 hb6
  have hweb8 := dp_ex b8 hweb6
  have hl8 := dp_ex b8 hl6
  have hp78 := a8 _ _ hp7
  generalize hfree : looseN p.w (Rch p.w (srcs p lit)) = free at hl8 hl7 hl6
  have plen := pts_len ow free
  have plen2 : (pts p.w.ways p.w.heads free).length ≤ 64 := Nat.le_trans plen (Nat.le_trans (Nat.pow_le_pow_right (by omega) wl) (by decide))
  refine q_forL (en_call (K := K) (es := (pts p.w.ways p.w.heads free).map nsD) (eds2 (ed_var rfl (dp_ex P9.2.1 hw8)) (ed_var rfl (dp_ex P9.2.1 hl8))) fun vs H10 a10 hv Q' E' r => ⟨p.w, free, hv, wl, r⟩)
    (fun pp ws i σ' H' => (∃ a b c, σ' = [some x, some y, some vw, some vb, some vweb, some (.ref pf), some vl, some (.ref pk), some (.ref pB), some (.ref l), a, b, none, none, none, c, none, none]) ∧ pp ≠ l ∧ H' pp = some (.lst ws) ∧ DpAll K H' ws ((pts p.w.ways p.w.heads free).map nsD) ∧ LcP K H8 l (((((pts p.w.ways p.w.heads free).take i).filter (goodH p)).map (rowOf p)).map rowD) H')
    (fun pp ws H10 a10 hn hp hv => ⟨⟨_, _, _, rfl⟩, (fun z => by obtain ⟨_, _, us, hu, _⟩ := P9; rw [z, hu] at hn; cases hn), hp, hv, P9.ex a10⟩)
    (fun pp ws i σ' H' t => ⟨t.2.2.1, t.2.2.2.1⟩)
    (fun pp ws i d x' σ' H10 hi ⟨⟨j10, j11, j15, e⟩, t1, t2, t3, t4⟩ hx' => ?_) fun pp ws σ' H10 ⟨⟨j10, j11, j15, e⟩, t1, t2, t3, t4⟩ => ?_
  · subst e
    rw [List.getElem?_map] at hi
    obtain ⟨hs, hhs, rfl⟩ := Option.map_eq_some_iff.mp hi
    show tSeq _ _ _ [some x, some y, some vw, some vb, some vweb, some (.ref pf), some vl, some (.ref pk), some (.ref pB), some (.ref l), some x', j11, none, none, none, j15, none, none] H10
    refine q_asgK (ek_call (K := K) (kvs := outsK p.w.places p.w.ways hs) (eds2 (ed_var rfl (dp_ex t4.2.1 hweb8)) (ed_var rfl hx')) fun vs H11 a11 hv Q' E' r => ⟨p.w.places, p.w.ways, hs, hv, ow.nd, ow.pl, hlo, r⟩) fun pO H11 a11 hn11 hp11 => ?_
    have t11 := t4.ex a11
    have hk11 := t11.2.1 _ _ hp78
    have hB11 := t11.2.1 _ _ hp8
    have hb11 := dp_ex t11.2.1 hb8
    show tIfS _ _ _ _ [some x, some y, some vw, some vb, some vweb, some (.ref pf), some vl, some (.ref pk), some (.ref pB), some (.ref l), some x', some (.ref pO), none, none, none, j15, none, none] H11
    have neO : pO ≠ pk := fun z => by
      rw [z, t4.2.1 _ _ hp78] at hn11
      cases hn11
    have hall : EvN K (tLockE (tLc (iKeys (tVar 7)) (gName 15) tYes (tOp rGeI (tDGet (tVar 11) (tVar 15)) (tDGet (tVar 7) (tVar 15))) [15])) [some x, some y, some vw, some vb, some vweb, some (.ref pf), some vl, some (.ref pk), some (.ref pB), some (.ref l), some x', some (.ref pO), none, none, none, j15, none, none] H11
        ((((p.w.places.zip (dues p.w)).filter fun q => decide (q.1 ∉ p.border)).map fun q => decide (q.2 ≤ (outs p.w.ways hs q.1 : Int))).map .bool) := by
      rw [List.map_map]
      refine en_lock (l := pk) hk11 trivial (fun H12 od a12 => ?_) (tp_map (fun _ => rfl) _)
      have iv := (iv_keys (K := K) (ta := tVar 7) (σ := [some x, some y, some vw, some vb, some vweb, some (.ref pf), some vl, some (.ref pk), some (.ref pB), some (.ref l), some x', some (.ref pO), none, none, none, j15, none, none]) (ks := ((p.w.places.zip (dues p.w)).filter fun q => decide (q.1 ∉ p.border)).map fun q => (q.1, V.int q.2)) (H := upd H12 pk (.frz od (.dK (((p.w.places.zip (dues p.w)).filter fun q => decide (q.1 ∉ p.border)).map fun q => ((.inr q.1 : Key), V.int q.2))))) (o := od) (ev_var rfl) (by rw [upd_same, List.map_map]; rfl)).toD
      rw [List.map_map] at iv
      have hfl := List.length_filter_le (fun q : Nm × Int => decide (q.1 ∉ p.border)) (p.w.places.zip (dues p.w))
      rw [List.length_zip] at hfl
      refine en_lcN0 ((p.w.places.zip (dues p.w)).filter fun q => decide (q.1 ∉ p.border)) _ (fun q => .bool (decide (q.2 ≤ (outs p.w.ways hs q.1 : Int)))) iv (by omega) (j := 15) (vs := [15]) (by decide) (fun _ _ => rfl) fun q' x2 H13 hq a13 hx2 => ?_
      rw [dp_str hx2]
      have hqz := (List.mem_filter.mp hq).1
      refine ed_bl (ev_op (ev_dget (k := .inr q'.1) (ev_var rfl) (.inl (a13 _ _ (by rw [upd_ne neO]; exact a12 _ _ hp11))) (ev_var rfl) (valV_outs ow.nd (List.of_mem_zip hqz).1)) (ev_dget (k := .inr q'.1) (ev_var rfl) (.inr ⟨od, a13 _ _ upd_same⟩) (ev_var rfl) (kv_in (key := fun q : Nm × Int => q.1) (val := fun q => V.int q.2) ?_ hq)) rv_I0)
      have nd0 : ((p.w.places.zip (dues p.w)).map (·.1)).Nodup := by rw [List.map_fst_zip (by omega)]; exact ow.nd
      exact nd0.sublist ((List.filter_sublist ..).map _)
    have hst : ((pts p.w.ways p.w.heads free).take (i + 1)).filter (goodH p) = ((pts p.w.ways p.w.heads free).take i).filter (goodH p) ++ (if goodH p hs = true then [hs] else []) := by
      rw [take_succ_at hhs, List.filter_append, List.filter_cons]
      rfl
    have hev := ev_all hall
    rw [good_filter] at hev
    refine s_when (et_B hev) (fun c H12 a12 => ?_) fun c H12 a12 => ⟨⟨_, _, _, rfl⟩, t1, (a11.trans a12) _ _ t2, dps_ex (a11.trans a12) t3, ?_⟩
    · have row : EvD K (tCB (rTupOf K) (tCons (tLc (iTup K (tVar 3)) (gName 15) tYes (tOp rSubI (tDGet (tVar 11) (tVar 15)) (tDGet (tVar 8) (tVar 15))) [15]) tNil)) [some x, some y, some vw, some vb, some vweb, some (.ref pf), some vl, some (.ref pk), some (.ref pB), some (.ref l), some x', some (.ref pO), none, none, none, j15, none, none] H12 (rowD (rowOf p hs)) := by
        unfold rowOf rowD
        rw [List.map_map]
        refine ed_tupOf (en_lcN0 p.border .str (fun b => .int ((outs p.w.ways hs b : Int) - (outs p.w.ways p.w.heads b : Int))) (iv_tup (ep_var rfl (dp_ex a12 hb11))).toD (by omega) (by decide) (fun _ _ => rfl) fun b x2 H13 hbm a13 hx2 => ?_)
        rw [dp_str hx2]
        exact ed_int (ev_sub (ev_dget (k := .inr b) (ev_var rfl) (.inl ((a12.trans a13) _ _ hp11)) (ev_var rfl) (valV_outs ow.nd (o.bs b hbm))) (ev_dget (k := .inr b) (ev_var rfl) (.inl ((a12.trans a13) _ _ hB11)) (ev_var rfl) (valV_outs ow.nd (o.bs b hbm))))
      refine s_acc (t11.ex a12) rfl row (tp_map tp_row _) (tp_row _) ?_ fun H13 P13 o13 t13 => ⟨⟨_, _, _, rfl⟩, t1, o13 _ _ t1 ((a11.trans a12) _ _ t2), dps_tx t13 (dps_ex (a11.trans a12) t3) (tp_map tp_ns _), ?_⟩
      · have l1 := List.length_filter_le (goodH p) ((pts p.w.ways p.w.heads free).take i)
        have l2 := List.length_take_le' i (pts p.w.ways p.w.heads free)
        rw [List.length_map, List.length_map]
        omega
      · rw [hst, if_pos c, List.map_append, List.map_append]
        exact P13
    · rw [hst, if_neg (by rw [c]; simp), List.append_nil]
      exact t11.ex a12
  · subst e
    rw [List.length_map, List.take_length] at t4
    have hraw : ((pts p.w.ways p.w.heads free).filter (goodH p)).map (rowOf p) = rawRows p lit := by
      unfold rawRows
      rw [hfree]
    have b10 : Ex H H10 := ((((((a1.trans a2).trans a3).trans b5).trans a6).trans b8).trans t4.2.1)
    refine s_retD (ed_sortset (rs := rawRows p lit) (ed_var rfl (by rw [← hraw]; exact t4.edp)) (fun L nd h => few o free (goodH p) nd fun r hr => by rw [hraw]; exact h r hr) (fun r hr => ?_) (out := Tb.shifts p lit) fun l nd h => shifts_is nd h) (q.go b10)
    rw [← hraw] at hr
    obtain ⟨hs, _, rfl⟩ := List.mem_map.mp hr
    intro z
    have := congrArg List.length z
    unfold rowOf at this
    rw [List.length_map] at this
    have e0 : ([] : List Int).length = 0 := rfl
    omega
end
end Tb
set_option Elab.async false
set_option linter.all false
set_option maxRecDepth 100000
set_option maxHeartbeats 4000000
namespace Tb
open PySem PySem.Spec PyProof.Rows L2 Evl
section
variable {K : PySem.W.Frag} {vs : List V} {H : Hp} {Q : VK} {E : XK}
theorem lenLShiftRows (h : spLShiftRows K vs H Q E) : vs.length = 2 := by
  obtain ⟨_, _, hd, _⟩ := h
  exact dp_len hd
theorem q_forLV {σ : L2.St} {tl : TE} {ds : List PyData} {D : Ends} {tu tz : TS} {g : TG} {a : Addr} {ws : List V} (h : Ev tl σ H (.ref a)) (Pv : Nat → L2.St → Hp → Prop) (h0 : ∀ H1, Ex H H1 → Pv 0 σ H1)
    (hG : ∀ i σ' H', Pv i σ' H' → H' a = some (.lst ws) ∧ DpAll K H' ws ds)
    (hs : ∀ i d x σ' H1, ds[i]? = some d → Pv i σ' H1 → Dp K H1 x d → g x σ' H1 fun σ2 H3 => tu { D with nx := Pv (i + 1), ct := Pv (i + 1), bk := tz D } σ2 H3) (hd : ∀ σ' H', Pv ds.length σ' H' → tz D σ' H') : tSeq (tFor (iList K tl) g tu) tz D σ H :=
  s_forLV (D := { D with nx := tz D }) h Pv h0 hG hs hd
/-- x[k].count(text) -/
theorem ev_cnt {σ : L2.St} {ta tb : TE} {l : List Nm} {x : Nm} (h : EvD K ta σ H (.list (l.map .str))) (h2 : Ev tb σ H (.str x)) : Ev (tBM K "list" (rCntS K) ta (tCons tb tNil)) σ H (.int (l.count x : Nat)) := fun H1 a Q q =>
  h H1 a _ fun v H2 b hv => by
    obtain ⟨p, xs, rfl, hs, hd⟩ := dp_lst hv
    rw [dps_strs hd] at hs
    exact ⟨.inl ⟨rfl, _, hs⟩, h2 H2 (a.trans b) _ fun H3 c => ⟨p, l, x, rfl, rfl, ex_l c hs, q H3 (b.trans c)⟩⟩
theorem ev_mod2 {σ : L2.St} {ta : TE} {n : Nat} (h : Ev ta σ H (.int (n : Nat))) : Ev (tOp rModI (tCB rInt1 (tCons ta tNil)) (tC (.int 2))) σ H (.int ((n % 2 : Nat) : Int)) := by
  have h1 : Ev (tCB rInt1 (tCons ta tNil)) σ H (.int (n : Nat)) := fun H1 a Q q => h H1 a _ fun H2 b => .inl ⟨n, rfl, q H2 b⟩
  refine ev_is (ev_op h1 ev_c (rv_I (by decide))) ?_
  refine congrArg V.int ?_
  rw [Int.fmod_eq_emod_of_nonneg _ (by decide)]
  omega
theorem ev_div2 {σ : L2.St} {ta : TE} {n : Nat} (h : Ev ta σ H (.int (n : Nat))) : Ev (tOp rDivI ta (tC (.int 2))) σ H (.int ((n / 2 : Nat) : Int)) := by
  refine ev_is (ev_op h ev_c (rv_I ⟨by decide, by decide⟩)) ?_
  refine congrArg V.int ?_
  rw [Int.fdiv_eq_ediv_of_nonneg _ (by decide)]
  omega
/-- a list of texts that is changed in place -/
def StP (B : Hp) (l : Addr) (hs : List Nm) (H : Hp) : Prop := B l = none ∧ Ex B H ∧ H l = some (.lst (hs.map V.str))
theorem StP.ex {B H' : Hp} {l : Addr} {hs : List Nm} (P : StP B l hs H) (e : Ex H H') : StP B l hs H' := ⟨P.1, P.2.1.trans e, e _ _ P.2.2⟩
theorem StP.set {B : Hp} {l : Addr} {hs : List Nm} (P : StP B l hs H) (k : Nat) (x : Nm) : StP B l (hs.set k x) (upd H l (.lst ((hs.map V.str).set k (.str x)))) := ⟨P.1, Ex.mut P.2.1 P.1, by rw [upd_same, List.map_set]⟩
theorem StP.edp {B : Hp} {l : Addr} {hs : List Nm} (P : StP B l hs H) : Dp K H (.ref l) (.list (hs.map .str)) := .lst (sq_of P.2.2) (dps_of_strs hs)
open Classical in
theorem looseI_eq (W : Wd) (r : List Nm) (R : Nm → Prop) (h : ∀ x, x ∈ r ↔ R x) : ((W.ways.zip W.heads).zipIdx.filter fun q => (decide (q.1.1.2.1 ∈ r) && decide (q.1.1.2.2 ∈ r))).map (·.2) = looseI W R := by
  unfold looseI
  refine congrArg (List.map _) (List.filter_congr fun q _ => ?_)
  rw [decide_eq_decide.mpr (h q.1.1.2.1), decide_eq_decide.mpr (h q.1.1.2.2)]
theorem looseI_len (W : Wd) (o : OkW W) (R : Nm → Prop) : (looseI W R).length ≤ 6 := by
  have := o.wl
  unfold looseI
  rw [List.length_map]
  refine Nat.le_trans (List.length_filter_le _ _) ?_
  rw [List.length_zipIdx, List.length_zip]
  omega
theorem tails_outs (ways : List Wy) (hs : List Nm) (x : Nm) : (tails ways hs).count x = outs ways hs x := rfl
theorem readLShiftRows (h : spLShiftRows K vs H Q E) : tLShiftRows K { nx := fun _ H' => Q .non H', rt := Q } (start nLShiftRows vs) H := by
  obtain ⟨p, lit, hd, o, lo, q⟩ := h
  obtain ⟨x, y, rfl, hx, hy⟩ := dp2 hd
  have ow := o.w
  have pl := ow.pl
  have wl := ow.wl
  have hl := ow.hl
  have dl := dues_len ow
  have bl := o.bl
  show tLShiftRows K _ [some x, some y, none, none, none, none, none, none, none, none, none, none, none, none, none, none] H
  refine q_asgD (ep_i0 (ep_var rfl hx)).toD fun vw H1 a1 hw1 => ?_
  show tSeq _ _ _ [some x, some y, some vw, none, none, none, none, none, none, none, none, none, none, none, none, none] H1
  refine q_asgCall (eds2 (ed_var rfl (dp_ex a1 hx)) (ed_var rfl (dp_ex a1 hy))) fun vs H2 a2 hv => ⟨p, lit, hv, o, lo, fun r hr vf H3 a3 hf3 => ?_⟩
  have b3 := a2.trans a3
  have hw3 := dp_ex b3 hw1
  show tSeq _ _ _ [some x, some y, some vw, some vf, none, none, none, none, none, none, none, none, none, none, none, none] H3
  have zl : (p.w.ways.zip p.w.heads).length = p.w.ways.length := by rw [List.length_zip]; omega
  have nl : EvN K (tLc (iRng1 (tCons (tCB (rLenS K) (tCons (tOp (rIxT K) (tVar 2) (tC (.int 1))) tNil)) tNil)) (gName 6) (tAnd (tTest (tOp (rIn K false) (tOp (rIxT K) (tOp (rIxT K) (tOp (rIxT K) (tOp (rIxT K) (tVar 2) (tC (.int 0))) (tC (.int 1))) (tVar 6)) (tC (.int 1))) (tVar 3))) (tTest (tOp (rIn K false) (tOp (rIxT K) (tOp (rIxT K) (tOp (rIxT K) (tOp (rIxT K) (tVar 2) (tC (.int 0))) (tC (.int 1))) (tVar 6)) (tC (.int 2))) (tVar 3)))) (tVar 6) [6]) [some x, some y, some vw, some vf, none, none, none, none, none, none, none, none, none, none, none, none] H3 ((looseI p.w (Rch p.w (srcs p lit))).map fun k : Nat => .int (k : Int)) := by
    rw [← looseI_eq p.w r _ hr, List.map_map]
    refine en_lcR (p.w.ways.zip p.w.heads) (fun q => (decide (q.1.2.1 ∈ r) && decide (q.1.2.2 ∈ r))) (fun i _ => .int (i : Nat)) (ea1 (ed_lenT (ep_i1 (ep_var rfl hw3)).toD)) (by rw [List.length_map, List.length_zip]; omega) (by omega) (by decide) (fun _ _ => rfl) fun i a H4 hi a4 => ⟨?_, fun _ => ed_vi rfl⟩
    have row : EvP K (tOp (rIxT K) (tOp (rIxT K) (tOp (rIxT K) (tVar 2) (tC (.int 0))) (tC (.int 1))) (tVar 6)) ((wipe [some x, some y, some vw, some vf, none, none, none, none, none, none, none, none, none, none, none, none] [6]).set 6 (some (.int (i : Nat)))) H4 (wayD a.1) := ep_ixT (ep_i1 (ep_i0 (ep_var rfl (dp_ex a4 hw3)))) (ev_var rfl) (map_at (f := wayD) (zip_at2 hi).1)
    exact et_and (et_inT (ep_i1 row).toD (ed_var rfl (dp_ex a4 hf3))) fun _ => et_inT (ep_i2 row).toD (ed_var rfl (dp_ex a4 hf3))
  generalize hI : looseI p.w (Rch p.w (srcs p lit)) = I at nl
  have Il : I.length ≤ 6 := by rw [← hI]; exact looseI_len _ ow _
  have Imem : ∀ k ∈ I, ∃ q, (p.w.ways.zip p.w.heads)[k]? = some q := fun k hk => by
    rw [← hI] at hk
    obtain ⟨q, hq, _⟩ := looseI_mem.mp hk
    exact ⟨q, hq⟩
  refine q_asgN nl fun pI ws H4 a4 hn4 hp4 hd4 => ?_
  show tSeq _ _ _ [some x, some y, some vw, some vf, some (.ref pI), none, none, none, none, none, none, none, none, none, none, none] H4
  refine q_asg ev_c fun H5 a5 => ?_
  show tSeq _ _ _ [some x, some y, some vw, some vf, some (.ref pI), some (.int 1), none, none, none, none, none, none, none, none, none, none] H5
  have hI5 : H5 pI = some (.lst ws) := a5 _ _ hp4
  have hdI5 := dps_ex a5 hd4
  refine q_forLV (K := K) (a := pI) (ws := ws) (ds := I.map fun k : Nat => PyData.int (k : Int)) (ev_var rfl) (fun i σ' H' => (∃ a, σ' = [some x, some y, some vw, some vf, some (.ref pI), some (.int ((2 ^ i : Nat) : Int)), a, none, none, none, none, none, none, none, none, none]) ∧ Ex H5 H') (fun H6 a6 => ⟨⟨_, rfl⟩, a6⟩) (fun i σ' H' t => ⟨t.2 _ _ hI5, dps_ex t.2 hdI5⟩) (fun i d x' σ' H6 hi ⟨⟨_, e⟩, t⟩ hx' => ?_) fun σ' H6 ⟨⟨j6, e⟩, t⟩ => ?_
  · subst e
    have i6 : i < 6 := by
      have := (List.getElem?_eq_some_iff.mp hi).1
      rw [List.length_map] at this
      omega
    show tAsg _ _ _ [some x, some y, some vw, some vf, some (.ref pI), some (.int ((2 ^ i : Nat) : Int)), some x', none, none, none, none, none, none, none, none, none] H6
    have e2 : ((2 ^ (i + 1) : Nat) : Int) = ((2 ^ i : Nat) : Int) * 2 := by rw [Nat.pow_succ]; omega
    refine s_asg (ev_op (ev_var rfl) ev_c (rv_I (.inr ⟨by decide, by decide⟩))) fun H7 a7 => ⟨⟨some x', ?_⟩, t.trans a7⟩
    rw [e2]
    rfl
  · subst e
    rw [List.length_map]
    have hw6 := dp_ex (a4.trans (a5.trans t)) hw3
    have hx6 := dp_ex (a1.trans (b3.trans (a4.trans (a5.trans t)))) hx
    have hI6 := t _ _ hI5
    have hdI6 := dps_ex t hdI5
    refine q_asgD (K := K) (d := rowD (dues p.w)) (ed_call (eds1 (ed_var rfl hw6)) fun vs H7 a7 hv Q' E' r => ⟨p.w, hv, ow, r⟩) fun vlow H7 a7 hlow => ?_
    refine q_asgD (K := K) (d := rowD (p.border.map fun b => (outs p.w.ways p.w.heads b : Int))) (ed_call (eds1 (ed_var rfl (dp_ex a7 hx6))) fun vs H8 a8 hv Q' E' r => ⟨p, hv, o, r⟩) fun vold H8 a8 hold => ?_
    show tSeq _ _ _ [some x, some y, some vw, some vf, some (.ref pI), some (.int ((2 ^ I.length : Nat) : Int)), j6, some vlow, some vold, none, none, none, none, none, none, none] H8
    have b8 := a7.trans a8
    have hx8 := dp_ex b8 hx6
    have hw8 := dp_ex b8 hw6
    have hI8 := b8 _ _ hI6
    have hdI8 := dps_ex b8 hdI6
    have hlow8 := dp_ex a8 hlow
    refine q_newL (K := K) fun l H9 P9 => ?_
    show tSeq _ _ _ [some x, some y, some vw, some vf, some (.ref pI), some (.int ((2 ^ I.length : Nat) : Int)), j6, some vlow, some vold, some (.ref l), none, none, none, none, none, none] H9
    have p64 : 2 ^ I.length ≤ 64 := Nat.le_trans (Nat.pow_le_pow_right (by omega) Il) (by decide)
    refine q_forR (List.range (2 ^ I.length)) (H := H8) (ea1 (ev_var rfl)) (by rw [List.length_range]) (by rw [List.length_range]; omega) P9.2.1 (fun n σ' H' => ∃ (f : List (List Int)) (c6 c10 c11 c12 c13 c14 c15 : Option V), σ' = [some x, some y, some vw, some vf, some (.ref pI), some (.int ((2 ^ I.length : Nat) : Int)), c6, some vlow, some vold, some (.ref l), c10, c11, c12, c13, c14, c15] ∧ LcP K H8 l (f.map rowD) H' ∧ f.Nodup ∧ f.length ≤ n ∧ ∀ r, r ∈ f ↔ ∃ m, m < n ∧ goodH p (setP p.w.ways I (p.w.heads, m)).1 = true ∧ r = rowOf p (setP p.w.ways I (p.w.heads, m)).1)
      (fun H10 a10 => ⟨[], _, _, _, _, _, _, _, rfl, P9.ex a10, List.nodup_nil, Nat.le_refl _, fun r => ⟨fun z => (nomatch z), fun ⟨m, hm, _⟩ => absurd hm (Nat.not_lt_zero m)⟩⟩) (fun n σ' H' ⟨_, _, _, _, _, _, _, _, _, t, _⟩ => t.2.1) (fun n a σ' H10 hn ⟨f, c6, c10, c11, c12, c13, c14, c15, e, t1, t2, t3, t4⟩ => ?_) fun σ' H10 ⟨f, c6, c10, c11, c12, c13, c14, c15, e, t1, t2, t3, t4⟩ => ?_
    · subst e
      have hnl : n < 2 ^ I.length := by
        have := (List.getElem?_eq_some_iff.mp hn).1
        rw [List.length_range] at this
        exact this
      have hw10 := dp_ex t1.2.1 hw8
      have hx10 := dp_ex t1.2.1 hx8
      have hlow10 := dp_ex t1.2.1 hlow8
      have hold10 := dp_ex t1.2.1 hold
      have hI10 := t1.2.1 _ _ hI8
      have hdI10 := dps_ex t1.2.1 hdI8
      show tSeq _ _ _ [some x, some y, some vw, some vf, some (.ref pI), some (.int ((2 ^ I.length : Nat) : Int)), c6, some vlow, some vold, some (.ref l), some (.int (n : Nat)), c11, c12, c13, c14, c15] H10
      refine q_asgN (en_listT (ep_i1 (ep_var rfl hw10)).toD) fun pt us H11 a11 hn11 hp11 hd11 => ?_
      rw [dps_strs hd11] at hp11
      have S11 : StP H10 pt p.w.heads H11 := ⟨hn11, a11, hp11⟩
      refine q_asg (ev_var rfl) fun H12 a12 => ?_
      show tSeq _ _ _ [some x, some y, some vw, some vf, some (.ref pI), some (.int ((2 ^ I.length : Nat) : Int)), c6, some vlow, some vold, some (.ref l), some (.int (n : Nat)), some (.ref pt), some (.int (n : Nat)), c13, c14, c15] H12
      refine q_forLV (K := K) (a := pI) (ws := ws) (ds := I.map fun k : Nat => PyData.int (k : Int)) (ev_var rfl) (fun i σ' H' => (∃ a, σ' = [some x, some y, some vw, some vf, some (.ref pI), some (.int ((2 ^ I.length : Nat) : Int)), a, some vlow, some vold, some (.ref l), some (.int (n : Nat)), some (.ref pt), some (.int ((setP p.w.ways (I.take i) (p.w.heads, n)).2 : Nat)), c13, c14, c15]) ∧ StP H10 pt (setP p.w.ways (I.take i) (p.w.heads, n)).1 H') (fun H13 a13 => ⟨⟨_, rfl⟩, S11.ex (a12.trans a13)⟩) (fun i σ' H' t => ⟨t.2.2.1 _ _ hI10, dps_ex t.2.2.1 hdI10⟩) (fun i d x' σ' H13 hi ⟨⟨c, e⟩, s⟩ hx' => ?_) fun σ' H13 ⟨⟨d6, e⟩, s⟩ => ?_
      · subst e
        rw [List.getElem?_map] at hi
        obtain ⟨k, hk, rfl⟩ := Option.map_eq_some_iff.mp hi
        rw [dp_int hx']
        obtain ⟨qk, hqk⟩ := Imem k (List.mem_of_getElem? hk)
        have zk := zip_at2 hqk
        have hkl : k < p.w.heads.length := (List.getElem?_eq_some_iff.mp zk.2).1
        show tSeq _ _ _ [some x, some y, some vw, some vf, some (.ref pI), some (.int ((2 ^ I.length : Nat) : Int)), some (.int (k : Nat)), some vlow, some vold, some (.ref l), some (.int (n : Nat)), some (.ref pt), some (.int ((setP p.w.ways (I.take i) (p.w.heads, n)).2 : Nat)), c13, c14, c15] H13
        have hw13 := dp_ex s.2.1 hw10
        have hst : setP p.w.ways (I.take (i + 1)) (p.w.heads, n) = stepP p.w.ways (setP p.w.ways (I.take i) (p.w.heads, n)) k := by
          rw [take_succ_at hk]
          unfold setP
          rw [List.foldl_append]
          rfl
        have zl2 : (setP p.w.ways (I.take i) (p.w.heads, n)).1.length = p.w.heads.length := setP_len _ _ _
        generalize setP p.w.ways (I.take i) (p.w.heads, n) = z at s hst zl2
        have hval : Ev (tOp (rIxT K) (tOp (rIxT K) (tOp (rIxT K) (tOp (rIxT K) (tVar 2) (tC (.int 0))) (tC (.int 1))) (tVar 6)) (tOp rAddI (tC (.int 1)) (tOp rModI (tCB rInt1 (tCons (tVar 12) tNil)) (tC (.int 2))))) [some x, some y, some vw, some vf, some (.ref pI), some (.int ((2 ^ I.length : Nat) : Int)), some (.int (k : Nat)), some vlow, some vold, some (.ref l), some (.int (n : Nat)), some (.ref pt), some (.int (z.2 : Nat)), c13, c14, c15] H13 (.str (if z.2 % 2 = 0 then (p.w.ways.getD k ("", "", "")).2.1 else (p.w.ways.getD k ("", "", "")).2.2)) := by
          rw [way_getD hqk]
          refine es_ (ep_ixT (k := 1 + z.2 % 2) (ep_ixT (ep_i1 (ep_i0 (ep_var rfl hw13))) (ev_var rfl) (map_at (f := wayD) zk.1)) (ev_is (ev_add ev_c (ev_mod2 (ev_var rfl))) (by rw [Int.natCast_add]; rfl)) ?_).toD
          rcases (show z.2 % 2 = 0 ∨ z.2 % 2 = 1 by omega) with e | e
          · rw [e, if_pos rfl]; rfl
          · rw [e, if_neg (by decide)]; rfl
        refine q_setL (j := k) s.2.2 hval (ev_var rfl) (ev_var rfl) (by rw [List.length_map]; omega) fun H14 a14 => ?_
        have s14 := (s.ex a14).set k (if z.2 % 2 = 0 then (p.w.ways.getD k ("", "", "")).2.1 else (p.w.ways.getD k ("", "", "")).2.2)
        refine s_asg (ev_div2 (ev_var rfl)) fun H15 a15 => ⟨⟨some (.int (k : Nat)), ?_⟩, ?_⟩
        · rw [hst]; rfl
        · rw [hst]
          exact s14.ex a15
      · subst e
        rw [List.length_map, List.take_length] at s ⊢
        generalize hz : (setP p.w.ways I (p.w.heads, n)).1 = hs at s
        generalize (setP p.w.ways I (p.w.heads, n)).2 = rest
        have hpt : hs ∈ pts p.w.ways p.w.heads (looseN p.w (Rch p.w (srcs p lit))) := (mem_pts ow _ hs).mpr ⟨n, by rw [hI]; exact hnl, by rw [hI]; exact hz⟩
        have hok := hd_of_pts ow hpt
        have hw13 := dp_ex s.2.1 hw10
        have hx13 := dp_ex s.2.1 hx10
        have hlow13 := dp_ex s.2.1 hlow10
        have hold13 := dp_ex s.2.1 hold10
        show tSeq _ _ _ [some x, some y, some vw, some vf, some (.ref pI), some (.int ((2 ^ I.length : Nat) : Int)), d6, some vlow, some vold, some (.ref l), some (.int (n : Nat)), some (.ref pt), some (.int (rest : Nat)), c13, c14, c15] H13
        have tl13 : EvN K (tLc (iList K (tCall (spLLinks K) [] E0 (tCons (tTup (tCons (tOp (rIxT K) (tVar 2) (tC (.int 0))) (tCons (tVar 11) (tCons (tOp (rIxT K) (tVar 2) (tC (.int 2))) tNil)))) tNil))) (gName 15) tYes (tOp (rIxT K) (tVar 15) (tC (.int 1))) [15]) [some x, some y, some vw, some vf, some (.ref pI), some (.int ((2 ^ I.length : Nat) : Int)), d6, some vlow, some vold, some (.ref l), some (.int (n : Nat)), some (.ref pt), some (.int (rest : Nat)), c13, c14, c15] H13 ((tails p.w.ways hs).map .str) := by
          have e : (tails p.w.ways hs).map PyData.str = (arrR { p.w with heads := hs }).map fun w => .str w.2.1 := by
            rw [← arr_tails { p.w with heads := hs }, List.map_map]
            rfl
          rw [e]
          have al : (arrR { p.w with heads := hs }).length ≤ 6 := by
            unfold arrR
            rw [List.length_map, List.length_zip]
            show min p.w.ways.length hs.length ≤ 6
            omega
          refine en_lcN0 (arrR { p.w with heads := hs }) wayD (fun w => .str w.2.1) (iv_lstD (en_call (eds1 (ed_tup (eds_cons (ep_i0 (ep_var rfl hw13)).toD (eds2 (ed_var rfl (StP.edp s)) (ep_i2 (ep_var rfl hw13)).toD)))) fun vs H14 a14 hv Q' E' r => ⟨{ p.w with heads := hs }, _, hv, .inr rfl, hok, r⟩).toD) (by omega) (by decide) (fun _ _ => rfl) fun w x2 H14 hwm a14 hx2 => ed_i1 (ed_var rfl hx2)
        refine q_asgD tl13.toD fun vt H14 a14 ht14 => ?_
        refine q_asg ev_c fun H15 a15 => ?_
        have b15 := a14.trans a15
        have hw15 := dp_ex b15 hw13
        have hx15 := dp_ex b15 hx13
        have hlow15 := dp_ex b15 hlow13
        have ht15 := dp_ex a15 ht14
        show tSeq _ _ _ [some x, some y, some vw, some vf, some (.ref pI), some (.int ((2 ^ I.length : Nat) : Int)), d6, some vlow, some vold, some (.ref l), some (.int (n : Nat)), some (.ref pt), some (.int (rest : Nat)), some vt, some (.bl true), c15] H15
        refine q_forR (p.w.places.zip (dues p.w)) (H := H15) (ea1 (ed_lenT (ed_var rfl hlow15))) (by rw [List.length_map, List.length_zip]; omega) (by rw [List.length_zip]; omega) (Ex.refl _) (fun i σ' H' => (∃ a, σ' = [some x, some y, some vw, some vf, some (.ref pI), some (.int ((2 ^ I.length : Nat) : Int)), a, some vlow, some vold, some (.ref l), some (.int (n : Nat)), some (.ref pt), some (.int (rest : Nat)), some vt, some (.bl (((p.w.places.zip (dues p.w)).take i).all fun q => decide (q.1 ∈ p.border) || decide (q.2 ≤ (outs p.w.ways hs q.1 : Int)))), c15]) ∧ Ex H15 H') (fun H16 a16 => ⟨⟨_, rfl⟩, a16⟩) (fun i σ' H' t => t.2) (fun i a' σ' H16 hi ⟨⟨_, e⟩, t⟩ => ?_) fun σ' H16 ⟨⟨e6, e⟩, t⟩ => ?_
        · subst e
          have zi := zip_at2 hi
          have hw16 := dp_ex t hw15
          have hx16 := dp_ex t hx15
          show tIfS _ _ _ _ [some x, some y, some vw, some vf, some (.ref pI), some (.int ((2 ^ I.length : Nat) : Int)), some (.int (i : Nat)), some vlow, some vold, some (.ref l), some (.int (n : Nat)), some (.ref pt), some (.int (rest : Nat)), some vt, some (.bl (((p.w.places.zip (dues p.w)).take i).all fun q => decide (q.1 ∈ p.border) || decide (q.2 ≤ (outs p.w.ways hs q.1 : Int)))), c15] H16
          have hpl : EvD K (tOp (rIxT K) (tOp (rIxT K) (tOp (rIxT K) (tVar 2) (tC (.int 0))) (tC (.int 0))) (tVar 6)) [some x, some y, some vw, some vf, some (.ref pI), some (.int ((2 ^ I.length : Nat) : Int)), some (.int (i : Nat)), some vlow, some vold, some (.ref l), some (.int (n : Nat)), some (.ref pt), some (.int (rest : Nat)), some vt, some (.bl (((p.w.places.zip (dues p.w)).take i).all fun q => decide (q.1 ∈ p.border) || decide (q.2 ≤ (outs p.w.ways hs q.1 : Int)))), c15] H16 (.str a'.1) := (ep_ixT (ep_i0 (ep_i0 (ep_var rfl hw16))) (ev_var rfl) (map_at zi.1)).toD
          have hst : (((p.w.places.zip (dues p.w)).take (i + 1)).all fun q => decide (q.1 ∈ p.border) || decide (q.2 ≤ (outs p.w.ways hs q.1 : Int))) = ((((p.w.places.zip (dues p.w)).take i).all fun q => decide (q.1 ∈ p.border) || decide (q.2 ≤ (outs p.w.ways hs q.1 : Int))) && (decide (a'.1 ∈ p.border) || decide (a'.2 ≤ (outs p.w.ways hs a'.1 : Int)))) := by
            rw [take_succ_at hi, List.all_append]
            simp only [List.all_cons, List.all_nil, Bool.and_true]
          refine s_when (et_and (et_niT hpl (ep_i1 (ep_var rfl hx16)).toD) fun _ => et_lt (ev_cnt (ed_var rfl (dp_ex t ht15)) (es_ hpl)) (ei (ed_ixT (ed_var rfl (dp_ex t hlow15)) (ev_var rfl) (map_at zi.2)))) (fun c H17 a17 => ?_) fun c H17 a17 => ⟨⟨some (.int (i : Nat)), ?_⟩, t.trans a17⟩
          · rw [Bool.and_eq_true] at c
            have c1 := of_decide_eq_true c.1
            have c2 := of_decide_eq_true c.2
            rw [tails_outs] at c2
            refine s_asg ev_c fun H18 a18 => ⟨⟨some (.int (i : Nat)), ?_⟩, (t.trans a17).trans a18⟩
            rw [hst, decide_eq_false c1, decide_eq_false (show ¬ a'.2 ≤ (outs p.w.ways hs a'.1 : Int) by omega), Bool.or_self, Bool.and_false]
            rfl
          · have e1 : (decide (a'.1 ∈ p.border) || decide (a'.2 ≤ (outs p.w.ways hs a'.1 : Int))) = true := by
              rw [tails_outs] at c
              by_cases d1 : a'.1 ∈ p.border
              · simp [d1]
              · by_cases d2 : a'.2 ≤ (outs p.w.ways hs a'.1 : Int)
                · simp [d2]
                · exfalso
                  rw [decide_eq_true d1, decide_eq_true (show (outs p.w.ways hs a'.1 : Int) < a'.2 by omega)] at c
                  cases c
            rw [hst, e1, Bool.and_true]
        · subst e
          rw [List.take_length]
          have hg : ((p.w.places.zip (dues p.w)).all fun q => decide (q.1 ∈ p.border) || decide (q.2 ≤ (outs p.w.ways hs q.1 : Int))) = goodH p hs := rfl
          rw [hg]
          have hw16 := dp_ex t hw15
          have hx16 := dp_ex t hx15
          have hold16 := dp_ex (b15.trans t) hold13
          have ht16 := dp_ex t ht15
          show tSeq _ _ _ [some x, some y, some vw, some vf, some (.ref pI), some (.int ((2 ^ I.length : Nat) : Int)), e6, some vlow, some vold, some (.ref l), some (.int (n : Nat)), some (.ref pt), some (.int (rest : Nat)), some vt, some (.bl (goodH p hs)), c15] H16
          refine q_asgD (K := K) (d := rowD (rowOf p hs)) ?_ fun vr H17 a17 hr17 => ?_
          · unfold rowOf rowD
            rw [List.map_map]
            refine ed_tupOf (en_lcR0 p.border (fun b => .int ((outs p.w.ways hs b : Int) - (outs p.w.ways p.w.heads b : Int))) (ea1 (ed_lenT (ed_var rfl hold16))) (by rw [List.length_map, List.length_map]) (by omega) (by decide) (fun _ => rfl) fun i b H18 hi a18 => ?_)
            exact ed_int (ev_sub (ev_cnt (ed_var rfl (dp_ex a18 ht16)) (es_ (ep_ixT (ep_i1 (ep_var rfl (dp_ex a18 hx16))) (ev_var rfl) (map_at hi)).toD)) (ei (ed_ixT (ed_var rfl (dp_ex a18 hold16)) (ev_var rfl) (map_at (map_at (f := fun b => (outs p.w.ways p.w.heads b : Int)) hi)))))
          have b17 : Ex H10 H17 := s.2.1.trans (b15.trans (t.trans a17))
          have t17 := t1.ex b17
          show tIfS _ _ _ _ [some x, some y, some vw, some vf, some (.ref pI), some (.int ((2 ^ I.length : Nat) : Int)), e6, some vlow, some vold, some (.ref l), some (.int (n : Nat)), some (.ref pt), some (.int (rest : Nat)), some vt, some (.bl (goodH p hs)), some vr] H17
          refine s_when (et_and (et_B (ev_var rfl)) fun _ => et_niR (ed_var rfl hr17) (ed_var rfl t17.edp)) (fun c H18 a18 => ?_) fun c H18 a18 => ⟨f, _, _, _, _, _, _, _, rfl, t17.ex a18, t2, by omega, fun r => ?_⟩
          · rw [Bool.and_eq_true] at c
            have c2 := of_decide_eq_true c.2
            refine s_acc (t17.ex a18) rfl (ed_var rfl (dp_ex a18 hr17)) (tp_map tp_row _) (tp_row _) (by rw [List.length_map]; omega) fun H19 P19 _ _ => ⟨f ++ [rowOf p hs], _, _, _, _, _, _, _, rfl, by rw [List.map_append]; exact P19, ?_, by rw [List.length_append, List.length_singleton]; omega, fun r => ?_⟩
            · refine List.nodup_append.mpr ⟨t2, List.nodup_cons.mpr ⟨(fun z => nomatch z), List.nodup_nil⟩, fun a ha b hb e => ?_⟩
              rw [e, List.mem_singleton.mp hb] at ha
              exact c2 ha
            · rw [List.mem_append, t4 r]
              refine ⟨fun h => ?_, fun ⟨m, hm, h1, h2⟩ => ?_⟩
              · rcases h with ⟨m, hm, h1, h2⟩ | h
                · exact ⟨m, by omega, h1, h2⟩
                · refine ⟨n, by omega, ?_, ?_⟩
                  · rw [hz]; exact c.1
                  · rw [hz]; exact List.mem_singleton.mp h
              · by_cases z : m = n
                · subst z
                  rw [hz] at h2
                  exact .inr (List.mem_singleton.mpr h2)
                · exact .inl ⟨m, by omega, h1, h2⟩
          · rw [t4 r]
            refine ⟨fun ⟨m, hm, h1, h2⟩ => ⟨m, by omega, h1, h2⟩, fun ⟨m, hm, h1, h2⟩ => ?_⟩
            by_cases z : m = n
            · subst z
              rw [hz] at h1 h2
              rw [h1, Bool.true_and] at c
              have c' := of_decide_eq_false c
              have c2 : rowOf p hs ∈ f := Decidable.byContradiction fun z => c' z
              rw [← h2] at c2
              exact (t4 r).mp c2
            · exact ⟨m, by omega, h1, h2⟩
    · subst e
      rw [List.length_range] at t3 t4
      have b10 : Ex H H10 := (a1.trans (b3.trans (a4.trans (a5.trans t)))).trans (b8.trans t1.2.1)
      have ne : ∀ r ∈ f, r ≠ [] := fun r hr z => by
        obtain ⟨m, _, _, e⟩ := (t4 r).mp hr
        rw [e] at z
        have := congrArg List.length z
        unfold rowOf at this
        rw [List.length_map] at this
        have e0 : ([] : List Int).length = 0 := rfl
        omega
      have r1 := en_sortedL (K := K) (ed_var (σ := [some x, some y, some vw, some vf, some (.ref pI), some (.int ((2 ^ I.length : Nat) : Int)), c6, some vlow, some vold, some (.ref l), c10, c11, c12, c13, c14, c15]) (i := 9) rfl t1.edp) (ok_row (by omega) ne)
      rw [srt_row, shifts_is t2 fun r => ?_] at r1
      · exact s_retD (ed_tupOf r1) (q.go b10)
      · rw [t4 r]
        unfold rawRows
        rw [List.mem_map]
        refine ⟨fun ⟨m, hm, h1, h2⟩ => ⟨_, List.mem_filter.mpr ⟨(mem_pts ow _ _).mpr ⟨m, by rw [hI]; exact hm, by rw [hI]⟩, h1⟩, h2.symm⟩, fun ⟨hs, hm, e⟩ => ?_⟩
        obtain ⟨h1, h2⟩ := List.mem_filter.mp hm
        obtain ⟨m, h3, h4⟩ := (mem_pts ow _ _).mp h1
        rw [hI] at h3 h4
        exact ⟨m, h3, by rw [h4]; exact h2, by rw [h4]; exact e.symm⟩
end
end Tb
set_option Elab.async false
set_option linter.all false
set_option maxRecDepth 100000
set_option maxHeartbeats 4000000
namespace Tb
open PySem PySem.Spec PyProof.Rows L2 Evl
/-! Lifting and trimming, plainly. -/
theorem zip_lift (W : Wd) (x : Nm) : (liftW W x).ways.zip (liftW W x).heads = (W.ways.zip W.heads).filter fun q => decide (q.1.1 ≠ x) := by
  show ((((W.ways.zip W.heads).filter fun q => decide (q.1.1 ≠ x))).map (·.1)).zip (((W.ways.zip W.heads).filter fun q => decide (q.1.1 ≠ x)).map (·.2)) = _
  generalize (W.ways.zip W.heads).filter (fun q => decide (q.1.1 ≠ x)) = l
  induction l with
  | nil => rfl
  | cons a l ih => rw [List.map_cons, List.map_cons, List.zip_cons_cons, ih]
theorem lift_ways {W : Wd} (o : OkW W) (x : Nm) : (liftW W x).ways = W.ways.filter fun w => decide (w.1 ≠ x) := by
  show ((W.ways.zip W.heads).filter fun q => decide (q.1.1 ≠ x)).map (·.1) = _
  have hl := o.hl
  have e : (W.ways.zip W.heads).map (·.1) = W.ways := List.map_fst_zip (by omega)
  conv => rhs; rw [← e]
  generalize W.ways.zip W.heads = l
  induction l with
  | nil => rfl
  | cons a l ih =>
    rw [List.filter_cons, List.map_cons, List.filter_cons]
    by_cases c : a.1.1 ≠ x
    · rw [if_pos (decide_eq_true c), if_pos (decide_eq_true c), List.map_cons, ih]
    · rw [if_neg (by simpa using c), if_neg (by simpa using c), ih]
theorem okW_lift {W : Wd} (o : OkW W) (x : Nm) : OkW (liftW W x) := by
  have hw := lift_ways o x
  have sub : ∀ w ∈ (liftW W x).ways, w ∈ W.ways := fun w h => by
    rw [hw] at h
    exact (List.mem_filter.mp h).1
  refine ⟨o.nd, o.cl, ?_, fun w h => o.lo w (sub w h), fun q hq => ?_, ?_, o.ps, o.pl, ?_, o.c0⟩
  · unfold liftW
    rw [List.length_map, List.length_map]
  · rw [zip_lift] at hq
    exact o.hd q (List.mem_filter.mp hq).1
  · rw [hw]
    exact o.nn.filter _
  · rw [hw]
    exact Nat.le_trans (List.length_filter_le _ _) o.wl
theorem ok_lift {p : Pc} (o : Ok p) (x : Nm) : Ok (lift p x) := by
  refine ⟨okW_lift o.w x, o.bn, o.bs, o.bl, ?_⟩
  refine o.sz.imp (fun s => ?_) id
  show (liftW p.w x).ways.length ≤ 5
  rw [lift_ways o.w]
  exact Nat.le_trans (List.length_filter_le _ _) s
theorem lift_lt {p : Pc} (o : Ok p) {x : Nm} (h : x ∈ p.w.ways.map (·.1)) : (lift p x).w.ways.length < p.w.ways.length := by
  show (liftW p.w x).ways.length < _
  rw [lift_ways o.w]
  obtain ⟨w, hw, e⟩ := List.mem_map.mp h
  have := filter_lt (p := fun w : Wy => decide (w.1 ≠ x)) (q := fun _ => true) (fun _ _ => rfl) (a := w) (by simp [e]) rfl hw
  rw [List.filter_eq_self.mpr fun _ _ => rfl] at this
  exact this
theorem needless_some {p : Pc} {x : Nm} (h : needless p = some x) : x ∈ p.w.ways.map (·.1) ∧ behav (lift p x) = behav p := by
  unfold needless at h
  obtain ⟨w, hw, rfl⟩ := Option.map_eq_some_iff.mp h
  have hs := List.find?_some hw
  rw [decide_eq_true_eq] at hs
  exact ⟨List.mem_map.mpr ⟨w, List.mem_of_find?_eq_some hw, rfl⟩, hs⟩
theorem needless_none {p : Pc} (h : needless p = none) : ∀ w ∈ p.w.ways, behav (lift p w.1) ≠ behav p := by
  unfold needless at h
  have := List.find?_eq_none.mp (Option.map_eq_none_iff.mp h)
  exact fun w hw e => this w hw (decide_eq_true e)
theorem trimN_more : ∀ (n m : Nat) (p : Pc), Ok p → p.w.ways.length ≤ n → p.w.ways.length ≤ m → trimN n p = trimN m p
  | 0, 0, _, _, _, _ => rfl
  | 0, m + 1, p, o, h, _ => by
    have e : p.w.ways = [] := List.length_eq_zero_iff.mp (by omega)
    unfold trimN
    cases hn : needless p with
    | none => rfl
    | some x =>
      have := (needless_some hn).1
      rw [e] at this
      cases this
  | n + 1, 0, p, o, _, h => by
    have e : p.w.ways = [] := List.length_eq_zero_iff.mp (by omega)
    unfold trimN
    cases hn : needless p with
    | none => rfl
    | some x =>
      have := (needless_some hn).1
      rw [e] at this
      cases this
  | n + 1, m + 1, p, o, h1, h2 => by
    unfold trimN
    cases hn : needless p with
    | none => rfl
    | some x =>
      have lt := lift_lt o (needless_some hn).1
      exact trimN_more n m (lift p x) (ok_lift o x) (by omega) (by omega)
/-- what is known of a trimmed piece -/
theorem trimN_is : ∀ (n : Nat) (p : Pc), Ok p → p.w.ways.length ≤ n → Ok (trimN n p) ∧ needless (trimN n p) = none ∧ behav (trimN n p) = behav p ∧ (trimN n p).border = p.border
  | 0, p, o, h => by
    have e : p.w.ways = [] := List.length_eq_zero_iff.mp (by omega)
    refine ⟨o, ?_, rfl, rfl⟩
    show needless p = none
    unfold needless
    rw [e]
    rfl
  | n + 1, p, o, h => by
    unfold trimN
    cases hn : needless p with
    | none => exact ⟨o, hn, rfl, rfl⟩
    | some x =>
      have s := needless_some hn
      have lt := lift_lt o s.1
      obtain ⟨h1, h2, h3, h4⟩ := trimN_is n (lift p x) (ok_lift o x) (by omega)
      exact ⟨h1, h2, h3.trans s.2, h4⟩
theorem trim_ok {p : Pc} (o : Ok p) : Ok (trim p) := (trimN_is _ p o (Nat.le_refl _)).1
theorem trim_none {p : Pc} (o : Ok p) : needless (trim p) = none := (trimN_is _ p o (Nat.le_refl _)).2.1
theorem trim_beh {p : Pc} (o : Ok p) : behav (trim p) = behav p := (trimN_is _ p o (Nat.le_refl _)).2.2.1
theorem trim_border {p : Pc} (o : Ok p) : (trim p).border = p.border := (trimN_is _ p o (Nat.le_refl _)).2.2.2
theorem trim_of_none {p : Pc} (h : needless p = none) : trim p = p := by
  unfold trim
  cases hn : p.w.ways.length with
  | zero => rfl
  | succ n =>
    unfold trimN
    rw [h]
theorem trim_trim {p : Pc} (o : Ok p) : trim (trim p) = trim p := trim_of_none (trim_none o)
theorem trim_6 {p : Pc} (o : Ok p) : trim p = trimN 6 p := trimN_more _ _ p o (Nat.le_refl _) o.w.wl
theorem trimN_none {n : Nat} {p : Pc} (h : needless p = none) : trimN n p = p := by
  cases n with
  | zero => rfl
  | succ n => unfold trimN; rw [h]
theorem trimN_some {n : Nat} {p : Pc} {x : Nm} (h : needless p = some x) : trimN (n + 1) p = trimN n (lift p x) := by
  show (match needless p with | none => p | some x => trimN n (lift p x)) = _
  rw [h]
/-! ### what the law builds -/
theorem sortS_sorted {l : List Nm} (h : l.Pairwise ltS) : sortS l = l := (PySem.W.sort_unique (tot PyData.str) (h.imp le_str) fun _ => rfl).symm
open PySem.W in
theorem le_way {a b : Wy} (h : ltS a.1 b.1) : dataLe false wayD a b = true := by
  show (!dataLt (wayD b) (wayD a)) = true
  unfold wayD
  rw [dataLt_tuple, dataLt_cons (by simp [alike]), dataLt_str]
  have ne : ¬ PyData.eqv (.str b.1) (.str a.1) = true := by
    simp only [PyData.eqv, beq_iff_eq]
    exact fun z => ltS_ne h z.symm
  rw [if_neg ne]
  have : ¬ b.1.cps.toList < a.1.cps.toList := fun z => List.lt_irrefl _ (List.lt_trans z h)
  rw [decide_eq_false this]
  rfl
theorem sortW_sorted {l : List Wy} (h : l.Pairwise fun a b => ltS a.1 b.1) : sortW l = l := (PySem.W.sort_unique (tot wayD) (h.imp fun {a b} z => le_way z) fun _ => rfl).symm
theorem sort_two {a b : Nm} (h : ltS a b) : sortS [a, b] = [a, b] ∧ sortS [b, a] = [a, b] := by
  have p : [a, b].Pairwise ltS := List.pairwise_cons.mpr ⟨fun x hx => by rw [List.mem_singleton.mp hx]; exact h, List.pairwise_cons.mpr ⟨(fun _ z => nomatch z), List.Pairwise.nil⟩⟩
  have ne := ltS_ne h
  refine ⟨sortS_sorted p, ?_⟩
  refine sort_is anti_str (List.nodup_cons.mpr ⟨fun z => ne (List.mem_singleton.mp z).symm, List.nodup_cons.mpr ⟨(fun z => nomatch z), List.nodup_nil⟩⟩) (List.nodup_cons.mpr ⟨fun z => ne (List.mem_singleton.mp z), List.nodup_cons.mpr ⟨(fun z => nomatch z), List.nodup_nil⟩⟩) (fun x => ?_) (p.imp le_str)
  rw [List.mem_cons, List.mem_singleton, List.mem_cons, List.mem_singleton]
  exact or_comm
theorem sort_ends {w : Wy} {h : Nm} (hl : ltS w.2.1 w.2.2) (hh : h = w.2.1 ∨ h = w.2.2) : sortS [tl w h, h] = [w.2.1, w.2.2] := by
  have ne := ltS_ne hl
  rcases hh with e | e
  · have : tl w h = w.2.2 := by unfold tl; rw [if_neg (by rw [e]; exact ne)]
    rw [this, e]
    exact (sort_two hl).2
  · have : tl w h = w.2.1 := by unfold tl; rw [if_pos e]
    rw [this, e]
    exact (sort_two hl).1
theorem sum_at {l : List (Nm × Int)} (hn : (l.map (·.1)).Nodup) : ∀ q ∈ l, ((l.filter fun r => decide (r.1 = q.1)).map (·.2)).sum = q.2 := by
  have zero : ∀ (m : List (Nm × Int)) (x : Nm), x ∉ m.map (·.1) → m.filter (fun r => decide (r.1 = x)) = [] := fun m x h => List.filter_eq_nil_iff.mpr fun r hr z => h (List.mem_map.mpr ⟨r, hr, of_decide_eq_true z⟩)
  induction l with
  | nil => intro q h; cases h
  | cons a l ih =>
    intro q hq
    rw [List.map_cons] at hn
    obtain ⟨n1, n2⟩ := List.nodup_cons.mp hn
    rw [List.filter_cons]
    rcases List.mem_cons.mp hq with e | hq
    · subst e
      rw [if_pos (by simp), zero l q.1 n1]
      simp
    · rw [if_neg, ih n2 q hq]
      intro z
      have := of_decide_eq_true z
      exact n1 (by rw [this]; exact List.mem_map.mpr ⟨q, hq, rfl⟩)
theorem map_erase {α β : Type} (f : α → β) : ∀ (l : List α) (k : Nat), (l.map f).eraseIdx k = (l.eraseIdx k).map f
  | [], _ => rfl
  | _ :: _, 0 => rfl
  | a :: l, k + 1 => by
    rw [List.map_cons, List.eraseIdx_cons_succ, List.eraseIdx_cons_succ, List.map_cons, map_erase f l k]
theorem erase_filter {α : Type} (key : α → Nm) : ∀ {l : List α} {k : Nat} {a : α}, (l.map key).Nodup → l[k]? = some a → l.eraseIdx k = l.filter fun b => decide (key b ≠ key a)
  | b :: l, 0, a, hn, h => by
    have e : b = a := Option.some.inj h
    subst e
    rw [List.map_cons] at hn
    obtain ⟨n1, n2⟩ := List.nodup_cons.mp hn
    rw [List.eraseIdx_cons_zero, List.filter_cons, if_neg (by simp)]
    refine (List.filter_eq_self.mpr fun c hc => ?_).symm
    rw [decide_eq_true_eq]
    intro z
    refine n1 ?_
    rw [← z]
    exact List.mem_map.mpr ⟨c, hc, rfl⟩
  | b :: l, k + 1, a, hn, h => by
    rw [List.map_cons] at hn
    obtain ⟨n1, n2⟩ := List.nodup_cons.mp hn
    have h' : l[k]? = some a := h
    rw [List.eraseIdx_cons_succ, List.filter_cons, erase_filter key n2 h', if_pos]
    rw [decide_eq_true_eq]
    intro z
    refine n1 ?_
    rw [z]
    exact List.mem_map.mpr ⟨a, List.mem_of_getElem? h', rfl⟩
theorem nd_ltS {l : List Nm} (h : l.Pairwise ltS) : l.Nodup := h.imp ltS_ne
theorem names_nd {W : Wd} (o : OkW W) : (W.ways.map (·.1)).Nodup := nd_ltS (List.pairwise_map.mpr o.nn)
theorem build_lift {W : Wd} (o : OkW W) {k : Nat} {w : Wy} (hk : W.ways[k]? = some w) : buildW W.places ((arrR W).eraseIdx k) (W.places.zip W.crowd) = liftW W w.1 := by
  have hl := o.hl
  have fz : (W.ways.zip W.heads).map (fun q => q.1.1) = W.ways.map (·.1) := by
    have : (W.ways.zip W.heads).map (·.1) = W.ways := List.map_fst_zip (by omega)
    conv => rhs; rw [← this]
    rw [List.map_map]
    rfl
  have hkl : k < W.ways.length := (List.getElem?_eq_some_iff.mp hk).1
  obtain ⟨q, hq⟩ : ∃ q, (W.ways.zip W.heads)[k]? = some q := ⟨_, List.getElem?_eq_getElem (by rw [List.length_zip]; omega)⟩
  have hqw : q.1 = w := Option.some.inj ((zip_at2 hq).1.symm.trans hk)
  have er : (arrR W).eraseIdx k = ((W.ways.zip W.heads).filter fun q => decide (q.1.1 ≠ w.1)).map fun q => (q.1.1, tl q.1 q.2, q.2) := by
    unfold arrR
    rw [map_erase, erase_filter (fun q => q.1.1) (by rw [fz]; exact names_nd o) hq, hqw]
  have sub : ∀ q ∈ (W.ways.zip W.heads).filter (fun q => decide (q.1.1 ≠ w.1)), q ∈ W.ways.zip W.heads := fun q h => (List.mem_filter.mp h).1
  have srt : ((arrR W).eraseIdx k).Pairwise fun a b => ltS a.1 b.1 := by
    rw [er, List.pairwise_map]
    refine List.Pairwise.filter _ ?_
    have h1 : (W.ways.map (·.1)).Pairwise ltS := List.pairwise_map.mpr o.nn
    rw [← fz, List.pairwise_map] at h1
    exact h1
  unfold buildW
  rw [sortW_sorted srt, sortS_sorted o.ps, er]
  unfold liftW
  rw [List.map_map, List.map_map]
  have e1 : List.map ((fun l : Wy => (l.1, (sortS [l.2.1, l.2.2]).getD 0 "", (sortS [l.2.1, l.2.2]).getD 1 "")) ∘ fun q : Wy × Nm => (q.1.1, tl q.1 q.2, q.2)) ((W.ways.zip W.heads).filter fun q => decide (q.1.1 ≠ w.1)) = List.map (·.1) ((W.ways.zip W.heads).filter fun q => decide (q.1.1 ≠ w.1)) := by
    refine List.map_congr_left fun q' h' => ?_
    have hm := sub q' h'
    have lo := o.lo q'.1 (List.of_mem_zip hm).1
    show (q'.1.1, (sortS [tl q'.1 q'.2, q'.2]).getD 0 "", (sortS [tl q'.1 q'.2, q'.2]).getD 1 "") = q'.1
    rw [sort_ends lo.2.2 (o.hd q' hm)]
    rfl
  have e2 : W.places.map (fun x => (((W.places.zip W.crowd).filter fun q => decide (q.1 = x)).map (·.2)).sum) = W.crowd := by
    have nd : ((W.places.zip W.crowd).map (·.1)).Nodup := by rw [fst_zip o.cl]; exact o.nd
    have h1 : (W.places.zip W.crowd).map (fun q => (((W.places.zip W.crowd).filter fun r => decide (r.1 = q.1)).map (·.2)).sum) = (W.places.zip W.crowd).map (·.2) := List.map_congr_left fun q hq => sum_at nd q hq
    have cl := o.cl
    rw [List.map_snd_zip (by omega)] at h1
    conv => lhs; rw [← fst_zip o.cl]
    rw [List.map_map]
    have e3 := fst_zip o.cl
    rw [e3]
    exact h1
  rw [e1, e2]
  rfl
end Tb
set_option Elab.async false
set_option linter.all false
set_option maxRecDepth 100000
set_option maxHeartbeats 4000000
namespace Tb
open PySem PySem.Spec PyProof.Rows L2 Evl
section
variable {K : PySem.W.Frag} {vs : List V} {H : Hp} {Q : VK} {E : XK}
theorem ed_lift {σ : L2.St} {ta tb : TE} {p : Pc} {x : Nm} (o : Ok p) (hx : x ∈ p.w.ways.map (·.1)) (h : EvD K ta σ H (pieceD p)) (h2 : EvD K tb σ H (.str x)) : EvD K (tCall (spLiftWay K) [] E0 (tCons ta (tCons tb tNil))) σ H (pieceD (lift p x)) :=
  ed_call (eds2 h h2) fun vs H2 a2 hv Q' E' r => ⟨p, x, hv, hx, o.w.wl, r⟩
theorem ed_ndl {σ : L2.St} {ta : TE} {p : Pc} (o : Ok p) (h : EvD K ta σ H (pieceD p)) : EvD K (tCall (spNeedlessWay K) [] E0 (tCons ta tNil)) σ H (oD (needless p)) := ed_call (eds1 h) fun vs H2 a2 hv Q' E' r => ⟨p, hv, o, r⟩
theorem lenNeedlessWay (h : spNeedlessWay K vs H Q E) : vs.length = 1 := by
  obtain ⟨_, hd, _⟩ := h
  exact dp_len hd
theorem find_at {α : Type} {f : α → Bool} {l : List α} {i : Nat} {a : α} (h : l[i]? = some a) (h1 : f a = true) (h2 : ∀ (j : Nat) b, j < i → l[j]? = some b → f b = false) : l.find? f = some a := by
  induction l generalizing i with
  | nil => simp at h
  | cons b r ih =>
    rw [List.find?_cons]
    cases i with
    | zero =>
      have e : b = a := by simpa using h
      rw [e, h1]
    | succ i =>
      rw [h2 0 b (by omega) rfl]
      exact ih (by simpa using h) fun j c hj hc => h2 (j + 1) c (by omega) (by simpa using hc)
theorem find_no {α : Type} {f : α → Bool} {l : List α} (h : ∀ (j : Nat) b, l[j]? = some b → f b = false) : l.find? f = none := List.find?_eq_none.mpr fun b hb => by
  obtain ⟨j, hj⟩ := List.getElem?_of_mem hb
  rw [h j b hj]
  simp
theorem readNeedlessWay (h : spNeedlessWay K vs H Q E) : tNeedlessWay K { nx := fun _ H' => Q .non H', rt := Q } (start nNeedlessWay vs) H := by
  obtain ⟨p, hd, o, q⟩ := h
  obtain ⟨x, rfl, hx⟩ := dp1 hd
  show tNeedlessWay K _ [some x, none, none, none, none] H
  refine q_asgD (ed_beh o (ed_var rfl hx)) fun v H1 a1 hv => ?_
  show tSeq _ _ _ [some x, some v, none, none, none] H1
  have hx1 := dp_ex a1 hx
  refine q_forM p.w.ways wayD (iv_tup (ep_i1 (ep_i0 (ep_i0 (ep_var rfl hx1))))) (Ex.refl _) (fun i σ' H' => (∃ a b c, σ' = [some x, some v, a, b, c]) ∧ Ex H1 H' ∧ ∀ (j : Nat) w, j < i → p.w.ways[j]? = some w → decide (behav (lift p w.1) = behav p) = false) (fun H2 a2 => ⟨⟨_, _, _, rfl⟩, a2, fun _ _ z => absurd z (Nat.not_lt_zero _)⟩) (fun _ _ _ t => t.2.1) (fun i w x' σ' H2 H3 hi ⟨⟨_, _, _, e⟩, t1, t2⟩ a3 hx' => ?_) fun σ' H2 ⟨⟨_, _, _, e⟩, t1, t2⟩ => ?_
  · subst e
    refine g_way hx' ?_
    show tIfS _ _ _ _ [some x, some v, some (.str w.1), some (.str w.2.1), some (.str w.2.2)] H3
    have b3 := t1.trans a3
    have hm := List.mem_of_getElem? hi
    have hb : EvD K (tCall (spBehaviour K) [] E0 (tCons (tCall (spLiftWay K) [] E0 (tCons (tVar 0) (tCons (tVar 2) tNil))) tNil)) [some x, some v, some (.str w.1), some (.str w.2.1), some (.str w.2.2)] H3 (behD (behav (lift p w.1))) := ed_beh (ok_lift o w.1) (ed_lift o (List.mem_map.mpr ⟨w, hm, rfl⟩) (ed_var rfl (dp_ex b3 hx1)) (ed_vs rfl))
    refine s_when (et_test (ev_eqB hb (ed_var rfl (dp_ex b3 hv)))) (fun c H4 a4 => ?_) fun c H4 a4 => ⟨⟨_, _, _, rfl⟩, b3.trans a4, fun j u hj hu => ?_⟩
    · have hn : needless p = some w.1 := by
        unfold needless
        rw [find_at hi c t2]
        rfl
      rw [hn] at q
      exact s_retD (ed_vs rfl) (q.go (a1.trans (b3.trans a4)))
    · by_cases z : j = i
      · subst z
        rw [hi] at hu
        cases hu
        exact c
      · exact t2 j u (by omega) hu
  · have hn : needless p = none := by
      unfold needless
      rw [find_no fun j u hu => t2 j u (List.getElem?_eq_some_iff.mp hu).1 hu]
      rfl
    rw [hn] at q
    exact s_retD (ed_ev ev_c .non) (q.go (a1.trans t1))
theorem lenTrim (h : spTrim K vs H Q E) : vs.length = 1 := by
  obtain ⟨_, hd, _⟩ := h
  exact dp_len hd
theorem et_notNone {σ : L2.St} {ta : TE} {v : V} (h : Ev ta σ H v) : EvT (tTest (tOp rNotNone ta (tC .non))) σ H (!decide (v = .non)) := et_test (ev_op h ev_c fun H1 _ Q q => ⟨rfl, q H1 (Ex.refl _)⟩)
theorem et_isNone {σ : L2.St} {ta : TE} {v : V} (h : Ev ta σ H v) : EvT (tTest (tOp rIsNone ta (tC .non))) σ H (decide (v = .non)) := et_test (ev_op h ev_c fun H1 _ Q q => ⟨rfl, q H1 (Ex.refl _)⟩)
theorem readTrim (h : spTrim K vs H Q E) : tTrim K { nx := fun _ H' => Q .non H', rt := Q } (start nTrim vs) H := by
  obtain ⟨p, hd, o, q⟩ := h
  obtain ⟨x, rfl, hx⟩ := dp1 hd
  show tTrim K _ [some x, none, none] H
  refine q_asg (ev_var rfl) fun H1 a1 => ?_
  refine q_asgD (ed_ndl o (ed_var rfl (dp_ex a1 hx))) fun v H2 a2 hv => ?_
  show tSeq _ _ _ [some x, some x, some v] H2
  refine q_while (fun m σ' H' => ∃ (p' : Pc) (y u : V), σ' = [some x, some y, some u] ∧ Ex H H' ∧ Dp K H' y (pieceD p') ∧ Dp K H' u (oD (needless p')) ∧ Ok p' ∧ trim p' = trim p ∧ m = p'.w.ways.length) _ ⟨p, x, v, rfl, a1.trans a2, dp_ex (a1.trans a2) hx, hv, o, rfl, rfl⟩ fun m σ' H3 ⟨p', y, u, e, t1, t2, t3, t4, t5, t6⟩ => ?_
  subst e
  cases hn : needless p' with
  | none =>
    rw [hn] at t3
    have eu := dp_none t3
    subst eu
    refine ⟨false, et_is (et_notNone (v := .non) (ev_var rfl)) (by simp), fun z => (nomatch z), fun _ H4 a4 => ?_⟩
    rw [← t5, trim_of_none hn] at q
    exact s_retD (ed_var rfl (dp_ex a4 t2)) (q.go (t1.trans a4))
  | some nm =>
    rw [hn] at t3
    have eu := dp_str t3
    subst eu
    have s := needless_some hn
    refine ⟨true, et_is (et_notNone (v := .str nm) (ev_var rfl)) (by simp), fun _ H4 a4 => ⟨fun σ' H' => ∃ m', m' < m ∧ ∃ (p' : Pc) (y u : V), σ' = [some x, some y, some u] ∧ Ex H H' ∧ Dp K H' y (pieceD p') ∧ Dp K H' u (oD (needless p')) ∧ Ok p' ∧ trim p' = trim p ∧ m' = p'.w.ways.length, fun _ _ h => h, ?_⟩, fun z => (nomatch z)⟩
    refine q_asgD (ed_lift t4 s.1 (ed_var rfl (dp_ex a4 t2)) (ed_vs rfl)) fun y' H5 a5 hy' => ?_
    show tAsg _ _ _ [some x, some y', some (.str nm)] H5
    refine s_asgD (ed_ndl (ok_lift t4 nm) (ed_var rfl hy')) fun u' H6 a6 hu' => ⟨(lift p' nm).w.ways.length, by rw [t6]; exact lift_lt t4 s.1, lift p' nm, y', u', rfl, t1.trans (a4.trans (a5.trans a6)), dp_ex a6 hy', hu', ok_lift t4 nm, ?_, rfl⟩
    rw [← t5, trim_6 t4, trimN_some hn]
    exact trimN_more _ _ _ (ok_lift t4 nm) (Nat.le_refl _) (by have := lift_lt t4 s.1; have := t4.w.wl; omega)
theorem lenLBuild (h : spLBuild K vs H Q E) : vs.length = 4 := by
  obtain ⟨_, _, _, _, hd, _⟩ := h
  exact dp_len hd
theorem LcP.down {B B' : Hp} {l : Addr} {rs : List PyData} (a : Ex B B') (P : LcP K B' l rs H) : LcP K B l rs H := by
  obtain ⟨n, e, vs, h, hd⟩ := P
  exact ⟨fresh_back a n, a.trans e, vs, h, hd⟩
theorem LcP.fresh_ne {B : Hp} {l : Addr} {rs : List PyData} {c : Addr} (P : LcP K B l rs H) (h : H c = none) : c ≠ l := fun z => by
  obtain ⟨_, _, vs, hv, _⟩ := P
  rw [z, hv] at h
  cases h
theorem LcP.in_ne {B B' : Hp} {l l' : Addr} {rs : List PyData} (P : LcP K B' l' rs H) (P0 : ∃ o, B' l = some o) : l' ≠ l := fun z => by
  obtain ⟨o, ho⟩ := P0
  have := P.1
  rw [z, ho] at this
  cases this
theorem len2 {a b : Nm} : (sortS [a, b]).length = 2 := (sort_perm PyData.str [a, b]).length_eq
theorem sort_len (l : List Nm) : (sortS l).length = l.length := (sort_perm PyData.str l).length_eq
theorem sortW_len (l : List Wy) : (sortW l).length = l.length := (sort_perm wayD l).length_eq
theorem at2 {a b : Nm} {k : Nat} (h : k < 2) : ((sortS [a, b]).map PyData.str)[k]? = some (.str ((sortS [a, b]).getD k "")) := by
  have hl := len2 (a := a) (b := b)
  rw [List.getElem?_map, List.getD_eq_getElem?_getD, List.getElem?_eq_getElem (by omega)]
  rfl
theorem sp_ed {σ : L2.St} {ta : TE} {sp : PyData} (h : EvD K ta σ H sp) {spots : List Nm} (hs : sp = nsD spots ∨ sp = .list (spots.map .str)) (hz : spots.length ≤ 40) : EvN K (tCB (rSortedD K) (tCons ta tNil)) σ H ((sortS spots).map .str) := by
  rw [← srt_str]
  exact en_sorted h hs (ok_str (by omega))
theorem readLBuild (h : spLBuild K vs H Q E) : tLBuild K { nx := fun _ H' => Q .non H', rt := Q } (start nLBuild vs) H := by
  obtain ⟨sp, spots, links, plain, hd, hsp, z1, z2, z3, q⟩ := h
  obtain ⟨x, y, z, w, rfl, hx, hy, hz, hw⟩ := dp4 hd
  show tLBuild K _ [some x, some y, some z, some w, none, none, none, none, none, none, none] H
  refine q_newL (K := K) fun lr H1 P1 => ?_
  refine q_newL (K := K) fun lp H2 P2 => ?_
  show tSeq _ _ _ [some x, some y, some z, some w, some (.ref lr), some (.ref lp), none, none, none, none, none] H2
  have nrp : lp ≠ lr := P1.fresh_ne P2.1
  have P2' := P2.down P1.2.1
  have P1' := P1.ex P2.2.1
  have lw := sortW_len links
  refine q_forL (en_sortedL (ds := links.map wayD) (ed_var rfl (dp_ex P2'.2.1 hy)) (ok_way (by omega))) (fun pp ws i σ' H' => (∃ a b, σ' = [some x, some y, some z, some w, some (.ref lr), some (.ref lp), a, b, none, none, none]) ∧ pp ≠ lr ∧ pp ≠ lp ∧ H' pp = some (.lst ws) ∧ DpAll K H' ws (srtD (links.map wayD)) ∧ LcP K H lr (((sortW links).take i).map fun l => wayD (l.1, (sortS [l.2.1, l.2.2]).getD 0 "", (sortS [l.2.1, l.2.2]).getD 1 "")) H' ∧ LcP K H lp (((sortW links).take i).map fun l => .str l.2.2) H')
    (fun pp ws H3 a3 hn hp hv => ⟨⟨_, _, rfl⟩, P1'.fresh_ne hn, P2.fresh_ne hn, hp, hv, P1'.ex a3, P2'.ex a3⟩) (fun pp ws i σ' H' t => ⟨t.2.2.2.1, t.2.2.2.2.1⟩) (fun pp ws i d x' σ' H3 hi ⟨⟨_, _, e⟩, n1, n2, t1, t2, t3, t4⟩ hx' => ?_) fun pp ws σ' H3 ⟨⟨j6, j7, e⟩, n1, n2, t1, t2, t3, t4⟩ => ?_
  · subst e
    rw [srt_way, List.getElem?_map] at hi
    obtain ⟨l, hl, rfl⟩ := Option.map_eq_some_iff.mp hi
    have hlt := (List.getElem?_eq_some_iff.mp hl).1
    show tSeq _ _ _ [some x, some y, some z, some w, some (.ref lr), some (.ref lp), some x', _, none, none, none] H3
    refine q_asgD (K := K) (d := .list ((sortS [l.2.1, l.2.2]).map .str)) (by
      rw [← srt_str]
      exact (en_sortedL (en_lst (eds2 (ed_i1 (ed_var rfl hx')) (ed_i2 (ed_var rfl hx')))).toD (ok_str (l := [l.2.1, l.2.2]) (by show 2 ≤ 100000; decide))).toD) fun u H4 a4 hu => ?_
    refine q_acc (t3.ex a4) rfl (ed_tup (eds_cons (ed_i0 (ed_var rfl (dp_ex a4 hx'))) (eds2 (ed_ixL (k := 0) (ed_var rfl hu) ev_c (at2 (by decide))) (ed_ixL (k := 1) (ed_var rfl hu) ev_c (at2 (by decide)))))) (tp_map (fun _ => rfl) _) rfl (by rw [List.length_map, List.length_take]; omega) fun H5 P5 o5 t5 => ?_
    have p4' := (t4.ex a4).oth t3.1 o5 nrp t5 (tp_map (fun _ => rfl) _)
    refine s_acc p4' rfl (ed_i2 (ed_var rfl (dp_tx t5 (dp_ex a4 hx') (tp_way _)))) (tp_map (fun _ => rfl) _) rfl (by rw [List.length_map, List.length_take]; omega) fun H6 P6 o6 t6 => ⟨⟨_, _, rfl⟩, n1, n2, o6 _ _ n2 (o5 _ _ n1 (a4 _ _ t1)), dps_tx t6 (dps_tx t5 (dps_ex a4 t2) ?_) ?_, ?_, ?_⟩
    · rw [srt_way]; exact tp_map tp_way _
    · rw [srt_way]; exact tp_map tp_way _
    · rw [take_succ_at hl, List.map_append]
      exact P5.oth t4.1 o6 nrp.symm t6 (tp_app (tp_map (fun _ => rfl) _) rfl)
    · rw [take_succ_at hl, List.map_append]
      exact P6
  · subst e
    rw [srt_way, List.length_map, List.take_length] at t3 t4
    refine q_newL (K := K) fun lc H4 P4 => ?_
    show tSeq _ _ _ [some x, some y, some z, some w, some (.ref lr), some (.ref lp), j6, j7, some (.ref lc), none, none] H4
    have b4 := t3.2.1.trans P4.2.1
    have sl := sort_len spots
    refine q_forL (sp_ed (ed_var rfl (dp_ex b4 hx)) hsp z1) (fun pp ws i σ' H' => (∃ a b c, σ' = [some x, some y, some z, some w, some (.ref lr), some (.ref lp), j6, a, some (.ref lc), b, c]) ∧ pp ≠ lc ∧ H' pp = some (.lst ws) ∧ DpAll K H' ws ((sortS spots).map .str) ∧ LcP K H3 lc (((sortS spots).take i).map fun x : Nm => crD ((plain.filter fun q : Nm × Int => decide (q.1 = x)).map (·.2)).sum) H')
      (fun pp ws H5 a5 hn hp hv => ⟨⟨_, _, _, rfl⟩, P4.fresh_ne hn, hp, hv, P4.ex a5⟩) (fun pp ws i σ' H' t => ⟨t.2.2.1, t.2.2.2.1⟩) (fun pp ws i d x' σ' H5 hi ⟨⟨k7, k9, k10, e⟩, n3, s1, s2, s3⟩ hx' => ?_) fun pp ws σ' H5 ⟨⟨j7, j9, j10, e⟩, n3, s1, s2, s3⟩ => ?_
    · subst e
      rw [List.getElem?_map] at hi
      obtain ⟨st, hst, rfl⟩ := Option.map_eq_some_iff.mp hi
      have hlt := (List.getElem?_eq_some_iff.mp hst).1
      rw [dp_str hx']
      have b5 := t3.2.1.trans s3.2.1
      show tSeq _ _ _ [some x, some y, some z, some w, some (.ref lr), some (.ref lp), j6, k7, some (.ref lc), some (.str st), k10] H5
      refine q_asg (ev_sum (K := K) (ns := (plain.filter fun q => decide (q.1 = st)).map (·.2)) ?_) fun H6 a6 => ?_
      · rw [List.map_map]
        refine en_lcN plain cntD (fun q => decide (q.1 = st)) (fun q => .int q.2) (iv_lst (ep_var rfl (dp_ex b5 hz))).toD (by omega) (by decide) (fun _ _ _ => rfl) fun q' x2 H6 hq a6 hx2 => ⟨et_eqS (es_ (ed_i0 (ed_var rfl hx2))) (ev_var rfl), fun _ => ed_i1 (ed_var rfl hx2)⟩
      · have hom : EvN K (tLc (iList K (tVar 3)) (gName 7) (tTest (tOp rEq (tOp (rIx K) (tVar 7) (tC (.int 1))) (tVar 9))) (tOp (rIx K) (tVar 7) (tC (.int 0))) [7]) [some x, some y, some z, some w, some (.ref lr), some (.ref lp), j6, k7, some (.ref lc), some (.str st), some (.int (((plain.filter fun q => decide (q.1 = st)).map (·.2)).sum))] H6 [] := en_lcN ([] : List Nm) .str (fun _ => true) .str (iv_lst (ep_var (i := 3) rfl (dp_ex (b5.trans a6) hw))).toD (Nat.zero_le _) (by decide) (fun _ z => (nomatch z)) fun _ _ _ z => (nomatch z)
        have hs0 := en_sortedL hom.toD (ok_str (l := []) (Nat.zero_le _))
        rw [show srtD ([] : List PyData) = [] by unfold srtD; simp] at hs0
        refine s_acc (s3.ex a6) rfl (ed_tup (eds2 (ed_vi rfl) (ed_tupOf (ds := []) hs0))) (tp_map (fun _ => rfl) _) rfl (by rw [List.length_map, List.length_take]; omega) fun H7 P7 o7 t7 => ⟨⟨_, _, _, rfl⟩, n3, o7 _ _ n3 (a6 _ _ s1), dps_tx t7 (dps_ex a6 s2) (tp_strs _), ?_⟩
        rw [take_succ_at hst, List.map_append]
        exact P7
    · subst e
      rw [List.length_map, List.take_length] at s3
      have b5 := t3.2.1.trans s3.2.1
      show tRet _ _ [some x, some y, some z, some w, some (.ref lr), some (.ref lp), j6, j7, some (.ref lc), j9, j10] H5
      have e : worldD (buildW spots links plain) = .tuple [.tuple [nsD (sortS spots), .tuple ((sortW links).map fun l => wayD (l.1, (sortS [l.2.1, l.2.2]).getD 0 "", (sortS [l.2.1, l.2.2]).getD 1 ""))], .tuple ((sortW links).map fun l => .str l.2.2), .tuple ((sortS spots).map fun x : Nm => crD ((plain.filter fun q : Nm × Int => decide (q.1 = x)).map (·.2)).sum)] := by
        simp only [worldD, webD, nsD, buildW, List.map_map]
        rfl
      rw [e] at q
      exact s_retD (ed_tup (eds_cons (ed_tup (eds2 (ed_tupOf (sp_ed (ed_var rfl (dp_ex b5 hx)) hsp z1)) (ed_tupOfL (ed_var rfl (t3.ex s3.2.1).edp)))) (eds2 (ed_tupOfL (ed_var rfl (t4.ex s3.2.1).edp)) (ed_tupOfL (ed_var rfl s3.edp))))) (q.go b5)
end
end Tb
set_option Elab.async false
set_option linter.all false
set_option maxRecDepth 100000
set_option maxHeartbeats 4000000
namespace Tb
open PySem PySem.Spec PyProof.Rows L2 Evl
section
variable {K : PySem.W.Frag} {vs : List V} {H : Hp} {Q : VK} {E : XK}
theorem lenLLifted (h : spLLifted K vs H Q E) : vs.length = 2 := by
  obtain ⟨_, _, _, hd, _⟩ := h
  exact dp_len hd
theorem seqI {k n : Nat} (h : k < n) : seqIndex? (k : Int) n = some k := by
  have h1 : ¬ (k : Int) < 0 := by omega
  have h2 : (0 : Int) ≤ k := by omega
  have h3 : (k : Int) < (n : Int) := by omega
  simp [seqIndex?, h1, h2, h3]
theorem dps_erase : ∀ {vs : List V} {ds : List PyData} {k : Nat}, DpAll K H vs ds → DpAll K H (vs.eraseIdx k) (ds.eraseIdx k)
  | _, _, _, .nil => .nil
  | _, _, 0, .cons _ t => t
  | _, _, k + 1, .cons h t => by
    rw [List.eraseIdx_cons_succ, List.eraseIdx_cons_succ]
    exact .cons h (dps_erase t)
theorem readLLifted (h : spLLifted K vs H Q E) : tLLifted K { nx := fun _ H' => Q .non H', rt := Q } (start nLLifted vs) H := by
  obtain ⟨p, k, w, hd, o, hk, q⟩ := h
  obtain ⟨x, y, rfl, hx, hy⟩ := dp2 hd
  rw [dp_int hy]
  have ow := o.w
  have al := arr_len ow
  have hl := ow.hl
  have pl := ow.pl
  have hkl : k < p.w.ways.length := (List.getElem?_eq_some_iff.mp hk).1
  have hal : (arrR p.w).length = p.w.ways.length := by unfold arrR; rw [List.length_map, List.length_zip]; omega
  show tLLifted K _ [some x, some (.int k), none] H
  refine q_asgNL (K := K) (en_call (es := (arrR p.w).map wayD) (eds1 (ep_i0 (ep_var rfl hx)).toD) fun vs H1 a1 hv Q' E' r => ⟨p.w, nsD p.w.heads, hv, .inl rfl, ow.hdok, r⟩) fun l H1 P => ?_
  show tSeq _ _ _ [some x, some (.int k), some (.ref l)] H1
  obtain ⟨pn, pe, ws, hws, hwd⟩ := id P
  have hwl : ws.length = p.w.ways.length := by rw [dp_len hwd, List.length_map, hal]
  have t1 : TX H1 (upd H1 l (.lst (ws.eraseIdx k))) := TX.updL hws
  have P2 : LcP K H l (((arrR p.w).eraseIdx k).map wayD) (upd H1 l (.lst (ws.eraseIdx k))) := by
    refine ⟨pn, Ex.mut pe pn, _, upd_same, ?_⟩
    rw [← map_erase]
    refine dps_tx t1 (dps_erase hwd) ?_
    rw [map_erase]
    exact tp_map tp_way _
  refine ⟨_, rfl, .inl ⟨rfl, ws, sq_of hws⟩, ⟨_, rfl, l, ws, (k : Int), k, ws[k]'(by omega), rfl, rfl, hws, by omega, by omega, ?_, List.getElem?_eq_getElem (by omega), ?_⟩⟩
  · exact seqI (by omega)
  · have hx2 := dp_ex P2.2.1 hx
    have e : pieceD (lift p w.1) = .tuple [worldD (buildW p.w.places ((arrR p.w).eraseIdx k) (p.w.places.zip p.w.crowd)), nsD p.border] := by
      rw [build_lift ow hk]
      rfl
    rw [e] at q
    refine s_retD (ed_tup (eds2 (ed_call (eds_cons (ep_i0 (ep_i0 (ep_i0 (ep_var rfl hx2)))).toD (eds_cons (ed_var rfl P2.edp) (eds2 (en_call (es := (p.w.places.zip p.w.crowd).map cntD) (eds1 (ep_i0 (ep_var rfl hx2)).toD) fun vs H3 a3 hv Q' E' r => ⟨p.w, hv, ow.cl, pl, r⟩).toD (en_lst (ds := []) eds_nil (Nat.zero_le _)).toD))) fun vs H3 a3 hv Q' E' r => ⟨nsD p.w.places, p.w.places, _, _, hv, .inl rfl, by omega, ?_, ?_, r⟩) (ep_i1 (ep_var rfl hx2)).toD)) (q.go P2.2.1)
    · have := List.length_eraseIdx_le (arrR p.w) k
      omega
    · rw [List.length_zip]; omega
theorem lenLBehaviourRow (h : spLBehaviourRow K vs H Q E) : vs.length = 1 := by
  obtain ⟨_, hd, _⟩ := h
  exact dp_len hd
/-- the law's lit set of a number -/
def litN (n m : Nat) : List Int := ((List.range n).filter fun k => decide (m / 2 ^ k % 2 = 1)).map fun k : Nat => (k : Int)
theorem litN_at {n m : Nat} (hn : 1 ≤ n ∧ n ≤ 3) (hm : m < 2 ^ n) : (litSets n)[m]? = some (litN n m) := by
  rcases (show n = 1 ∨ n = 2 ∨ n = 3 by omega) with rfl | rfl | rfl
  · rcases (show m = 0 ∨ m = 1 by omega) with rfl | rfl <;> decide
  · rcases (show m = 0 ∨ m = 1 ∨ m = 2 ∨ m = 3 by omega) with rfl | rfl | rfl | rfl <;> decide
  · rcases (show m = 0 ∨ m = 1 ∨ m = 2 ∨ m = 3 ∨ m = 4 ∨ m = 5 ∨ m = 6 ∨ m = 7 by omega) with rfl | rfl | rfl | rfl | rfl | rfl | rfl | rfl <;> decide
theorem readLBehaviourRow (h : spLBehaviourRow K vs H Q E) : tLBehaviourRow K { nx := fun _ H' => Q .non H', rt := Q } (start nLBehaviourRow vs) H := by
  obtain ⟨p, hd, o, q⟩ := h
  obtain ⟨x, rfl, hx⟩ := dp1 hd
  have bl := o.bl
  show tLBehaviourRow K _ [some x, none, none, none, none] H
  refine q_newL (K := K) fun l H1 P => ?_
  show tSeq _ _ _ [some x, some (.ref l), none, none, none] H1
  have hx1 := dp_ex P.2.1 hx
  have l2 : (litSets p.border.length).length = 2 ^ p.border.length := len_litSets _
  have l8 : 2 ^ p.border.length ≤ 8 := Nat.le_trans (Nat.pow_le_pow_right (by omega) bl.2) (by decide)
  have hidx : Ev (tOp (rIxL K) (tLst (tCons (tC (.int 2)) (tCons (tC (.int 4)) (tCons (tC (.int 8)) tNil)))) (tOp rSubI (tCB (rLenS K) (tCons (tOp (rIxT K) (tVar 0) (tC (.int 1))) tNil)) (tC (.int 1)))) [some x, some (.ref l), none, none, none] H (.int ((2 ^ p.border.length : Nat) : Int)) := by
    refine ei (ed_ixL (k := p.border.length - 1) (ds := [.int 2, .int 4, .int 8]) (en_lst (eds_cons ed_c_int (eds2 ed_c_int ed_c_int)) (by decide)).toD (ev_is (ev_sub (ed_lenT (ep_i1 (ep_var rfl hx)).toD) ev_c) ?_) ?_)
    · refine congrArg V.int ?_
      rw [List.length_map]
      omega
    · rcases (show p.border.length = 1 ∨ p.border.length = 2 ∨ p.border.length = 3 by omega) with e | e | e <;> rw [e] <;> rfl
  refine q_forR (litSets p.border.length) (H := H) (ea1 hidx) (by rw [l2]) (by omega) P.2.1 (fun i σ' H' => (∃ a b c, σ' = [some x, some (.ref l), a, b, c]) ∧ LcP K H l (((litSets p.border.length).take i).map fun s => rowsD (shifts p s)) H') (fun H2 a2 => ⟨⟨_, _, _, rfl⟩, P.ex a2⟩) (fun _ _ _ t => t.2.2.1) (fun i a σ' H2 hi ⟨⟨k2, k3, c4, e⟩, t⟩ => ?_) fun σ' H2 ⟨⟨a2, a3, a4, e⟩, t⟩ => ?_
  · subst e
    have hil : i < 2 ^ p.border.length := by
      have := (List.getElem?_eq_some_iff.mp hi).1
      omega
    have ea : a = litN p.border.length i := Option.some.inj (hi.symm.trans (litN_at bl hil))
    have hx2 := dp_ex t.2.1 hx
    show tSeq _ _ _ [some x, some (.ref l), some (.int (i : Nat)), k3, c4] H2
    refine q_asgD (K := K) (d := .list ((litN p.border.length i).map .int)) ?_ fun u H3 a3 hu => ?_
    · unfold litN
      rw [List.map_map]
      refine (en_lcR1 (List.range p.border.length) (fun k => decide (i / 2 ^ k % 2 = 1)) (fun k : Nat => .int (k : Int)) (ea1 (ed_lenT (ep_i1 (ep_var rfl hx2)).toD)) (by rw [List.length_map, List.length_range]) (by rw [List.length_range]; omega) (by decide) (fun _ => rfl) fun j b H3 hj a3 => ?_).toD
      have hjl : j < p.border.length := by
        have := (List.getElem?_eq_some_iff.mp hj).1
        rw [List.length_range] at this
        exact this
      have ej : j = b := by
        rw [getRange, if_pos hjl] at hj
        exact Option.some.inj hj
      subst ej
      refine ⟨?_, fun _ => ed_vi rfl⟩
      have hpw : EvD K (tOp (rIxL K) (tLst (tCons (tC (.int 1)) (tCons (tC (.int 2)) (tCons (tC (.int 4)) tNil)))) (tVar 4)) ((wipe [some x, some (.ref l), some (.int (i : Nat)), k3, c4] [4]).set 4 (some (.int (j : Nat)))) H3 (.int ((2 ^ j : Nat) : Int)) := ed_ixL (k := j) (ds := [.int 1, .int 2, .int 4]) (en_lst (eds_cons ed_c_int (eds2 ed_c_int ed_c_int)) (by decide)).toD (ev_var rfl) (by
        rcases (show j = 0 ∨ j = 1 ∨ j = 2 by omega) with e | e | e <;> rw [e] <;> rfl)
      have hdiv : Ev (tOp rDivI (tVar 2) (tOp (rIxL K) (tLst (tCons (tC (.int 1)) (tCons (tC (.int 2)) (tCons (tC (.int 4)) tNil)))) (tVar 4))) ((wipe [some x, some (.ref l), some (.int (i : Nat)), k3, c4] [4]).set 4 (some (.int (j : Nat)))) H3 (.int ((i / 2 ^ j : Nat) : Int)) := by
        refine ev_is (ev_op (ev_var rfl) (ei hpw) (rv_I ⟨?_, ?_⟩)) ?_
        · rcases (show j = 0 ∨ j = 1 ∨ j = 2 by omega) with e | e | e <;> rw [e] <;> decide
        · rcases (show j = 0 ∨ j = 1 ∨ j = 2 by omega) with e | e | e <;> rw [e] <;> decide
        · refine congrArg V.int ?_
          rw [Int.fdiv_eq_ediv_of_nonneg _ (Int.natCast_nonneg _)]
          exact (Int.natCast_ediv _ _).symm
      refine et_is (et_eqI (ev_mod2 hdiv) ev_c) ?_
      by_cases z : i / 2 ^ j % 2 = 1
      · rw [z]; rfl
      · rw [decide_eq_false z, decide_eq_false]
        omega
    · rw [ea] at hi
      have lo : LitOk p (litN p.border.length i) := lit_nd _ _ (List.mem_of_getElem? hi)
      refine s_acc (t.ex a3) rfl (ed_call (eds2 (ed_var rfl (dp_ex a3 hx2)) (ed_var rfl hu)) fun vs H4 a4 hv Q' E' r => ⟨p, _, hv, o, lo, r⟩) (tp_map (fun _ => tp_rows _) _) (tp_rows _) (by rw [List.length_map, List.length_take]; omega) fun H4 P4 _ _ => ⟨⟨_, _, _, rfl⟩, ?_⟩
      rw [take_succ_at hi, List.map_append]
      exact P4
  · subst e
    rw [List.take_length] at t
    have e : (behav p).map rowsD = (litSets p.border.length).map fun l => rowsD (shifts p l) := by
      unfold behav
      rw [List.map_map]
      rfl
    have q' := q.go t.2.1
    unfold behD at q'
    rw [e] at q'
    exact s_retD (ed_tupOfL (ed_var rfl t.edp)) q'
theorem ed_behR {σ : L2.St} {ta : TE} {p : Pc} (o : Ok p) (h : EvD K ta σ H (pieceD p)) : EvD K (tCall (spLBehaviourRow K) [] E0 (tCons ta tNil)) σ H (behD (behav p)) := ed_call (eds1 h) fun vs H2 a2 hv Q' E' r => ⟨p, hv, o, r⟩
theorem ed_lifted {σ : L2.St} {ta tb : TE} {p : Pc} {k : Nat} {w : Wy} (o : Ok p) (hk : p.w.ways[k]? = some w) (h : EvD K ta σ H (pieceD p)) (h2 : Ev tb σ H (.int (k : Nat))) : EvD K (tCall (spLLifted K) [] E0 (tCons ta (tCons tb tNil))) σ H (pieceD (lift p w.1)) :=
  ed_call (eds2 h (ed_int h2)) fun vs H2 a2 hv Q' E' r => ⟨p, k, w, hv, o, hk, r⟩
theorem lenLIdleWay (h : spLIdleWay K vs H Q E) : vs.length = 2 := by
  obtain ⟨_, _, hd, _⟩ := h
  exact dp_len hd
theorem findI_at {α : Type} {f : α → Bool} {l : List α} {i : Nat} {a : α} (h : l[i]? = some a) (h1 : f a = true) (h2 : ∀ (j : Nat) b, j < i → l[j]? = some b → f b = false) : l.findIdx? f = some i := by
  induction l generalizing i with
  | nil => simp at h
  | cons b r ih =>
    rw [List.findIdx?_cons]
    cases i with
    | zero =>
      have e : b = a := by simpa using h
      rw [e, h1]
      rfl
    | succ i =>
      rw [h2 0 b (by omega) rfl, ih (by simpa using h) fun j c hj hc => h2 (j + 1) c (by omega) (by simpa using hc)]
      rfl
theorem findI_no {α : Type} {f : α → Bool} {l : List α} (h : ∀ (j : Nat) b, l[j]? = some b → f b = false) : l.findIdx? f = none := by
  induction l with
  | nil => rfl
  | cons b r ih =>
    rw [List.findIdx?_cons, h 0 b rfl, ih fun j c hc => h (j + 1) c (by simpa using hc)]
    rfl
theorem readLIdleWay (h : spLIdleWay K vs H Q E) : tLIdleWay K { nx := fun _ H' => Q .non H', rt := Q } (start nLIdleWay vs) H := by
  obtain ⟨p, b, hd, o, q⟩ := h
  obtain ⟨x, y, rfl, hx, hy⟩ := dp2 hd
  have wl := o.w.wl
  show tSeq _ _ _ [some x, some y, none] H
  refine q_forR p.w.ways (H := H) (σ := [some x, some y, none]) (ea1 (ed_lenT (ep_i1 (ep_i0 (ep_var (i := 0) rfl hx))).toD)) (by rw [List.length_map, o.w.hl]) (by omega) (Ex.refl _) (fun i σ' H' => (∃ a, σ' = [some x, some y, a]) ∧ Ex H H' ∧ ∀ (j : Nat) w, j < i → p.w.ways[j]? = some w → decide (behav (lift p w.1) = b) = false) (fun H2 a2 => ⟨⟨_, rfl⟩, a2, fun _ _ z => absurd z (Nat.not_lt_zero _)⟩) (fun _ _ _ t => t.2.1) (fun i w σ' H2 hi ⟨⟨_, e⟩, t1, t2⟩ => ?_) fun σ' H2 ⟨⟨_, e⟩, t1, t2⟩ => ?_
  · subst e
    show tIfS _ _ _ _ [some x, some y, some (.int (i : Nat))] H2
    have hb : EvD K (tCall (spLBehaviourRow K) [] E0 (tCons (tCall (spLLifted K) [] E0 (tCons (tVar 0) (tCons (tVar 2) tNil))) tNil)) [some x, some y, some (.int (i : Nat))] H2 (behD (behav (lift p w.1))) := ed_behR (ok_lift o w.1) (ed_lifted o hi (ed_var rfl (dp_ex t1 hx)) (ev_var rfl))
    refine s_when (et_test (ev_eqB hb (ed_var rfl (dp_ex t1 hy)))) (fun c H4 a4 => ?_) fun c H4 a4 => ⟨⟨_, rfl⟩, t1.trans a4, fun j u hj hu => ?_⟩
    · have hn : idle p b = some i := findI_at hi c t2
      rw [hn] at q
      exact s_retD (ed_vi rfl) (q.go (t1.trans a4))
    · by_cases z : j = i
      · subst z
        rw [hi] at hu
        cases hu
        exact c
      · exact t2 j u (by omega) hu
  · have hn : idle p b = none := findI_no fun j u hu => t2 j u (List.getElem?_eq_some_iff.mp hu).1 hu
    rw [hn] at q
    exact s_retD (ed_ev ev_c .non) (q.go t1)
theorem idle_needless (p : Pc) : (needless p = none ∧ idle p (behav p) = none) ∨ ∃ k w, p.w.ways[k]? = some w ∧ needless p = some w.1 ∧ idle p (behav p) = some k := by
  unfold needless idle
  generalize (fun w : Wy => decide (behav (lift p w.1) = behav p)) = f
  generalize p.w.ways = l
  induction l with
  | nil => exact .inl ⟨rfl, rfl⟩
  | cons a r ih =>
    rw [List.find?_cons, List.findIdx?_cons]
    cases hf : f a with
    | true => exact .inr ⟨0, a, rfl, rfl, rfl⟩
    | false =>
      rcases ih with ⟨h1, h2⟩ | ⟨k, w, h1, h2, h3⟩
      · refine .inl ⟨h1, ?_⟩
        rw [h2]
        rfl
      · refine .inr ⟨k + 1, w, by simpa using h1, h2, ?_⟩
        rw [h3]
        rfl
theorem lenLTrimmed (h : spLTrimmed K vs H Q E) : vs.length = 1 := by
  obtain ⟨_, hd, _⟩ := h
  exact dp_len hd
theorem readLTrimmed (h : spLTrimmed K vs H Q E) : tLTrimmed K { nx := fun _ H' => Q .non H', rt := Q } (start nLTrimmed vs) H := by
  obtain ⟨p, hd, o, q⟩ := h
  obtain ⟨x, rfl, hx⟩ := dp1 hd
  show tLTrimmed K _ [some x, none, none, none] H
  refine q_asgD (ed_behR o (ed_var rfl hx)) fun v H1 a1 hv => ?_
  show tSeq _ _ _ [some x, some v, none, none] H1
  refine q_forR (List.range 6) (H := H) (ea1 ev_c) (by rw [List.length_range]; rfl) (by rw [List.length_range]; decide) a1 (fun i σ' H' => ∃ (p' : Pc) (y : V) (a b : Option V), σ' = [some y, some v, a, b] ∧ Ex H1 H' ∧ Dp K H' y (pieceD p') ∧ Ok p' ∧ behav p' = behav p ∧ trim p' = trim p ∧ (p'.w.ways.length + i ≤ 6)) (fun H2 a2 => ⟨p, x, _, _, rfl, a2, dp_ex (a1.trans a2) hx, o, rfl, rfl, o.w.wl⟩) (fun i σ' H' ⟨_, _, _, _, _, t, _⟩ => a1.trans t) (fun i a σ' H2 hi ⟨p', y, a0, b0, e, t1, t2, t3, t4, t5, t6⟩ => ?_) fun σ' H2 ⟨p', y, a0, b0, e, t1, t2, t3, t4, t5, t6⟩ => ?_
  · subst e
    have hi6 : i < 6 := by
      have := (List.getElem?_eq_some_iff.mp hi).1
      rw [List.length_range] at this
      exact this
    show tSeq _ _ _ [some y, some v, some (.int (i : Nat)), _] H2
    have hv2 := dp_ex t1 hv
    refine q_asgD (K := K) (d := iD (idle p' (behav p))) (ed_call (eds2 (ed_var rfl t2) (ed_var rfl hv2)) fun vs H4 a4 hv Q' E' r => ⟨p', _, hv, t3, r⟩) fun u H3 a3 hu => ?_
    show tSeq _ _ _ [some y, some v, some (.int (i : Nat)), some u] H3
    rw [← t4] at hu
    rcases idle_needless p' with ⟨h1, h2⟩ | ⟨k, w, h1, h2, h3⟩
    · rw [h2] at hu
      rw [dp_none hu]
      refine q_when (et_isNone (v := .non) (ev_var rfl)) (fun _ H4 a4 => ?_) fun z => by simp at z
      rw [← t5, trim_of_none h1] at q
      exact s_retD (ed_var rfl (dp_ex (a3.trans a4) t2)) (q.go (a1.trans (t1.trans (a3.trans a4))))
    · rw [h3] at hu
      have hm : w.1 ∈ p'.w.ways.map (·.1) := List.mem_map.mpr ⟨w, List.mem_of_getElem? h1, rfl⟩
      rw [dp_int hu]
      refine q_when (et_isNone (v := .int (k : Nat)) (ev_var rfl)) (fun z => by simp at z) fun _ H4 a4 => ?_
      refine s_asgD (ed_lifted t3 h1 (ed_var rfl (dp_ex (a3.trans a4) t2)) (ev_var rfl)) fun y' H5 a5 hy' => ⟨lift p' w.1, y', _, _, rfl, t1.trans (a3.trans (a4.trans a5)), hy', ok_lift t3 _, (needless_some h2).2.trans t4, ?_, ?_⟩
      · rw [← t5, trim_6 t3, trimN_some h2]
        exact trimN_more _ _ _ (ok_lift t3 _) (Nat.le_refl _) (by have := lift_lt t3 hm; omega)
      · have := lift_lt t3 hm
        omega
  · subst e
    rw [List.length_range] at t6
    have e0 : p'.w.ways = [] := List.length_eq_zero_iff.mp (by omega)
    have hn : needless p' = none := by
      unfold needless
      rw [e0]
      rfl
    rw [← t5, trim_of_none hn] at q
    exact s_retD (ed_var rfl t2) (q.go (a1.trans t1))
end
end Tb
set_option Elab.async false
set_option linter.all false
set_option maxRecDepth 100000
set_option maxHeartbeats 4000000
namespace Tb
open PySem PySem.Spec PyProof.Rows L2 Evl
section
variable {K : PySem.W.Frag} {vs : List V} {H : Hp} {Q : VK} {E : XK}
variable {D : Ends} {tu tw tz : TS} {t : TT} {σ : L2.St} {te ta tb : TE} {tas : TA}
/-! ### the store -/
theorem q_whenR {M : L2.St → Hp → Prop} {b : Bool} (hr : ∀ σ' H', M σ' H' → tz D σ' H') (h : EvT t σ H b) (h1 : (∀ σ' H', M σ' H' → tz D σ' H') → b = true → ∀ H1, Ex H H1 → tu { D with nx := tz D } σ H1) (h2 : b = false → ∀ H1, Ex H H1 → M σ H1) : tSeq (tIfS t tu tNext) tz D σ H :=
  q_when h (h1 hr) fun c H1 a => hr _ _ (h2 c H1 a)
theorem rInt_ev {n : Int} (h : Ev ta σ H (.int n)) : Ev (tCB rInt1 (tCons ta tNil)) σ H (.int n) := fun H1 a Q q => h H1 a _ fun H2 b => .inl ⟨n, rfl, q H2 b⟩
theorem lenLStore (h : spLStore K vs H Q E) : vs.length = 1 := by
  obtain ⟨_, _, rfl, _⟩ := h
  rfl
theorem dps_of_ints : ∀ xs : List Int, DpAll K H (xs.map V.int) (xs.map .int)
  | [] => .nil
  | x :: xs => .cons (.int x) (dps_of_ints xs)
theorem readLStore (h : spLStore K vs H Q E) : tLStore K { nx := fun _ H' => Q .non H', rt := Q } (start nLStore vs) H := by
  obtain ⟨a, ns, rfl, hs, hz, q⟩ := h
  show tLStore K _ [some (.ref a), none] H
  have hd : Dp K H (.ref a) (.list (ns.map .int)) := .lst hs (dps_of_ints ns)
  have n1 : EvN K (tLc (iList K (tVar 0)) (gName 1) tYes (tCB rInt1 (tCons (tVar 1) tNil)) [1]) [some (.ref a), none] H (ns.map .int) := en_lcN0 ns .int .int (iv_lst (ep_var rfl hd)).toD (by omega) (by decide) (fun _ _ => rfl) fun n x' H1 hn a1 hx' => by
    rw [dp_int hx']
    exact ed_int (rInt_ev (ev_var rfl))
  unfold tLStore tRet tLst tCons
  refine n1 H (Ex.refl _) _ fun p ws H1 a1 hn1 hp1 hd1 => ?_
  rw [dps_ints hd1] at hp1
  refine ⟨sz_of (by simp only [List.length_cons, List.length_nil]; omega), fun s hs1 => q s _ (a1.trans (Ex.new hs1)) (fresh_back a1 hs1) ⟨p, ns, 0, 0, 0, 0, upd_same, ?_, hz, by omega, by omega, by omega, by omega, by omega⟩⟩
  rw [upd_ne fun z => by rw [z, hs1] at hp1; cases hp1]
  exact hp1
theorem lenLTake (h : spLTake K vs H Q E) : vs.length = 2 := by
  obtain ⟨_, _, rfl, _⟩ := h
  rfl
theorem ev_at {s : Addr} {xs : List V} {v : V} {k : Nat} (h : Ev ta σ H (.ref s)) (hs : H s = some (.lst xs)) (hi : Ev tb σ H (.int (k : Nat))) (hk : xs[k]? = some v) : Ev (tOp (rIxL K) ta tb) σ H v := ev_op h hi (rv_ixL (sq_of hs) (at_nat hk))
/-- the store's words, one by one -/
def StX (H : Hp) (s c : Addr) (ns : List Int) (a b d e : Int) : Prop := H s = some (.lst [.ref c, .int a, .int b, .int d, .int e]) ∧ H c = some (.lst (ns.map .int)) ∧ ns.length ≤ 63 ∧ 0 ≤ a ∧ 0 ≤ b ∧ b < 1000003 ∧ 0 ≤ d ∧ 0 ≤ e
theorem StX.sto {s c : Addr} {ns : List Int} {a b d e : Int} (h : StX H s c ns a b d e) : StO H s := ⟨c, ns, a, b, d, e, h⟩
theorem StX.ne {s c : Addr} {ns : List Int} {a b d e : Int} (h : StX H s c ns a b d e) : c ≠ s := fun z => by
  have h1 := h.1
  have h2 := h.2.1
  rw [z, h1] at h2
  have h3 := HO.lst.inj (Option.some.inj h2)
  cases ns with
  | nil => cases h3
  | cons n r => cases h3
theorem StX.ex {H' : Hp} {s c : Addr} {ns : List Int} {a b d e : Int} (h : StX H s c ns a b d e) (x : Ex H H') : StX H' s c ns a b d e := ⟨x _ _ h.1, x _ _ h.2.1, h.2.2⟩
theorem StX.put {s c : Addr} {ns : List Int} {a b d e a' b' d' e' : Int} (h : StX H s c ns a b d e) (r : 0 ≤ a' ∧ 0 ≤ b' ∧ b' < 1000003 ∧ 0 ≤ d' ∧ 0 ≤ e') : StX (upd H s (.lst [.ref c, .int a', .int b', .int d', .int e'])) s c ns a' b' d' e' := ⟨upd_same, by rw [upd_ne h.ne]; exact h.2.1, h.2.2.1, r⟩
theorem StX.exS {H' : Hp} {s c : Addr} {ns ns' : List Int} {a b d e a' b' d' e' : Int} (h : StX H s c ns a b d e) (h' : StX H' s c ns' a' b' d' e') (o : Oth s H H') : ExS s H H' := ⟨o, h'.sto, fun c2 r e2 => by
  rw [h.1] at e2
  have := HO.lst.inj (Option.some.inj e2)
  obtain ⟨e3, _⟩ := List.cons.inj this
  cases e3
  exact ⟨_, h'.1⟩⟩
theorem fmod_rng (x : Int) {m : Int} (h : 0 < m) : 0 ≤ x.fmod m ∧ x.fmod m < m := ⟨Int.fmod_nonneg_of_pos x h, Int.fmod_lt_of_pos x h⟩
theorem readLTake (h : spLTake K vs H Q E) : tLTake K { nx := fun _ H' => Q .non H', rt := Q } (start nLTake vs) H := by
  obtain ⟨s, n, rfl, ⟨c, ns, a, b, d, e, S⟩, hn, q⟩ := h
  have S0 : StX H s c ns a b d e := S
  show tLTake K _ [some (.ref s), some (.int n), none, none, none, none] H
  refine q_when (et_lt (ev_var rfl) ev_c) (fun c1 H1 a1 => ?_) fun c1 H1 a1 => ?_
  · have := of_decide_eq_true c1
    exact s_ret ev_c fun H2 a2 => q 0 H2 (StX.exS S (StX.ex S (a1.trans a2)) (Oth.ex (a1.trans a2))) (by omega) (by omega) (by omega)
  have hn2 : 2 ≤ n := by
    have := of_decide_eq_false c1
    omega
  have S1 : StX H1 s c ns a b d e := StX.ex S a1
  show tSeq _ _ _ [some (.ref s), some (.int n), none, none, none, none] H1
  refine q_whenR (M := fun σ' H' => ∃ (j : Option V) (a b d e : Int), σ' = [some (.ref s), some (.int n), j, none, none, none] ∧ StX H' s c ns a b d e ∧ Oth s H1 H') (fun σ' H2 ⟨j, a, b, d, e, es, S, o⟩ => ?_) (b := decide (d = 0) && decide (a < (ns.length : Int))) (et_and (et_eqI (ev_at (k := 3) (ev_var rfl) S1.1 ev_c rfl) ev_c) fun _ => et_lt (ev_at (k := 1) (ev_var rfl) S1.1 ev_c rfl) ?_) (fun hr c2 H2 a2 => ?_) fun c2 H2 a2 => ⟨_, a, b, d, e, rfl, S1.ex a2, Oth.ex a2⟩
  · subst es
    refine q_when (et_gt (ev_at (k := 3) (ev_var rfl) S.1 ev_c rfl) ev_c) (fun c3 H3 a3 => ?_) fun c3 H3 a3 => ?_
    · have hd : 0 < d := of_decide_eq_true c3
      have S3 := S.ex a3
      have r := fmod_rng d (m := n) (by omega)
      refine q_asg (ev_op (rInt_ev (ev_at (k := 3) (ev_var rfl) S3.1 ev_c rfl)) (ev_var rfl) (rv_I (show n ≠ 0 by omega))) fun H4 a4 => ?_
      have S4 := S3.ex a4
      refine q_setL (j := 3) S4.1 (ev_op (ev_at (k := 3) (ev_var rfl) S4.1 ev_c rfl) (ev_var rfl) (rv_I ⟨show n ≠ 0 by omega, by omega⟩)) (ev_var rfl) ev_c (by simp only [List.length_cons, List.length_nil]; omega) fun H5 a5 => ?_
      have S5 : StX _ s c ns a b (d.fdiv n) e := (S4.ex a5).put ⟨S.2.2.2.1, S.2.2.2.2.1, S.2.2.2.2.2.1, Int.fdiv_nonneg (by omega) (by omega), S.2.2.2.2.2.2.2⟩
      refine s_ret (ev_var rfl) fun H6 a6 => q _ H6 (StX.exS S0 (S5.ex a6) ((Oth.ex a1).trans (o.trans ((Oth.ex (a3.trans (a4.trans a5))).trans (Oth.upd_.trans (Oth.ex a6)))))) r.1 (fun _ => r.2) fun z => absurd z (by omega)
    · have S3 := S.ex a3
      show tSeq _ _ _ [some (.ref s), some (.int n), j, none, none, none] H3
      refine q_setL (j := 4) S3.1 (ev_add (ev_at (k := 4) (ev_var rfl) S3.1 ev_c rfl) ev_c) (ev_var rfl) ev_c (by simp only [List.length_cons, List.length_nil]; omega) fun H5 a5 => ?_
      have S5 : StX _ s c ns a b d (e + 1) := (S3.ex a5).put ⟨S.2.2.2.1, S.2.2.2.2.1, S.2.2.2.2.2.1, S.2.2.2.2.2.2.1, by have := S.2.2.2.2.2.2.2; omega⟩
      have f := fmod_rng (b * 7919 + (e + 1) * 104729 + 17) (m := 1000003) (by decide)
      refine q_asg (ev_op (rInt_ev (ev_add (ev_add (ev_op (ev_at (k := 2) (ev_var rfl) S5.1 ev_c rfl) ev_c (rv_I (.inr ⟨by decide, by decide⟩))) (ev_op (ev_at (k := 4) (ev_var rfl) S5.1 ev_c rfl) ev_c (rv_I (.inr ⟨by decide, by decide⟩)))) ev_c)) ev_c (rv_I (by decide))) fun H6 a6 => ?_
      generalize (b * 7919 + (e + 1) * 104729 + 17).fmod 1000003 = f0 at f
      show tSeq _ _ _ [some (.ref s), some (.int n), j, none, some (.int f0), none] H6
      refine q_asg (ev_op (rInt_ev (ev_add (ev_op (ev_add (ev_var rfl) ev_c) (ev_add (ev_op (ev_var rfl) ev_c (rv_I ⟨by decide, by decide⟩)) ev_c) (rv_I (.inl ⟨by omega, by omega⟩))) (ev_var rfl))) ev_c (rv_I (by decide))) fun H7 a7 => ?_
      have r := fmod_rng (((f0 + 101) * (f0.fdiv 1000 + 37) + f0).fmod 999983) (m := n) (by omega)
      refine s_ret (ev_op (rInt_ev (ev_var rfl)) (ev_var rfl) (rv_I (show n ≠ 0 by omega))) fun H8 a8 => q _ H8 (StX.exS S0 (S5.ex (a6.trans (a7.trans a8))) ((Oth.ex a1).trans (o.trans ((Oth.ex (a3.trans a5)).trans (Oth.upd_.trans (Oth.ex (a6.trans (a7.trans a8)))))))) r.1 (fun _ => r.2) fun z => absurd z (by omega)
  · have q1 : Ev (tOp (rIxL K) (tVar 0) (tC (.int 0))) [some (.ref s), some (.int n), none, none, none, none] H1 (.ref c) := ev_at (k := 0) (ev_var rfl) S1.1 ev_c rfl
    refine ev_is (ev_len q1 (sq_of S1.2.1)) (by rw [List.length_map])
  · rw [Bool.and_eq_true] at c2
    have d0 := of_decide_eq_true c2.1
    have al := of_decide_eq_true c2.2
    have S2 := S1.ex a2
    obtain ⟨k, rfl⟩ := Int.eq_ofNat_of_zero_le S2.2.2.2.1
    have hk : k < ns.length := by omega
    have q1 : Ev (tOp (rIxL K) (tVar 0) (tC (.int 0))) [some (.ref s), some (.int n), none, none, none, none] H2 (.ref c) := ev_at (k := 0) (ev_var rfl) S2.1 ev_c rfl
    refine q_asg (ev_at (k := k) q1 S2.2.1 (ev_at (k := 1) (ev_var rfl) S2.1 ev_c rfl) (map_at (List.getElem?_eq_getElem hk))) fun H3 a3 => ?_
    generalize ns[k] = cell
    have S3 := S2.ex a3
    show tSeq _ _ _ [some (.ref s), some (.int n), some (.int cell), none, none, none] H3
    refine q_setL (j := 1) S3.1 (ev_add (ev_at (k := 1) (ev_var rfl) S3.1 ev_c rfl) ev_c) (ev_var rfl) ev_c (by simp only [List.length_cons, List.length_nil]; omega) fun H4 a4 => ?_
    have S4 : StX _ s c ns ((k : Int) + 1) b d e := (S3.ex a4).put ⟨by omega, S1.2.2.2.2.1, S1.2.2.2.2.2.1, S1.2.2.2.2.2.2.1, S1.2.2.2.2.2.2.2⟩
    refine q_setL (j := 2) S4.1 (ev_op (rInt_ev (ev_add (ev_add (ev_op (ev_at (k := 2) (ev_var rfl) S4.1 ev_c rfl) ev_c (rv_I (.inr ⟨by decide, by decide⟩))) (ev_var rfl)) ev_c)) ev_c (rv_I (by decide))) (ev_var rfl) ev_c (by simp only [List.length_cons, List.length_nil]; omega) fun H5 a5 => ?_
    have f := fmod_rng (b * 31 + cell + 5) (m := 1000003) (by decide)
    have S5 : StX _ s c ns ((k : Int) + 1) ((b * 31 + cell + 5).fmod 1000003) d e := (S4.ex a5).put ⟨by omega, f.1, f.2, S1.2.2.2.2.2.2.1, S1.2.2.2.2.2.2.2⟩
    generalize (b * 31 + cell + 5).fmod 1000003 = b' at f S5
    refine s_when (et_ge (a := cell) (b := 1000000000000000000) (ev_var rfl) (ev_is (ev_op ev_c ev_c (rv_I ⟨by decide, by decide, by decide⟩)) (by decide))) (fun c3 H6 a6 => ?_) fun c3 H6 a6 => ?_
    · have hc := of_decide_eq_true c3
      have S6 := S5.ex a6
      refine s_setL (j := 3) S6.1 (ev_var (v := .int cell) rfl) (ev_var rfl) ev_c (by simp only [List.length_cons, List.length_nil]; omega) fun H7 a7 => ?_
      have S7 : StX _ s c ns ((k : Int) + 1) b' cell e := (S6.ex a7).put ⟨by omega, f.1, f.2, by omega, S1.2.2.2.2.2.2.2⟩
      exact hr _ _ ⟨_, _, _, _, _, rfl, S7, (Oth.ex (a2.trans (a3.trans a4))).trans (Oth.upd_.trans ((Oth.ex a5).trans (Oth.upd_.trans ((Oth.ex (a6.trans a7)).trans Oth.upd_))))⟩
    · exact hr _ _ ⟨_, _, _, _, _, rfl, S5.ex a6, (Oth.ex (a2.trans (a3.trans a4))).trans (Oth.upd_.trans ((Oth.ex a5).trans (Oth.upd_.trans (Oth.ex a6))))⟩
end
end Tb
set_option Elab.async false
set_option linter.all false
set_option maxRecDepth 100000
set_option maxHeartbeats 4000000
namespace Tb
open PySem PySem.Spec PyProof.Rows L2 Evl
section
variable {K : PySem.W.Frag} {vs : List V} {H : Hp} {Q : VK} {E : XK}
variable {D : Ends} {tu tw tz : TS} {t : TT} {σ : L2.St} {te ta tb : TE} {tas : TA} {s : Addr} {H1 H2 : Hp} {P P' : V → Prop}
/-! ### evaluation that may draw -/
theorem StO.ex (h : StO H s) (e : Ex H H1) : StO H1 s := by
  obtain ⟨c, ns, a, b, d, e', S⟩ := h
  exact ⟨c, ns, a, b, d, e', StX.ex S e⟩
theorem ExS.refl (h : StO H s) : ExS s H H := ⟨fun _ _ _ e => e, h, fun _ r e => ⟨r, e⟩⟩
theorem ExS.trans (a : ExS s H H1) (b : ExS s H1 H2) : ExS s H H2 := ⟨Oth.trans a.1 b.1, b.2.1, fun c r e => by
  obtain ⟨r1, e1⟩ := a.2.2 c r e
  exact b.2.2 c r1 e1⟩
theorem ExS.of (h : StO H s) (e : Ex H H1) : ExS s H H1 := ⟨Oth.ex e, h.ex e, fun c r h => ⟨r, e _ _ h⟩⟩
theorem ExS.exR (a : ExS s H H1) (e : Ex H1 H2) : ExS s H H2 := a.trans (ExS.of a.2.1 e)
def EvS (s : Addr) (te : TE) (σ : L2.St) (H : Hp) (P : V → Prop) : Prop := ∀ H1, ExS s H H1 → ∀ Q : VK, (∀ v H2, ExS s H1 H2 → P v → Q v H2) → te σ H1 Q
def IsI (A : Int → Prop) (v : V) : Prop := ∃ i, v = .int i ∧ A i
def IsS (A : Str → Prop) (v : V) : Prop := ∃ i, v = .str i ∧ A i
theorem EvS.imp (h : EvS s te σ H P) (k : ∀ v, P v → P' v) : EvS s te σ H P' := fun H1 a Q q => h H1 a Q fun v H2 b p => q v H2 b (k v p)
theorem EvS.mono (h : EvS s te σ H P) (a : ExS s H H1) : EvS s te σ H1 P := fun H2 b Q q => h H2 (a.trans b) Q q
theorem evs_c {v : V} : EvS s (tC v) σ H (fun w => w = v) := fun H1 a _ q => q _ H1 (ExS.refl a.2.1) rfl
theorem evs_v {i : Nat} {v : V} (h : σ[i]? = some (some v)) : EvS s (tVar i) σ H (fun w => w = v) := fun H1 a _ q => ⟨v, h, q v H1 (ExS.refl a.2.1) rfl⟩
theorem evs_ci {n : Int} : EvS s (tC (.int n)) σ H (IsI fun i => i = n) := evs_c.imp fun v e => ⟨n, e, rfl⟩
theorem evs_vi {i : Nat} {n : Int} (h : σ[i]? = some (some (.int n))) : EvS s (tVar i) σ H (IsI fun i => i = n) := (evs_v h).imp fun v e => ⟨n, e, rfl⟩
theorem evs_cs {n : Str} : EvS s (tC (.str n)) σ H (IsS fun i => i = n) := evs_c.imp fun v e => ⟨n, e, rfl⟩
theorem evs_vs {i : Nat} {n : Str} (h : σ[i]? = some (some (.str n))) : EvS s (tVar i) σ H (IsS fun i => i = n) := (evs_v h).imp fun v e => ⟨n, e, rfl⟩
theorem evs_int {A : Int → Prop} {n : Int} (h : ∀ H1, ExS s H H1 → Ev te σ H1 (.int n)) (hA : A n) : EvS s te σ H (IsI A) := fun H1 a Q q => h H1 a H1 (Ex.refl _) Q fun H2 b => q _ H2 (ExS.of a.2.1 b) ⟨n, rfl, hA⟩
theorem evs_add {A B C : Int → Prop} (h : EvS s ta σ H (IsI A)) (h2 : EvS s tb σ H (IsI B)) (k : ∀ i j, A i → B j → C (i + j)) : EvS s (tOp rAddI ta tb) σ H (IsI C) := fun H1 a Q q =>
  h H1 a _ fun v H2 b ⟨i, e, ai⟩ => h2 H2 (a.trans b) _ fun w H3 c ⟨j, e2, bj⟩ => ⟨i, j, e, e2, q _ H3 (b.trans c) ⟨_, rfl, k i j ai bj⟩⟩
theorem evs_sub {A B C : Int → Prop} (h : EvS s ta σ H (IsI A)) (h2 : EvS s tb σ H (IsI B)) (k : ∀ i j, A i → B j → C (i - j)) : EvS s (tOp rSubI ta tb) σ H (IsI C) := fun H1 a Q q =>
  h H1 a _ fun v H2 b ⟨i, e, ai⟩ => h2 H2 (a.trans b) _ fun w H3 c ⟨j, e2, bj⟩ => ⟨i, j, e, e2, q _ H3 (b.trans c) ⟨_, rfl, k i j ai bj⟩⟩
theorem evs_take {i : Nat} {A : Int → Prop} (hs : σ[i]? = some (some (.ref s))) (h : EvS s ta σ H (IsI A)) (hn : ∀ n, A n → n ≤ 1000) : EvS s (tCall (spLTake K) [] E0 (tCons (tVar i) (tCons ta tNil))) σ H (IsI fun r => ∃ n, A n ∧ 0 ≤ r ∧ (2 ≤ n → r < n) ∧ (n < 2 → r = 0)) := fun H1 a Q q =>
  ⟨_, hs, h H1 a _ fun v H2 b ⟨n, e, an⟩ => ⟨s, n, by rw [e]; rfl, b.2.1, hn n an, fun r H3 c r1 r2 r3 => q _ H3 (b.trans c) ⟨r, rfl, n, an, r1, r2, r3⟩⟩⟩
/-- a draw below a known number -/
theorem evs_below {i : Nat} {n : Int} (hs : σ[i]? = some (some (.ref s))) (h : EvS s ta σ H (IsI fun i => i = n)) (hn : 1 ≤ n) (hn2 : n ≤ 1000) : EvS s (tCall (spLTake K) [] E0 (tCons (tVar i) (tCons ta tNil))) σ H (IsI fun r => 0 ≤ r ∧ r < n) :=
  (evs_take hs h fun m e => by omega).imp fun v ⟨r, e, m, em, r1, r2, r3⟩ => ⟨r, e, r1, by omega⟩
theorem evs_range {i : Nat} {lo hi : Int} (hs : σ[i]? = some (some (.ref s))) (h : EvS s ta σ H (IsI fun i => i = lo)) (h2 : EvS s tb σ H (IsI fun i => i = hi)) (hl : lo ≤ hi) (hz : hi - lo ≤ 900) : EvS s (tCall (spLRange K) [] E0 (tCons (tVar i) (tCons ta (tCons tb tNil)))) σ H (IsI fun r => lo ≤ r ∧ r ≤ hi) := fun H1 a Q q =>
  ⟨_, hs, h H1 a _ fun v H2 b ⟨n, e, an⟩ => h2 H2 (a.trans b) _ fun w H3 c ⟨m, e2, am⟩ => ⟨s, lo, hi, by rw [e, e2, an, am]; rfl, c.2.1, hl, hz, fun r H4 d r1 r2 => q _ H4 (b.trans (c.trans d)) ⟨r, rfl, r1, r2⟩⟩⟩
theorem evs_upto {i : Nat} {lo hi : Int} (hs : σ[i]? = some (some (.ref s))) (h : EvS s ta σ H (IsI fun i => i = lo)) (h2 : EvS s tb σ H (IsI fun i => i = hi)) (hl : lo ≤ hi) (hz : hi - lo ≤ 900) : EvS s (tCall (spLUpto K) [] E0 (tCons (tVar i) (tCons ta (tCons tb tNil)))) σ H (IsI fun r => lo ≤ r ∧ r ≤ hi) := fun H1 a Q q =>
  ⟨_, hs, h H1 a _ fun v H2 b ⟨n, e, an⟩ => h2 H2 (a.trans b) _ fun w H3 c ⟨m, e2, am⟩ => ⟨s, lo, hi, by rw [e, e2, an, am]; rfl, c.2.1, hl, hz, fun r H4 d r1 r2 => q _ H4 (b.trans (c.trans d)) ⟨r, rfl, r1, r2⟩⟩⟩
theorem evs_name {i : Nat} (hs : σ[i]? = some (some (.ref s))) : EvS s (tCall (spLName K) [] E0 (tCons (tVar i) tNil)) σ H (IsS fun x => x.length ≤ 8) := fun H1 a Q q =>
  ⟨_, hs, s, rfl, a.2.1, fun x H2 b hx => q _ H2 b ⟨x, rfl, hx⟩⟩
theorem s_retS (st : StO H s) (h : EvS s te σ H P) (k : ∀ v H1, ExS s H H1 → P v → D.rt v H1) : tRet te D σ H := h H (ExS.refl st) _ k
theorem q_asgS {i : Nat} (st : StO H s) (h : EvS s te σ H P) (k : ∀ v H1, ExS s H H1 → P v → tz D (σ.set i (some v)) H1) : tSeq (tAsg te (gName i)) tz D σ H := h H (ExS.refl st) _ k
theorem s_asgS {i : Nat} (st : StO H s) (h : EvS s te σ H P) (k : ∀ v H1, ExS s H H1 → P v → D.nx (σ.set i (some v)) H1) : tAsg te (gName i) D σ H := h H (ExS.refl st) _ k
theorem lenLRange (h : spLRange K vs H Q E) : vs.length = 3 := by
  obtain ⟨_, _, _, rfl, _⟩ := h
  rfl
theorem readLRange (h : spLRange K vs H Q E) : tLRange K { nx := fun _ H' => Q .non H', rt := Q } (start nLRange vs) H := by
  obtain ⟨s, lo, hi, rfl, st, h1, h2, q⟩ := h
  show tRet _ _ [some (.ref s), some (.int lo), some (.int hi)] H
  refine s_retS st (evs_add (C := fun r => lo ≤ r ∧ r ≤ hi) (evs_vi rfl) (evs_below (n := hi - lo + 1) rfl (evs_add (C := fun i => i = hi - lo + 1) (evs_sub (C := fun i => i = hi - lo) (evs_vi rfl) (evs_vi rfl) fun i j e1 e2 => by rw [e1, e2]) evs_ci fun i j e1 e2 => by rw [e1, e2]) (by omega) (by omega)) fun i j e1 e2 => by rw [e1]; omega) fun v H1 a ⟨r, e, r1, r2⟩ => ?_
  rw [e]
  exact q r H1 a r1 r2
theorem lenLUpto (h : spLUpto K vs H Q E) : vs.length = 3 := by
  obtain ⟨_, _, _, rfl, _⟩ := h
  rfl
theorem readLUpto (h : spLUpto K vs H Q E) : tLUpto K { nx := fun _ H' => Q .non H', rt := Q } (start nLUpto vs) H := by
  obtain ⟨s, lo, hi, rfl, st, h1, h2, q⟩ := h
  show tSeq _ _ _ [some (.ref s), some (.int lo), some (.int hi), none] H
  refine q_asgS st (evs_below (n := 6) rfl evs_ci (by omega) (by omega)) fun v H1 a ⟨k, e, _⟩ => ?_
  subst e
  show tSeq _ _ _ [some (.ref s), some (.int lo), some (.int hi), some (.int k)] H1
  refine q_when (et_eqI (ev_var rfl) ev_c) (fun _ H2 a2 => s_ret (ev_var rfl) fun H3 a3 => q lo H3 (a.exR (a2.trans a3)) (by omega) h1) fun _ H2 a2 => ?_
  refine q_when (et_eqI (ev_var rfl) ev_c) (fun _ H3 a3 => s_ret (ev_max2 (ev_var rfl) (ev_var rfl)) fun H4 a4 => ?_) fun _ H3 a3 => ?_
  · refine q _ H4 (a.exR (a2.trans (a3.trans a4))) ?_ ?_ <;> split <;> omega
  · have b3 := a.exR (a2.trans a3)
    refine s_retS b3.2.1 (evs_range (lo := lo) (hi := hi) rfl (evs_vi rfl) (evs_vi rfl) h1 h2) fun v H4 a4 ⟨r, e, r1, r2⟩ => ?_
    rw [e]
    exact q r H4 (b3.trans a4) r1 r2
theorem lenLSeldom (h : spLSeldom K vs H Q E) : vs.length = 2 := by
  obtain ⟨_, _, rfl, _⟩ := h
  rfl
theorem readLSeldom (h : spLSeldom K vs H Q E) : tLSeldom K { nx := fun _ H' => Q .non H', rt := Q } (start nLSeldom vs) H := by
  obtain ⟨s, n, rfl, st, hn, q⟩ := h
  show tRet (tOp rEq _ _) _ [some (.ref s), some (.int n)] H
  refine evs_take (A := fun i => i = n) (i := 0) rfl (evs_vi rfl) (fun m e => by omega) H (ExS.refl st) _ fun v H1 a ⟨r, e, _⟩ => ?_
  rw [e]
  exact ⟨rfl, q _ H1 a⟩
theorem lenLOne (h : spLOne K vs H Q E) : vs.length = 2 := by
  obtain ⟨_, _, _, rfl, _⟩ := h
  rfl
theorem readLOne (h : spLOne K vs H Q E) : tLOne K { nx := fun _ H' => Q .non H', rt := Q } (start nLOne vs) H := by
  obtain ⟨s, l, xs, rfl, st, hl, ne, h1, h2, q⟩ := h
  show tRet (tOp (rIxL K) _ _) _ [some (.ref s), some (.ref l)] H
  refine ⟨_, rfl, ?_⟩
  refine evs_below (n := (xs.length : Nat)) (i := 0) (s := s) (ta := tCB (rLenS K) (tCons (tVar 1) tNil)) rfl (evs_int (n := (xs.length : Nat)) (fun H1 a => ev_is (ev_len (ev_var rfl) (sq_of (a.1 l _ ne hl))) (by rw [List.length_map])) rfl) (by omega) (by omega) H (ExS.refl st) _ fun v H1 a ⟨r, e, r1, r2⟩ => ?_
  obtain ⟨k, rfl⟩ := Int.eq_ofNat_of_zero_le r1
  have hk : k < xs.length := by omega
  exact ⟨l, _, k, _, rfl, e, sq_of (a.1 l _ ne hl), at_nat (map_at (List.getElem?_eq_getElem hk)), q _ H1 a (List.getElem_mem hk)⟩
theorem lenLSome (h : spLSome K vs H Q E) : vs.length = 3 := by
  obtain ⟨_, _, _, _, rfl, _⟩ := h
  rfl
/-- a list of texts that is filled between draws -/
def AcS (s : Addr) (B : Hp) (l : Addr) (xs : List Nm) (H : Hp) : Prop := B l = none ∧ StO B s ∧ ExS s B H ∧ H l = some (.lst (xs.map V.str))
variable {B : Hp} {l : Addr} {xs : List Nm}
theorem StO.some (h : StO H s) : ∃ o, H s = some o := by
  obtain ⟨c, ns, a, b, d, e, S⟩ := h
  exact ⟨_, S.1⟩
theorem AcS.ne (h : AcS s B l xs H) : l ≠ s := fun z => by
  obtain ⟨o, e⟩ := h.2.1.some
  rw [← z, h.1] at e
  cases e
theorem AcS.new (st : StO H s) {p : Addr} (n : H p = none) (e : Ex H H1) (h : H1 p = some (.lst (xs.map V.str))) : AcS s H p xs H1 := ⟨n, st, ExS.of st e, h⟩
theorem AcS.go (h : AcS s B l xs H) (a : ExS s H H1) : AcS s B l xs H1 := ⟨h.1, h.2.1, h.2.2.1.trans a, a.1 l _ h.ne h.2.2.2⟩
theorem AcS.ex (h : AcS s B l xs H) (a : Ex H H1) : AcS s B l xs H1 := h.go (ExS.of h.2.2.1.2.1 a)
theorem AcS.sto (h : AcS s B l xs H) : StO H s := h.2.2.1.2.1
/-- the store's inner list is older than l -/
theorem exS_put {o : HO} (n : B l = none) (sb : StO B s) (a : ExS s B H) : ExS s B (upd H l o) := by
  obtain ⟨c, ns, a1, b1, d1, e1, S⟩ := sb
  obtain ⟨r', hr⟩ := a.2.2 c _ S.1
  obtain ⟨c2, ns2, a2, b2, d2, e2, S2⟩ := a.2.1
  have S' : StX H s c2 ns2 a2 b2 d2 e2 := S2
  have ec : c2 = c := by
    have h1 := S'.1
    rw [hr] at h1
    have := (List.cons.inj (HO.lst.inj (Option.some.inj h1))).1
    cases this
    rfl
  subst ec
  have hc : B c2 = some (.lst (ns.map .int)) := S.2.1
  have n1 : s ≠ l := fun z => by
    have h1 := S.1
    rw [z, n] at h1
    cases h1
  have n2 : c2 ≠ l := fun z => by
    rw [z, n] at hc
    cases hc
  refine ⟨fun x p hx hp => ?_, ⟨c2, ns2, a2, b2, d2, e2, by rw [upd_ne n1]; exact S'.1, by rw [upd_ne n2]; exact S'.2.1, S'.2.2⟩, fun c3 r3 h3 => ?_⟩
  · rw [upd_ne fun z => by rw [z, n] at hp; cases hp]
    exact a.1 x p hx hp
  · rw [upd_ne n1]
    exact a.2.2 c3 r3 h3
theorem AcS.app (h : AcS s B l xs H) {x : Nm} : AcS s B l (xs ++ [x]) (upd H l (.lst (xs.map V.str ++ [V.str x]))) := ⟨h.1, h.2.1, exS_put h.1 h.2.1 h.2.2.1, by rw [upd_same, List.map_append]; rfl⟩
theorem erase_perm {α : Type} {a : α} : ∀ {l : List α} {k : Nat}, l[k]? = some a → (a :: l.eraseIdx k).Perm l
  | b :: l, 0, h => by
    have e : b = a := Option.some.inj h
    rw [e]
    exact List.Perm.refl _
  | b :: l, k + 1, h => by
    have h' : l[k]? = some a := h
    rw [List.eraseIdx_cons_succ]
    exact (List.Perm.swap b a _).trans ((erase_perm h').cons b)
theorem tcons1 {Q : List V → Hp → Prop} (h : ta σ H fun v H1 => Q [v] H1) : tCons ta tNil σ H Q := h
theorem q_forI {α : Type} (L : List α) {j : Nat} {n : Int} (h : EvA tas σ H [.int n]) (hn : n = (L.length : Nat)) (hz : L.length ≤ 1000000) (Pv : Nat → L2.St → Hp → Prop) (h0 : ∀ H1, Ex H H1 → Pv 0 σ H1)
    (hs : ∀ i a σ' H1, L[i]? = some a → Pv i σ' H1 → tu { D with nx := Pv (i + 1), ct := Pv (i + 1), bk := tz D } (σ'.set j (some (.int (i : Nat)))) H1) (hd : ∀ σ' H', Pv L.length σ' H' → tz D σ' H') : tSeq (tFor (iRng1 tas) (gName j) tu) tz D σ H := by
  subst hn
  refine (h H (Ex.refl _) _ fun H2 b => ⟨(L.length : Nat), rfl, by omega, by omega, ?_⟩)
  have e2 : ((L.length : Nat) : Int).toNat = L.length := by omega
  rw [e2]
  refine for_it (D := { D with nx := tz D }) (walk_range (lo := 0) (n := L.length)) Pv (h0 H2 b) (fun _ _ _ _ _ => trivial) (fun i x σ' H1 H2' hi p y => ?_) hd
  obtain ⟨rfl, rfl⟩ := y
  have := hs i L[i] σ' _ (List.getElem?_eq_getElem hi) p
  show tu _ (σ'.set j (some (V.int (0 + (i : Int))))) _
  rw [Int.zero_add]
  exact this
theorem readLSome (h : spLSome K vs H Q E) : tLSome K { nx := fun _ H' => Q .non H', rt := Q } (start nLSome vs) H := by
  obtain ⟨s, t, xs, n, rfl, st, ht, hn, hz, nd, q⟩ := h
  show tLSome K _ [some (.ref s), some (.ref t), some (.int n), none, none, none] H
  have hd : Dp K H (.ref t) (nsD xs) := .tup ht (dps_of_strs xs)
  refine q_asgN (en_listT (ed_var rfl hd)) fun l1 ws H1 a1 hn1 hp1 hd1 => ?_
  rw [dps_strs hd1] at hp1
  have A1 : AcS s H l1 xs H1 := AcS.new st hn1 a1 hp1
  refine q_asgN (K := K) (ds := []) (en_lst eds_nil (Nat.zero_le _)) fun l2 us H2 a2 hn2 hp2 hd2 => ?_
  cases hd2
  have A2 : AcS s H1 l2 [] H2 := AcS.new A1.sto hn2 a2 hp2
  have n12 : l2 ≠ l1 := fun z => by
    rw [z, hp1] at hn2
    cases hn2
  show tSeq _ _ _ [some (.ref s), some (.ref t), some (.int n), some (.ref l1), some (.ref l2), none] H2
  have hmin : Ev (tCB rMin2 (tCons (tVar 2) (tCons (tCB (rLenS K) (tCons (tVar 3) tNil)) tNil))) [some (.ref s), some (.ref t), some (.int n), some (.ref l1), some (.ref l2), none] H2 (.int n) := ev_cb (ea_cons (ev_var rfl) (ea1 (ev_len (ev_var rfl) (sq_of (a2 _ _ hp1))))) fun H3 a3 Q q => ⟨_, _, rfl, by
    rw [List.length_map, if_neg (by omega)]
    exact q H3 (Ex.refl _)⟩
  refine q_forI (List.range n) (ea1 hmin) (by rw [List.length_range]) (by rw [List.length_range]; omega) (fun i σ' H' => ∃ (got rest : List Nm) (j : Option V), σ' = [some (.ref s), some (.ref t), some (.int n), some (.ref l1), some (.ref l2), j] ∧ AcS s H l1 rest H' ∧ AcS s H l2 got H' ∧ (got ++ rest).Perm xs ∧ got.length = i) (fun H3 a3 => ⟨[], xs, _, rfl, (A1.ex a2).ex a3, ⟨fresh_back a1 hn2, st, ((A1.ex a2).ex a3).2.2.1, a3 _ _ hp2⟩, List.Perm.refl _, rfl⟩) (fun i a σ' H3 hi ⟨got, rest, j, e, B1, B2, pm, gl⟩ => ?_) fun σ' H3 ⟨got, rest, j, e, B1, B2, pm, gl⟩ => ?_
  · subst e
    have hin : i < n := by
      have := (List.getElem?_eq_some_iff.mp hi).1
      rw [List.length_range] at this
      exact this
    have hl := pm.length_eq
    rw [List.length_append] at hl
    refine ⟨_, rfl, .inl ⟨rfl, _, sq_of B2.2.2.2⟩, _, rfl, .inl ⟨rfl, _, sq_of B1.2.2.2⟩, ?_⟩
    refine tcons1 (evs_below (n := (rest.length : Nat)) (i := 0) (s := s) (ta := tCB (rLenS K) (tCons (tVar 3) tNil)) (σ := [some (.ref s), some (.ref t), some (.int n), some (.ref l1), some (.ref l2), some (.int (i : Nat))]) rfl (evs_int (n := (rest.length : Nat)) (fun H4 a4 => ev_is (ev_len (ev_var rfl) (sq_of (a4.1 l1 _ B1.ne B1.2.2.2))) (by rw [List.length_map])) rfl) (by omega) (by omega) H3 (ExS.refl B1.sto) _ fun v H4 a4 ⟨r, e, r1, r2⟩ => ?_)
    obtain ⟨k, rfl⟩ := Int.eq_ofNat_of_zero_le r1
    have hk : k < rest.length := by omega
    have C1 := B1.go a4
    have C2 := B2.go a4
    rw [e]
    refine ⟨l1, rest.map V.str, (k : Int), k, .str rest[k], rfl, rfl, C1.2.2.2, by omega, by omega, seqI (by rw [List.length_map]; exact hk), map_at (List.getElem?_eq_getElem hk), ?_⟩
    have C2' : AcS s H l2 got (upd H4 l1 (.lst ((rest.map V.str).eraseIdx k))) := ⟨C2.1, st, exS_put C1.1 st C1.2.2.1, by rw [upd_ne n12]; exact C2.2.2.2⟩
    have C1' : upd H4 l1 (.lst ((rest.map V.str).eraseIdx k)) l1 = some (.lst ((rest.eraseIdx k).map V.str)) := by rw [upd_same, map_erase]
    refine ⟨l2, _, _, rfl, rfl, C2'.2.2.2, sz_lt (by rw [List.length_map]; omega), got ++ [rest[k]], rest.eraseIdx k, _, rfl, ⟨C1.1, st, C2'.app.2.2.1, by rw [upd_ne n12.symm]; exact C1'⟩, C2'.app, ?_, by rw [List.length_append, List.length_singleton, gl]⟩
    rw [List.append_assoc]
    exact ((erase_perm (List.getElem?_eq_getElem hk)).append_left got).trans pm
  · subst e
    rw [List.length_range] at gl
    have nd2 := (pm.nodup_iff).mpr nd
    refine ev_var rfl H3 (Ex.refl _) _ fun H4 a4 => q got l2 H4 ((B2.ex a4).2.2.1) B2.1 ((B2.ex a4).2.2.2) (List.nodup_append.mp nd2).1 (fun y hy => pm.mem_iff.mp (List.mem_append_left _ hy)) gl
end
end Tb
set_option Elab.async false
set_option linter.all false
set_option maxRecDepth 100000
set_option maxHeartbeats 4000000
namespace Tb
open PySem PySem.Spec PyProof.Rows L2 Evl
section
variable {K : PySem.W.Frag} {vs : List V} {H : Hp} {Q : VK} {E : XK}
variable {D : Ends} {tu tw tz : TS} {t : TT} {σ : L2.St} {te ta tb : TE} {tas : TA} {s : Addr} {H1 H2 : Hp} {P P' : V → Prop}
theorem app_len (a b : Str) : (a ++ b).length = a.length + b.length := by
  show (a.cps ++ b.cps).size = _
  rw [Array.size_append]
  rfl
theorem app_cps (a b : Str) : (a ++ b).cps.toList = a.cps.toList ++ b.cps.toList := by
  show (a.cps ++ b.cps).toList = _
  rw [Array.toList_append]
/-- texts no longer than n -/
def Sh (n : Nat) (v : V) : Prop := ∃ x : Str, v = .str x ∧ x.length ≤ n
theorem Sh.le {n m : Nat} (h : n ≤ m) {v : V} : Sh n v → Sh m v := fun ⟨x, e, l⟩ => ⟨x, e, Nat.le_trans l h⟩
theorem evs_addS {n m : Nat} (h : EvS s ta σ H (Sh n)) (h2 : EvS s tb σ H (Sh m)) (hz : n + m ≤ 100000) : EvS s (tOp rAddStr ta tb) σ H (Sh (n + m)) := fun H1 a Q q =>
  h H1 a _ fun v H2 b ⟨x, e, lx⟩ => h2 H2 (a.trans b) _ fun w H3 c ⟨y, e2, ly⟩ => ⟨x, y, e, e2, sz_of (by omega), q _ H3 (b.trans c) ⟨_, rfl, by rw [app_len]; omega⟩⟩
theorem evs_ixS {z : Str} {n : Nat} (h : EvS s ta σ H (fun v => v = .str z)) (hz : z.length = n) (hn : n ≤ 100000) (h2 : EvS s tb σ H (IsI fun r => 0 ≤ r ∧ r < (n : Int))) : EvS s (tOp rIxS ta tb) σ H (Sh 1) := fun H1 a Q q =>
  h H1 a _ fun v H2 b e => h2 H2 (a.trans b) _ fun w H3 c ⟨r, e2, r1, r2⟩ => by
    obtain ⟨k, rfl⟩ := Int.eq_ofNat_of_zero_le r1
    have hk : k < z.cps.toList.length := by
      rw [Array.length_toList]
      have : z.cps.size = n := hz
      omega
    exact ⟨z, k, z.cps.toList[k], e, e2, sz_of (by omega), at_nat (List.getElem?_eq_getElem hk), q _ H3 (b.trans c) ⟨_, rfl, Nat.le_refl 1⟩⟩
theorem cut_len (z : Str) (hi : Option Int) : (cutS z none hi).length ≤ z.length := by
  show Array.size _ ≤ z.cps.size
  unfold cutS
  rw [List.size_toArray, List.length_take, List.length_drop, Array.length_toList]
  omega
theorem evs_cut {z : Str} {n : Nat} (hz : z.length ≤ n) (hn : n ≤ 100000) {A : Int → Prop} (h2 : EvS s tb σ H (IsI A)) : EvS s (tSl rSlS (tC (.str z)) tNoPart (tPart tb)) σ H (Sh n) := fun H1 a Q q =>
  h2 H1 a _ fun w H3 c ⟨r, e2, _⟩ => ⟨r, e2, z, rfl, sz_of (by omega), q _ H3 c ⟨_, rfl, Nat.le_trans (cut_len z _) hz⟩⟩
theorem lenLName (h : spLName K vs H Q E) : vs.length = 1 := by
  obtain ⟨_, rfl, _⟩ := h
  rfl
theorem evs_one {i : Nat} {xs : List Nm} {tl : TE} (hs : σ[i]? = some (some (.ref s))) (h : ∀ H1, ExS s H H1 → EvN K tl σ H1 (xs.map .str)) (h1 : 1 ≤ xs.length) (h2 : xs.length ≤ 100) : EvS s (tCall (spLOne K) [] E0 (tCons (tVar i) (tCons tl tNil))) σ H (fun v => ∃ x ∈ xs, v = .str x) := fun H1 a Q q =>
  ⟨_, hs, h H1 a H1 (Ex.refl _) _ fun p ws H2 b hn hp hd => by
    rw [dps_strs hd] at hp
    refine ⟨s, p, xs, rfl, (a.exR b).2.1, hp, fun z => ?_, h1, h2, fun x H3 c hx => q _ H3 ((ExS.of a.2.1 b).trans c) ⟨x, hx, rfl⟩⟩
    obtain ⟨o, ho⟩ := a.2.1.some
    rw [← z, hn] at ho
    cases ho⟩
theorem words8 : ∀ x ∈ (["by", "to", "seq", "while", "until", "each", "as", "place", "way", "walkers", "walker", "b0", "b1", "f0", "s0", "s1", "none", "a", "a0", "a00", "aa", "z", "zz", "zzzzzzzz"] : List Nm), x.length ≤ 8 := by decide +kernel
theorem readLName (h : spLName K vs H Q E) : tLName K { nx := fun _ H' => Q .non H', rt := Q } (start nLName vs) H := by
  obtain ⟨s, rfl, st, q⟩ := h
  have z26 : ("abcdefghijklmnopqrstuvwxyz" : Str).length = 26 := by decide +kernel
  have z10 : ("0123456789" : Str).length = 10 := by decide +kernel
  have z36 : (("abcdefghijklmnopqrstuvwxyz" : Str) ++ ("0123456789" : Str)).length = 36 := by rw [app_len, z26, z10]
  have z5 : ("abuwz" : Str).length = 5 := by decide +kernel
  have z8 : ("aaaaaaaa" : Str).length = 8 := by decide +kernel
  show tSeq _ _ _ [some (.ref s), none, none, none, none, none, none, none, none] H
  refine q_asg ev_c fun H1 a1 => ?_
  refine q_asg (ev_op (z := .str (("abcdefghijklmnopqrstuvwxyz" : Str) ++ ("0123456789" : Str))) (ev_var rfl) ev_c fun H2 a2 Q q => ⟨_, _, rfl, rfl, sz_of (by rw [z26, z10]; omega), q H2 (Ex.refl _)⟩) fun H2 a2 => ?_
  have x2 := ExS.of st (a1.trans a2)
  generalize (("abcdefghijklmnopqrstuvwxyz" : Str) ++ ("0123456789" : Str)) = signs at z36
  generalize ("abcdefghijklmnopqrstuvwxyz" : Str) = small at z26
  refine q_asgS x2.2.1 (evs_below (n := 6) rfl evs_ci (by omega) (by omega)) fun v H3 a3 ⟨k, e, k0, k6⟩ => ?_
  subst e
  have x3 := x2.trans a3
  show tSeq _ _ _ [some (.ref s), some (.str small), some (.str signs), some (.int k), none, none, none, none, none] H3
  refine q_when (et_eqI (ev_var rfl) ev_c) (fun _ H4 a4 => ?_) fun _ H4 a4 => ?_
  · have x4 := x3.exR a4
    refine s_retS x4.2.1 (evs_ixS (evs_v rfl) z26 (by omega) (evs_below (n := 26) rfl evs_ci (by omega) (by omega))) fun v H5 a5 ⟨x, e, l⟩ => ?_
    subst e
    exact q x H5 (x4.trans a5) (by omega)
  have x4 := x3.exR a4
  refine q_when (et_eqI (ev_var rfl) ev_c) (fun _ H5 a5 => ?_) fun _ H5 a5 => ?_
  · have x5 := x4.exR a5
    refine s_retS x5.2.1 (evs_addS (evs_ixS (n := 5) evs_c z5 (by omega) (evs_below (n := 5) rfl evs_ci (by omega) (by omega))) (evs_ixS (n := 10) evs_c z10 (by omega) (evs_below (n := 10) rfl evs_ci (by omega) (by omega))) (by omega)) fun v H6 a6 ⟨x, e, l⟩ => ?_
    subst e
    exact q x H6 (x5.trans a6) (by omega)
  have x5 := x4.exR a5
  refine q_when (et_eqI (ev_var rfl) ev_c) (fun _ H6 a6 => ?_) fun _ H6 a6 => ?_
  · have x6 := x5.exR a6
    refine s_retS x6.2.1 (evs_one (xs := ["by", "to", "seq", "while", "until", "each", "as", "place", "way", "walkers", "walker", "b0", "b1", "f0", "s0", "s1", "none", "a", "a0", "a00", "aa", "z", "zz", "zzzzzzzz"]) rfl (fun H7 a7 => en_lst (by
      repeat first | exact eds_nil | refine eds_cons ed_c_str ?_) (by decide)) (by decide) (by decide)) fun v H7 a7 ⟨x, hx, e⟩ => ?_
    subst e
    exact q x H7 (x6.trans a7) (words8 x hx)
  have x6 := x5.exR a6
  refine q_when (et_eqI (ev_var rfl) ev_c) (fun _ H7 a7 => ?_) fun _ H7 a7 => ?_
  · have x7 := x6.exR a7
    show tSeq _ _ _ [some (.ref s), some (.str small), some (.str signs), some (.int k), none, none, none, none, none] H7
    refine q_asgS x7.2.1 (evs_range (lo := 2) (hi := 8) rfl evs_ci evs_ci (by omega) (by omega)) fun v H8 a8 ⟨m, e, m2, m8⟩ => ?_
    subst e
    have x8 := x7.trans a8
    refine q_asgS x8.2.1 (evs_below (n := m) rfl (evs_vi rfl) (by omega) (by omega)) fun v H9 a9 ⟨at_, e, t0, tm⟩ => ?_
    subst e
    have x9 := x8.trans a9
    refine q_asgS x9.2.1 (evs_ixS (evs_v rfl) z26 (by omega) (evs_below (n := 26) rfl evs_ci (by omega) (by omega))) fun v H10 a10 ⟨sg, e, l⟩ => ?_
    subst e
    have x10 := x9.trans a10
    show tSeq _ _ _ [some (.ref s), some (.str small), some (.str signs), some (.int k), some (.int m), some (.int at_), some (.str sg), none, none] H10
    refine q_whenR (M := fun σ' H' => ∃ g : Str, σ' = [some (.ref s), some (.str small), some (.str signs), some (.int k), some (.int m), some (.int at_), some (.str g), none, none] ∧ ExS s H H' ∧ g.length ≤ 1) (fun σ' H11 ⟨g, e, x11, lg⟩ => ?_) (et_gt (ev_var rfl) ev_c) (fun hr _ H11 a11 => ?_) fun _ H11 a11 => ⟨sg, rfl, x10.exR a11, l⟩
    · subst e
      have p1 : EvS s (tSl rSlS (tC (.str "aaaaaaaa")) tNoPart (tPart (tVar 5))) [some (.ref s), some (.str small), some (.str signs), some (.int k), some (.int m), some (.int at_), some (.str g), none, none] H11 (fun v => ∃ x : Str, v = .str x ∧ (x.length : Int) ≤ at_) := fun H12 a12 Q q => ⟨_, rfl, at_, rfl, _, rfl, sz_of (by omega), q _ H12 (ExS.refl a12.2.1) ⟨_, rfl, by
        unfold cutS
        show ((Array.size _ : Nat) : Int) ≤ _
        rw [List.size_toArray, List.length_take]
        obtain ⟨w, rfl⟩ := Int.eq_ofNat_of_zero_le t0
        rw [HT.sIx_nat, HT.sIx_none]
        omega⟩⟩
      have p2 : EvS s (tSl rSlS (tC (.str "aaaaaaaa")) tNoPart (tPart (tOp rSubI (tOp rSubI (tVar 4) (tC (.int 1))) (tVar 5)))) [some (.ref s), some (.str small), some (.str signs), some (.int k), some (.int m), some (.int at_), some (.str g), none, none] H11 (fun v => ∃ x : Str, v = .str x ∧ (x.length : Int) ≤ m - 1 - at_) := fun H12 a12 Q q => evs_sub (A := fun i => i = m - 1) (B := fun i => i = at_) (C := fun i => i = m - 1 - at_) (evs_sub (A := fun i => i = m) (B := fun i => i = 1) (evs_vi rfl) evs_ci fun i j e1 e2 => by rw [e1, e2]) (evs_vi rfl) (fun i j e1 e2 => by rw [e1, e2]) H12 a12 _ fun v H13 a13 ⟨r, e, er⟩ => ⟨r, e, _, rfl, sz_of (by omega), q _ H13 a13 ⟨_, rfl, by
        subst er
        unfold cutS
        show ((Array.size _ : Nat) : Int) ≤ _
        rw [List.size_toArray, List.length_take]
        obtain ⟨w, hw⟩ := Int.eq_ofNat_of_zero_le (show 0 ≤ m - 1 - at_ by omega)
        rw [hw, HT.sIx_nat, HT.sIx_none]
        omega⟩⟩
      have p3 : EvS s (tVar 6) [some (.ref s), some (.str small), some (.str signs), some (.int k), some (.int m), some (.int at_), some (.str g), none, none] H11 (fun v => v = .str g) := evs_v rfl
      refine s_retS (P := fun v => ∃ x : Str, v = .str x ∧ x.length ≤ 8) x11.2.1 (fun H12 a12 Q q => p1 H12 a12 _ fun v H13 a13 ⟨x, e, lx⟩ => ?_) fun v H12 a12 ⟨x, e, lx⟩ => by
        subst e
        exact q x H12 (x11.trans a12) lx
      refine p3 H13 (a12.trans a13) _ fun w H14 a14 e2 => ?_
      have w8 : x.length ≤ 8 := by omega
      refine ⟨x, g, e, e2, sz_of (by omega), p2 H14 ((a12.trans a13).trans a14) _ fun w2 H15 a15 ⟨y, e3, ly⟩ => ⟨x ++ g, y, rfl, e3, sz_of (by rw [app_len]; omega), q _ H15 ((a13.trans a14).trans a15) ⟨_, rfl, ?_⟩⟩⟩
      rw [app_len, app_len]
      omega
    · have x11 := x10.exR a11
      refine s_asgS x11.2.1 (evs_ixS (evs_v rfl) z36 (by omega) (evs_below (n := 36) rfl evs_ci (by omega) (by omega))) fun v H12 a12 ⟨g, e, l⟩ => ?_
      subst e
      exact hr _ _ ⟨g, rfl, x11.trans a12, l⟩
  have x7 := x6.exR a7
  show tSeq _ _ _ [some (.ref s), some (.str small), some (.str signs), some (.int k), none, none, none, none, none] H7
  refine q_asg ev_c fun H8 a8 => ?_
  have x8 := x7.exR a8
  refine q_whenR (M := fun σ' H' => ∃ m : Int, σ' = [some (.ref s), some (.str small), some (.str signs), some (.int k), some (.int m), none, none, none, none] ∧ ExS s H H' ∧ 1 ≤ m ∧ m ≤ 8) (fun σ' H9 ⟨m, e, x9, m1, m8⟩ => ?_) (et_eqI (ev_var rfl) ev_c) (fun hr _ H9 a9 => ?_) fun _ H9 a9 => ⟨8, rfl, x8.exR a9, by omega, by omega⟩
  · subst e
    refine q_asgS x9.2.1 (evs_ixS (evs_v rfl) z26 (by omega) (evs_below (n := 26) rfl evs_ci (by omega) (by omega))) fun v H10 a10 ⟨g, e, l⟩ => ?_
    subst e
    have x10 := x9.trans a10
    show tSeq _ _ _ [some (.ref s), some (.str small), some (.str signs), some (.int k), some (.int m), none, none, some (.str g), none] H10
    refine q_forI (List.range (m - 1).toNat) (ea1 (ev_sub (ev_var rfl) ev_c)) (by rw [List.length_range]; omega) (by rw [List.length_range]; omega) (fun i σ' H' => ∃ (g : Str) (j : Option V), σ' = [some (.ref s), some (.str small), some (.str signs), some (.int k), some (.int m), none, none, some (.str g), j] ∧ ExS s H H' ∧ g.length ≤ 1 + i) (fun H11 a11 => ⟨g, _, rfl, x10.exR a11, l⟩) (fun i a σ' H11 hi ⟨g, j, e, x11, lg⟩ => ?_) fun σ' H11 ⟨g, j, e, x11, lg⟩ => ?_
    · subst e
      have hi8 : i < 8 := by
        have := (List.getElem?_eq_some_iff.mp hi).1
        rw [List.length_range] at this
        omega
      refine s_asgS x11.2.1 (evs_addS (n := 1 + i) (m := 1) ((evs_v rfl).imp fun v e => ⟨g, e, lg⟩) (evs_ixS (evs_v rfl) z36 (by omega) (evs_below (n := 36) rfl evs_ci (by omega) (by omega))) (by omega)) fun v H12 a12 ⟨g', e, l'⟩ => ?_
      subst e
      exact ⟨g', _, rfl, x11.trans a12, by omega⟩
    · subst e
      rw [List.length_range] at lg
      exact s_ret (ev_var rfl) fun H12 a12 => q g H12 (x11.exR a12) (by omega)
  · have x9 := x8.exR a9
    refine s_asgS x9.2.1 (evs_range (lo := 1) (hi := 8) rfl evs_ci evs_ci (by omega) (by omega)) fun v H10 a10 ⟨m, e, m1, m8⟩ => ?_
    subst e
    exact hr _ _ ⟨m, rfl, x9.trans a10, m1, m8⟩
end
end Tb
set_option Elab.async false
set_option linter.all false
set_option maxRecDepth 100000
set_option maxHeartbeats 4000000
namespace Tb
open PySem PySem.Spec PyProof.Rows L2 Evl
section
variable {K : PySem.W.Frag} {vs : List V} {H : Hp} {Q : VK} {E : XK}
variable {D : Ends} {tu tw tz : TS} {t : TT} {σ : L2.St} {te ta tb tc tl : TE} {tas : TA} {s : Addr} {H1 H2 B : Hp} {P P' : V → Prop} {l : Addr} {xs : List Nm} {d : PyData} {g : TG}
theorem lenLNewName (h : spLNewName K vs H Q E) : vs.length = 2 := by
  obtain ⟨_, _, _, rfl, _⟩ := h
  rfl
abbrev sgn : Str := "abcdefghijklmnopqrstuvwxyz0123456789"
theorem sgn_len : sgn.cps.toList.length = 36 := by decide +kernel
theorem sgn_nd : sgn.cps.toList.Nodup := by decide +kernel
/-- the k-th name after the first -/
def cnd (stem : Str) (i : Nat) : Str := (stem ++ ⟨#[sgn.cps.toList.getD 0 0]⟩) ++ ⟨#[sgn.cps.toList.getD i 0]⟩
theorem cnd_inj {stem : Str} {i j : Nat} (hi : i < 36) (hj : j < 36) (h : cnd stem i = cnd stem j) : i = j := by
  have h1 := congrArg (fun z : Str => z.cps.toList) h
  unfold cnd at h1
  simp only [app_cps] at h1
  have h2 := List.append_cancel_left h1
  have h3 : sgn.cps.toList.getD i 0 = sgn.cps.toList.getD j 0 := (List.cons.inj h2).1
  have li : i < sgn.cps.toList.length := by rw [sgn_len]; exact hi
  have lj : j < sgn.cps.toList.length := by rw [sgn_len]; exact hj
  rw [List.getD_eq_getElem?_getD, List.getD_eq_getElem?_getD, List.getElem?_eq_getElem li, List.getElem?_eq_getElem lj] at h3
  exact (List.getElem_inj sgn_nd).mp h3
theorem cnd_out {stem : Str} {xs : List Nm} (hz : xs.length ≤ 20) (h : ∀ j, j < xs.length → cnd stem j ∈ xs) : cnd stem xs.length ∉ xs := fun z => by
  have nd : ((List.range (xs.length + 1)).map (cnd stem)).Nodup := by
    rw [List.nodup_iff_pairwise_ne] at *
    rw [List.pairwise_map]
    refine List.Pairwise.imp_of_mem (fun {a b} ha hb ne e => ne (cnd_inj ?_ ?_ e)) List.nodup_range
    · have := List.mem_range.mp ha; omega
    · have := List.mem_range.mp hb; omega
  have := nd_sub nd fun x hx => by
    obtain ⟨j, hj, rfl⟩ := List.mem_map.mp hx
    have hj' := List.mem_range.mp hj
    by_cases e : j = xs.length
    · rw [e]; exact z
    · exact h j (by omega)
  rw [List.length_map, List.length_range] at this
  omega
theorem ev_sgn {i : Nat} {tb : TE} {k : Nat} (h : σ[i]? = some (some (.str sgn))) (h2 : Ev tb σ H (.int (k : Nat))) (hk : k < 36) : Ev (tOp rIxS (tVar i) tb) σ H (.str ⟨#[sgn.cps.toList.getD k 0]⟩) := by
  refine ev_op (ev_var h) h2 (rv_ixS (by decide +kernel) (at_nat ?_))
  rw [List.getD_eq_getElem?_getD, List.getElem?_eq_getElem (by rw [sgn_len]; exact hk)]
  rfl
theorem ev_catS {a b : Str} (h : Ev ta σ H (.str a)) (h2 : Ev tb σ H (.str b)) (hz : a.length + b.length ≤ 100000) : Ev (tOp rAddStr ta tb) σ H (.str (a ++ b)) := ev_op h h2 fun H1 _ Q q => ⟨a, b, rfl, rfl, sz_of hz, q H1 (Ex.refl _)⟩
theorem ev_mod36 {n : Nat} (h : Ev ta σ H (.int (n : Nat))) : Ev (tOp rModI (tCB rInt1 (tCons ta tNil)) (tC (.int 36))) σ H (.int ((n % 36 : Nat) : Int)) := by
  refine ev_is (ev_op (rInt_ev h) ev_c (rv_I (by decide))) (congrArg V.int ?_)
  rw [Int.fmod_eq_emod_of_nonneg _ (by decide)]
  omega
theorem ev_div36 {n : Nat} (h : Ev ta σ H (.int (n : Nat))) : Ev (tOp rDivI ta (tC (.int 36))) σ H (.int ((n / 36 : Nat) : Int)) := by
  refine ev_is (ev_op h ev_c (rv_I ⟨by decide, by decide⟩)) (congrArg V.int ?_)
  rw [Int.fdiv_eq_ediv_of_nonneg _ (by decide)]
  omega
theorem ed_listS {l : Addr} {xs : List Nm} (h : H l = some (.lst (xs.map V.str))) : Dp K H (.ref l) (.list (xs.map .str)) := .lst (sq_of h) (dps_of_strs xs)
theorem readLNewName (h : spLNewName K vs H Q E) : tLNewName K { nx := fun _ H' => Q .non H', rt := Q } (start nLNewName vs) H := by
  obtain ⟨s, l, xs, rfl, st, hl, ne, nd, hz, q⟩ := h
  show tSeq _ _ _ [some (.ref s), some (.ref l), none, none, none, none] H
  refine q_asg (v := .str sgn) ev_c fun H1 a1 => ?_
  refine q_asgS (st.ex a1) (evs_name rfl) fun v H2 a2 ⟨x0, e, l0⟩ => ?_
  subst e
  have x2 := (ExS.of st a1).trans a2
  show tSeq _ _ _ [some (.ref s), some (.ref l), some (.str sgn), some (.str x0), none, none] H2
  refine q_asg (v := .str (cutS x0 none (some 6))) (fun H3 a3 Q q => ⟨_, rfl, 6, rfl, x0, rfl, sz_of (by omega), q H3 (Ex.refl _)⟩) fun H3 a3 => ?_
  have l6 : (cutS x0 none (some 6)).length ≤ 6 := by
    unfold cutS
    show Array.size _ ≤ 6
    rw [List.size_toArray, List.length_take, show (6 : Int) = ((6 : Nat) : Int) from rfl, HT.sIx_nat, HT.sIx_none]
    omega
  generalize cutS x0 none (some 6) = stem at l6
  have x3 := x2.exR a3
  show tSeq _ _ _ [some (.ref s), some (.ref l), some (.str sgn), some (.str x0), some (.str stem), none] H3
  have cl : ∀ i, (cnd stem i).length ≤ 8 := fun i => by
    unfold cnd
    rw [app_len, app_len]
    show stem.length + 1 + 1 ≤ 8
    omega
  have hl3 := x3.1 l _ ne hl
  refine q_forI (List.range (xs.length + 1)) (ea1 (ev_add (ed_lenL (ed_var rfl (ed_listS hl3))) ev_c)) (by rw [List.length_range, List.length_map]; omega) (by rw [List.length_range]; omega) (fun i σ' H' => ∃ (x : Str) (j : Option V), σ' = [some (.ref s), some (.ref l), some (.str sgn), some (.str x), some (.str stem), j] ∧ ExS s H H' ∧ x.length ≤ 8 ∧ (i = 0 ∨ x = cnd stem (i - 1)) ∧ ∀ j, j + 1 < i → cnd stem j ∈ xs) (fun H4 a4 => ⟨x0, _, rfl, x3.exR a4, l0, .inl rfl, fun j hj => absurd hj (by omega)⟩) (fun i a σ' H4 hi ⟨x, j, e, x4, lx, hx, hall⟩ => ?_) fun σ' H4 ⟨x, j, e, x4, lx, hx, hall⟩ => ?_
  · subst e
    have hin : i < xs.length + 1 := by
      have := (List.getElem?_eq_some_iff.mp hi).1
      rw [List.length_range] at this
      exact this
    have hl4 := x4.1 l _ ne hl
    show tSeq _ _ _ [some (.ref s), some (.ref l), some (.str sgn), some (.str x), some (.str stem), some (.int (i : Nat))] H4
    refine q_when (et_niL (K := K) (ed_vs rfl) (ed_var rfl (ed_listS hl4))) (fun c H5 a5 => s_ret (ev_var rfl) fun H6 a6 => q x H6 (x4.exR (a5.trans a6)) (of_decide_eq_true c) lx) fun c H5 a5 => ?_
    have hin2 : x ∈ xs := Decidable.byContradiction fun z => by
      rw [decide_eq_true z] at c
      cases c
    refine s_asg (v := .str (cnd stem i)) ?_ fun H6 a6 => ⟨cnd stem i, _, rfl, x4.exR (a5.trans a6), cl i, .inr rfl, fun j hj => ?_⟩
    · have e0 : i / 36 % 36 = 0 := by omega
      have e1 : i % 36 = i := by omega
      have p1 : Ev (tOp rIxS (tVar 2) (tOp rModI (tCB rInt1 (tCons (tOp rDivI (tVar 5) (tC (.int 36))) tNil)) (tC (.int 36)))) [some (.ref s), some (.ref l), some (.str sgn), some (.str x), some (.str stem), some (.int (i : Nat))] H5 (.str ⟨#[sgn.cps.toList.getD 0 0]⟩) := by
        have := ev_sgn (σ := [some (.ref s), some (.ref l), some (.str sgn), some (.str x), some (.str stem), some (.int (i : Nat))]) (H := H5) (i := 2) rfl (ev_mod36 (ev_div36 (n := i) (ev_var (i := 5) rfl))) (by omega)
        rw [e0] at this
        exact this
      have p2 : Ev (tOp rIxS (tVar 2) (tOp rModI (tCB rInt1 (tCons (tVar 5) tNil)) (tC (.int 36)))) [some (.ref s), some (.ref l), some (.str sgn), some (.str x), some (.str stem), some (.int (i : Nat))] H5 (.str ⟨#[sgn.cps.toList.getD i 0]⟩) := by
        have := ev_sgn (σ := [some (.ref s), some (.ref l), some (.str sgn), some (.str x), some (.str stem), some (.int (i : Nat))]) (H := H5) (i := 2) rfl (ev_mod36 (n := i) (ev_var (i := 5) rfl)) (by omega)
        rw [e1] at this
        exact this
      refine ev_catS (ev_catS (ev_var rfl) p1 ?_) p2 ?_
      · show stem.length + 1 ≤ 100000
        omega
      · rw [app_len]
        show stem.length + 1 + 1 ≤ 100000
        omega
    · by_cases z : j + 1 = i
      · have e : x = cnd stem (i - 1) := hx.resolve_left (by omega)
        rw [show j = i - 1 by omega, ← e]
        exact hin2
      · exact hall j (by omega)
  · subst e
    rw [List.length_range] at hx hall
    have e : x = cnd stem xs.length := hx.resolve_left (by omega)
    have out := cnd_out (stem := stem) hz fun j hj => hall j (by omega)
    rw [← e] at out
    exact s_ret (ev_var rfl) fun H6 a6 => q x H6 (x4.exR a6) out lx
/-! ### lists between draws -/
theorem ExS.tx (st : StO H s) (a : ExS s H H1) : TX H H1 := by
  obtain ⟨c, ns, a1, b1, d1, e1, S⟩ := st
  have h0 : H s = some (.lst [.ref c, .int a1, .int b1, .int d1, .int e1]) := S.1
  exact ⟨fun x xs h => a.1 x _ (fun z => by rw [z, h0] at h; cases h) h, fun x o xs h => a.1 x _ (fun z => by rw [z, h0] at h; cases h) h⟩
theorem evs_new {i j : Nat} (A : AcS s B l xs H) (hs : σ[i]? = some (some (.ref s))) (hl : σ[j]? = some (some (.ref l))) (nd : xs.Nodup) (hz : xs.length ≤ 20) : EvS s (tCall (spLNewName K) [] E0 (tCons (tVar i) (tCons (tVar j) tNil))) σ H (IsS fun x => x ∉ xs) := fun H1 a Q q =>
  ⟨_, hs, _, hl, s, l, xs, rfl, a.2.1, a.1 l _ A.ne A.2.2.2, A.ne, nd, hz, fun x H2 b hx _ => q _ H2 b ⟨x, rfl, hx⟩⟩
theorem s_appS {i : Nat} {A : Str → Prop} (B1 : AcS s B l xs H) (hl : σ[i]? = some (some (.ref l))) (h : EvS s te σ H (IsS A)) (hz : xs.length < 1000) (k : ∀ x H1, A x → AcS s B l (xs ++ [x]) H1 → ExS s B H1 → D.nx σ H1) : tDrop (tBM K "list" rAppend (tVar i) (tCons te tNil)) D σ H := by
  refine ⟨_, hl, .inl ⟨rfl, _, sq_of B1.2.2.2⟩, tcons1 (h H (ExS.refl B1.sto) _ fun v H1 a ⟨x, e, hx⟩ => ?_)⟩
  subst e
  have B2 := B1.go a
  exact ⟨l, _, _, rfl, rfl, B2.2.2.2, sz_lt (by rw [List.length_map]; omega), k x _ hx B2.app B2.app.2.2.1⟩
theorem q_forSA {A : Int → Prop} {j : Nat} (h : ∀ Q : List V → Hp → Prop, (∀ v H2, ExS s H H2 → IsI A v → Q [v] H2) → tas σ H Q) (hA : ∀ n, A n → -1000 ≤ n ∧ n ≤ 1000) (Pv : Int → Nat → L2.St → Hp → Prop) (h0 : ∀ n H1, A n → ExS s H H1 → Pv n 0 σ H1)
    (hs : ∀ n i σ' H1, i < n.toNat → Pv n i σ' H1 → tu { D with nx := Pv n (i + 1), ct := Pv n (i + 1), bk := tz D } (σ'.set j (some (.int (i : Nat)))) H1) (hd : ∀ n σ' H', Pv n n.toNat σ' H' → tz D σ' H') : tSeq (tFor (iRng1 tas) (gName j) tu) tz D σ H := by
  refine h _ fun v H1 a ⟨n, e, an⟩ => ?_
  have hn := hA n an
  refine ⟨_, by rw [e], by omega, by omega, ?_⟩
  refine for_it (D := { D with nx := tz D }) (walk_range (lo := 0) (n := n.toNat)) (Pv n) (h0 n H1 an a) (fun _ _ _ _ _ => trivial) (fun i x σ' H1 H2' hi p y => ?_) (hd n)
  obtain ⟨rfl, rfl⟩ := y
  show tu _ (σ'.set j (some (V.int (0 + (i : Int))))) _
  rw [Int.zero_add]
  exact hs n i σ' _ hi p
theorem q_forS {A : Int → Prop} {j : Nat} (st : StO H s) (h : EvS s ta σ H (IsI A)) (hA : ∀ n, A n → -1000 ≤ n ∧ n ≤ 1000) (Pv : Int → Nat → L2.St → Hp → Prop) (h0 : ∀ n H1, A n → ExS s H H1 → Pv n 0 σ H1)
    (hs : ∀ n i σ' H1, i < n.toNat → Pv n i σ' H1 → tu { D with nx := Pv n (i + 1), ct := Pv n (i + 1), bk := tz D } (σ'.set j (some (.int (i : Nat)))) H1) (hd : ∀ n σ' H', Pv n n.toNat σ' H' → tz D σ' H') : tSeq (tFor (iRng1 (tCons ta tNil)) (gName j) tu) tz D σ H :=
  q_forSA (A := A) (s := s) (fun Q q => tcons1 (h H (ExS.refl st) _ fun v H1 a hv => q v H1 a hv)) hA Pv h0 hs hd
theorem q_forTS {α : Type} {H0 : Hp} (L : List α) (enc : α → PyData) (h : EvP K tl σ H0 (.tuple (L.map enc))) (a0 : Ex H0 H) (ht : ∀ a, Tp (enc a) = true) (Pv : Nat → L2.St → Hp → Prop) (h0 : ∀ H1, Ex H H1 → Pv 0 σ H1) (hG : ∀ i σ' H', Pv i σ' H' → TX H0 H')
    (hs : ∀ i a x σ' H1, L[i]? = some a → Pv i σ' H1 → Dp K H1 x (enc a) → g x σ' H1 fun σ2 H3 => tu { D with nx := Pv (i + 1), ct := Pv (i + 1), bk := tz D } σ2 H3) (hd : ∀ σ' H', Pv L.length σ' H' → tz D σ' H') : tSeq (tFor (iTup K tl) g tu) tz D σ H := by
  obtain ⟨v, h1, h2⟩ := h
  obtain ⟨p, xs, rfl, hs1, hd1⟩ := dp_tup h1
  have tt : ∀ H', TX H0 H' → SqT K H' p xs := fun H' e => by
    rcases hs1 with (h1 | ⟨o, h1⟩) | h1
    · exact .inl (.inl (e.1 _ _ h1))
    · exact .inl (.inr ⟨o, e.2 _ _ _ h1⟩)
    · exact .inr h1
  refine h2 H a0 _ fun H2 b => ⟨p, rfl, ⟨xs, tt H2 (TX.of (a0.trans b))⟩, ?_⟩
  have hl := dp_len hd1
  rw [List.length_map] at hl
  refine for_tup (D := { D with nx := tz D }) (xs := xs) Pv (h0 H2 b) (fun i σ' H' _ q => tt H' (hG i σ' H' q)) (fun i x σ' H' hx q => ?_) (fun σ' H' q => hd σ' H' (by rw [hl] at q; exact q))
  obtain ⟨d, hd2, hd3⟩ := dps_get' (dps_tx (hG i σ' H' q) hd1 (tp_map ht L)) hx
  rw [List.getElem?_map] at hd2
  obtain ⟨a, ha, rfl⟩ := Option.map_eq_some_iff.mp hd2
  exact hs i a x σ' H' ha q hd3
theorem q_asgCall2 {sp : Sp} {E : XK} {i j : Nat} (hs : σ[i]? = some (some (.ref s))) (h : EvD K te σ H d) (k : ∀ v H1, Ex H H1 → Dp K H1 v d → sp [.ref s, v] H1 (fun v H2 => tz D (σ.set j (some v)) H2) E) : tSeq (tAsg (tCall sp [] E (tCons (tVar i) (tCons te tNil))) (gName j)) tz D σ H :=
  ⟨_, hs, h H (Ex.refl _) _ fun v H1 a hv => k v H1 a hv⟩
theorem lenLHeads (h : spLHeads K vs H Q E) : vs.length = 2 := by
  obtain ⟨_, _, _, _, rfl, _⟩ := h
  rfl
theorem s_appP {i : Nat} {x : Nm} (B1 : AcS s B l xs H) (hl : σ[i]? = some (some (.ref l))) (h : EvD K te σ H (.str x)) (hz : xs.length < 1000) (k : ∀ H1, AcS s B l (xs ++ [x]) H1 → Oth l H H1 → D.nx σ H1) : tDrop (tBM K "list" rAppend (tVar i) (tCons te tNil)) D σ H := by
  refine ⟨_, hl, .inl ⟨rfl, _, sq_of B1.2.2.2⟩, tcons1 (h H (Ex.refl _) _ fun v H1 a hv => ?_)⟩
  rw [dp_str hv]
  have B2 := B1.ex a
  exact ⟨l, _, _, rfl, rfl, B2.2.2.2, sz_lt (by rw [List.length_map]; omega), k _ B2.app ((Oth.ex a).trans Oth.upd_)⟩
theorem q_appP {i : Nat} {x : Nm} (B1 : AcS s B l xs H) (hl : σ[i]? = some (some (.ref l))) (h : EvD K te σ H (.str x)) (hz : xs.length < 1000) (k : ∀ H1, AcS s B l (xs ++ [x]) H1 → Oth l H H1 → tz D σ H1) : tSeq (tDrop (tBM K "list" rAppend (tVar i) (tCons te tNil))) tz D σ H := s_appP (D := { D with nx := tz D }) B1 hl h hz k
theorem readLHeads (h : spLHeads K vs H Q E) : tLHeads K { nx := fun _ H' => Q .non H', rt := Q } (start nLHeads vs) H := by
  obtain ⟨s, x, places, ways, rfl, st, hx, hz, q⟩ := h
  show tSeq _ _ _ [some (.ref s), some x, none, none, none, none] H
  refine q_asgS st (evs_below (n := 5) rfl evs_ci (by omega) (by omega)) fun v H1 a1 ⟨k, e, k0, k5⟩ => ?_
  subst e
  have tx1 := a1.tx st
  have hx1 := dp_tx tx1 hx (tp_web _ _)
  show tSeq _ _ _ [some (.ref s), some x, some (.int k), none, none, none] H1
  refine q_asgN (K := K) (ds := []) (en_lst eds_nil (Nat.zero_le _)) fun l us H2 a2 hn2 hp2 hd2 => ?_
  cases hd2
  have A2 : AcS s H1 l [] H2 := AcS.new a1.2.1 hn2 a2 hp2
  have x2 := a1.exR a2
  show tSeq _ _ _ [some (.ref s), some x, some (.int k), some (.ref l), none, none] H2
  refine q_forTS ways wayD (ep_i1 (ep_var rfl hx1)) a2 tp_way (fun i σ' H' => ∃ (hs : List Nm) (j4 j5 : Option V), σ' = [some (.ref s), some x, some (.int k), some (.ref l), j4, j5] ∧ AcS s H1 l hs H' ∧ hs.length = i ∧ ∀ (j : Nat) (w : Wy) (h : Nm), ways[j]? = some w → hs[j]? = some h → h = w.2.1 ∨ h = w.2.2) (fun H3 a3 => ⟨[], _, _, rfl, A2.ex a3, rfl, fun j w h _ z => by simp at z⟩) (fun i σ' H' ⟨_, _, _, _, A, _⟩ => A.2.2.1.tx A.2.1) (fun i w y σ' H3 hi ⟨hs, j4, j5, e, A3, hl, hh⟩ hy => ?_) fun σ' H3 ⟨hs, j4, j5, e, A3, hl, hh⟩ => ?_
  · subst e
    have hil := (List.getElem?_eq_some_iff.mp hi).1
    show tSeq _ _ _ [some (.ref s), some x, some (.int k), some (.ref l), some y, j5] H3
    refine q_asg (ev_var rfl) fun H4 a4 => ?_
    show tSeq _ _ _ [some (.ref s), some x, some (.int k), some (.ref l), some y, some (.int k)] H4
    have A4 := A3.ex a4
    have hy4 := dp_ex a4 hy
    refine q_whenR (M := fun σ' H' => ∃ (sd : Nat), σ' = [some (.ref s), some x, some (.int k), some (.ref l), some y, some (.int sd)] ∧ ExS s H4 H' ∧ (sd = 1 ∨ sd = 2)) (fun σ' H5 ⟨sd, e, x5, hsd⟩ => ?_) (et_or (et_eqI (ev_var rfl) ev_c) fun _ => et_gt (ev_var rfl) ev_c) (fun hr _ H5 a5 => ?_) fun c H5 a5 => ⟨k.toNat, by rw [Int.toNat_of_nonneg k0], ExS.of A4.sto a5, ?_⟩
    · subst e
      have A5 := A4.go x5
      have t5 := x5.tx A4.sto
      have hy5 := dp_tx t5 hy4 (tp_way w)
      obtain ⟨hw, hwv⟩ : ∃ hw : Nm, (wayD w = .tuple [.str w.1, .str w.2.1, .str w.2.2] ∧ ([PyData.str w.1, .str w.2.1, .str w.2.2])[sd]? = some (.str hw)) ∧ (hw = w.2.1 ∨ hw = w.2.2) := by
        rcases hsd with rfl | rfl
        · exact ⟨w.2.1, ⟨rfl, rfl⟩, .inl rfl⟩
        · exact ⟨w.2.2, ⟨rfl, rfl⟩, .inr rfl⟩
      refine s_appP A5 rfl (ed_ixT (k := sd) (ed_var rfl hy5) (ev_var rfl) hwv.1.2) (by omega) fun H6 A6 x6 => ⟨hs ++ [hw], _, _, rfl, A6, by rw [List.length_append, List.length_singleton, hl], fun j u h hu hj => ?_⟩
      · by_cases z : j < hs.length
        · rw [List.getElem?_append_left z] at hj
          exact hh j u h hu hj
        · rw [List.getElem?_append_right (by omega)] at hj
          have zj : j = i := by
            have := (List.getElem?_eq_some_iff.mp hj).1
            rw [List.length_singleton] at this
            omega
          rw [zj, hl, Nat.sub_self] at hj
          have e : hw = h := Option.some.inj hj
          rw [zj, hi] at hu
          cases hu
          rw [← e]
          exact hwv.2
    · have A5 := A4.ex a5
      refine s_asgS A5.sto (evs_add (A := fun i => i = 1) (C := fun i => i = 1 ∨ i = 2) evs_ci (evs_below (n := 2) rfl evs_ci (by omega) (by omega)) fun i j e1 e2 => by omega) fun v H6 a6 ⟨r, e, hr2⟩ => ?_
      subst e
      refine hr _ _ ⟨r.toNat, by rw [Int.toNat_of_nonneg (by omega)]; rfl, (ExS.of A4.sto a5).trans a6, by omega⟩
    · rw [Bool.or_eq_false_iff] at c
      have c1 := of_decide_eq_false c.1
      have c2 := of_decide_eq_false c.2
      omega
  · subst e
    refine s_retD (ed_tupOfL (ed_var rfl (ed_listS A3.2.2.2))) fun v H4 a4 hv => q hs v H4 ((a1.trans A3.2.2.1).exR a4) hv hl fun z hz => ?_
    obtain ⟨j, hj⟩ := List.getElem?_of_mem hz
    have := zip_at2 hj
    exact hh j _ _ this.1 this.2
end
end Tb
set_option Elab.async false
set_option linter.all false
set_option maxRecDepth 100000
set_option maxHeartbeats 4000000
namespace Tb
open PySem PySem.Spec PyProof.Rows L2 Evl
section
variable {K : PySem.W.Frag} {vs : List V} {H : Hp} {Q : VK} {E : XK}
variable {D : Ends} {tu tw tz : TS} {t : TT} {σ : L2.St} {te ta tb tc tl : TE} {tas : TA} {s : Addr} {H1 H2 B : Hp} {P P' : V → Prop} {l : Addr} {xs : List Nm} {d : PyData} {g : TG}
open PySem.W in
theorem str_lt {a b : Nm} (h : dataLe false PyData.str a b = true) (ne : a ≠ b) : ltS a b := by
  have e : (dataLe false fun b : Nm => PyData.str b) = fun a b => decide (a.cps.toList ≤ b.cps.toList) := dataLe_str fun b => b
  have e2 := congrFun (congrFun e a) b
  rw [show dataLe false PyData.str a b = _ from e2] at h
  have h' := of_decide_eq_true h
  refine Classical.byContradiction fun z => ne ?_
  have h2 : b.cps.toList ≤ a.cps.toList := List.not_lt.mp z
  have e3 := List.le_antisymm h' h2
  cases a with
  | mk x => cases b with
    | mk y => exact congrArg Str.mk (Array.toList_inj.mp e3)
theorem sortS_lt {l : List Nm} (h : l.Nodup) : (sortS l).Pairwise ltS := by
  have p := PySem.W.sort_pairwise (tot PyData.str) l
  have n : (sortS l).Nodup := (sort_perm PyData.str l).nodup_iff.mpr h
  exact List.Pairwise.imp₂ (fun a b h1 h2 => str_lt h1 h2) p n
open PySem.W in
theorem way_lt {a b : Wy} (h : dataLe false wayD a b = true) (ne : a.1 ≠ b.1) : ltS a.1 b.1 := by
  have h' : (!dataLt (wayD b) (wayD a)) = true := h
  unfold wayD at h'
  rw [dataLt_tuple, dataLt_cons (by simp [alike]), dataLt_str] at h'
  have nq : ¬ PyData.eqv (.str b.1) (.str a.1) = true := by
    simp only [PyData.eqv, beq_iff_eq]
    exact fun z => ne z.symm
  rw [if_neg nq] at h'
  have h2 : ¬ b.1.cps.toList < a.1.cps.toList := fun z => by
    rw [decide_eq_true z] at h'
    cases h'
  refine Classical.byContradiction fun z => ne ?_
  have e3 := List.le_antisymm (List.not_lt.mp h2) (List.not_lt.mp z)
  cases ha : a.1 with
  | mk x => cases hb : b.1 with
    | mk y =>
      rw [ha, hb] at e3
      exact congrArg Str.mk (Array.toList_inj.mp e3)
theorem sortW_lt {l : List Wy} (h : (l.map (·.1)).Nodup) : (sortW l).Pairwise fun a b => ltS a.1 b.1 := by
  have p := PySem.W.sort_pairwise (tot wayD) l
  have n : ((sortW l).map (·.1)).Nodup := ((sort_perm wayD l).map _).nodup_iff.mpr h
  have n' : (sortW l).Pairwise fun a b => a.1 ≠ b.1 := List.pairwise_map.mp n
  exact List.Pairwise.imp₂ (fun a b h1 h2 => way_lt h1 h2) p n'
/-- a list of ways that is filled between draws -/
def AcW (s : Addr) (K : PySem.W.Frag) (B : Hp) (l : Addr) (rs : List Wy) (H : Hp) : Prop := B l = none ∧ StO B s ∧ ExS s B H ∧ ∃ vs, H l = some (.lst vs) ∧ DpAll K H vs (rs.map wayD)
theorem AcW.ne {rs : List Wy} (h : AcW s K B l rs H) : l ≠ s := fun z => by
  obtain ⟨o, e⟩ := h.2.1.some
  rw [← z, h.1] at e
  cases e
theorem AcW.go {rs : List Wy} (h : AcW s K B l rs H) (a : ExS s H H1) : AcW s K B l rs H1 := by
  obtain ⟨n, st, x, vs, hv, hd⟩ := id h
  exact ⟨n, st, x.trans a, vs, a.1 l _ h.ne hv, dps_tx (a.tx x.2.1) hd (tp_map tp_way _)⟩
theorem AcW.edp {rs : List Wy} (h : AcW s K B l rs H) : Dp K H (.ref l) (.list (rs.map wayD)) := by
  obtain ⟨n, st, x, vs, hv, hd⟩ := h
  exact .lst (sq_of hv) hd
theorem s_appW {i : Nat} {rs : List Wy} {w : Wy} (A : AcW s K B l rs H) (hl : σ[i]? = some (some (.ref l))) (h : EvD K te σ H (wayD w)) (hz : rs.length < 1000) (k : ∀ H1, AcW s K B l (rs ++ [w]) H1 → Oth l H H1 → D.nx σ H1) : tDrop (tBM K "list" rAppend (tVar i) (tCons te tNil)) D σ H := by
  obtain ⟨n, st, x, vs, hv, hd⟩ := id A
  refine ⟨_, hl, .inl ⟨rfl, _, sq_of hv⟩, tcons1 (h H (Ex.refl _) _ fun v H1 a hw => ?_)⟩
  have hv1 := a _ _ hv
  have ln := dp_len hd
  rw [List.length_map] at ln
  refine ⟨l, _, _, rfl, rfl, hv1, sz_lt (by omega), k _ ⟨n, st, exS_put n st (x.exR a), vs ++ [v], upd_same, ?_⟩ ((Oth.ex a).trans Oth.upd_)⟩
  rw [List.map_append]
  exact dps_app (dps_tx (TX.updL hv1) (dps_ex a hd) (tp_map tp_way _)) (dp_tx (TX.updL hv1) hw (tp_way w))
theorem AcW.oth {rs : List Wy} {B' : Hp} {l' : Addr} (h : AcW s K B l rs H) (o : Oth l' H H1) (ne : l ≠ l') (x : ExS s B H1) (tx : TX H H1) : AcW s K B l rs H1 := by
  obtain ⟨n, st, _, vs, hv, hd⟩ := h
  exact ⟨n, st, x, vs, o _ _ ne hv, dps_tx tx hd (tp_map tp_way _)⟩
theorem lenLWeb (h : spLWeb K vs H Q E) : vs.length = 2 := by
  obtain ⟨_, _, _, _, rfl, _⟩ := h
  rfl
theorem ed_tint {t : Addr} {ns : List Int} (h : SqT K H t (ns.map .int)) : Dp K H (.ref t) (rowD ns) := .tup h (dps_of_ints ns)
theorem evs_szI {i k : Nat} {t : Addr} {ns : List Int} {n : Int} (st : StO H s) (hi : σ[i]? = some (some (.ref t))) (h : SqT K H t (ns.map .int)) (hk : ns[k]? = some n) : EvS s (tOp (rIxT K) (tVar i) (tC (.int (k : Nat)))) σ H (IsI fun j => j = n) :=
  evs_int (fun H1 a => ei (ed_ixT (k := k) (ed_var hi (dp_tx (a.tx st) (ed_tint h) (tp_row ns))) ev_c (map_at hk))) rfl
theorem mod_ne {n k m : Nat} (hk : k < n) (h1 : 1 ≤ m) (h2 : m < n) : (k + m) % n ≠ k := fun e => by
  by_cases c : k + m < n
  · rw [Nat.mod_eq_of_lt c] at e
    omega
  · have : (k + m) % n = k + m - n := by
      rw [Nat.mod_eq_sub_mod (by omega), Nat.mod_eq_of_lt (by omega)]
    omega
theorem ev_modN {n m : Nat} (h : Ev ta σ H (.int (n : Nat))) (h2 : Ev tb σ H (.int (m : Nat))) (hm : 0 < m) : Ev (tOp rModI (tCB rInt1 (tCons ta tNil)) tb) σ H (.int ((n % m : Nat) : Int)) := by
  refine ev_is (ev_op (rInt_ev h) h2 (rv_I (show ((m : Nat) : Int) ≠ 0 by omega))) (congrArg V.int ?_)
  rw [Int.fmod_eq_emod_of_nonneg _ (by omega)]
  exact (Int.natCast_emod n m).symm
theorem srt_pair {a b : Nm} (ne : a ≠ b) : ltS ((sortS [a, b]).getD 0 "") ((sortS [a, b]).getD 1 "") ∧ (sortS [a, b]).getD 0 "" ∈ [a, b] ∧ (sortS [a, b]).getD 1 "" ∈ [a, b] := by
  have p := sortS_lt (l := [a, b]) (List.nodup_cons.mpr ⟨fun z => ne (List.mem_singleton.mp z), List.nodup_cons.mpr ⟨(fun z => nomatch z), List.nodup_nil⟩⟩)
  have pm := sort_perm PyData.str [a, b]
  have hl := len2 (a := a) (b := b)
  change (sortS [a, b]).Perm [a, b] at pm
  generalize sortS [a, b] = z at p pm hl
  match z, hl with
  | [x, y], _ =>
    refine ⟨(List.pairwise_cons.mp p).1 y (List.mem_singleton.mpr rfl), pm.mem_iff.mp List.mem_cons_self, pm.mem_iff.mp (List.mem_cons_of_mem _ List.mem_cons_self)⟩
theorem readLWeb (h : spLWeb K vs H Q E) : tLWeb K { nx := fun _ H' => Q .non H', rt := Q } (start nLWeb vs) H := by
  obtain ⟨s, t, a, b, rfl, st, ht, a2, a4, b0, b6, q⟩ := h
  have ht' : SqT K H t (([a, b] : List Int).map .int) := ht
  show tSeq _ _ _ [some (.ref s), some (.ref t), none, none, none, none, none, none, none, none, none] H
  refine q_asgN (K := K) (ds := []) (en_lst eds_nil (Nat.zero_le _)) fun l us H1 a1 hn1 hp1 hd1 => ?_
  cases hd1
  have A1 : AcS s H l [] H1 := AcS.new st hn1 a1 hp1
  show tSeq _ _ _ [some (.ref s), some (.ref t), some (.ref l), none, none, none, none, none, none, none, none] H1
  refine q_forS A1.sto (evs_upto (lo := 2) (hi := a) rfl evs_ci (evs_szI (k := 0) A1.sto rfl (ex_t a1 ht') rfl) a2 (by omega)) (fun n hn => by omega) (fun n i σ' H' => ∃ (xs : List Nm) (j : Option V), σ' = [some (.ref s), some (.ref t), some (.ref l), j, none, none, none, none, none, none, none] ∧ AcS s H l xs H' ∧ xs.Nodup ∧ xs.length = i ∧ 2 ≤ n ∧ n ≤ a) (fun n H2 hn x2 => ⟨[], _, rfl, A1.go x2, List.nodup_nil, rfl, hn⟩) (fun n i σ' H2 hi ⟨xs, j, e, A2, nd, xl, n2, na⟩ => ?_) fun n σ' H2 ⟨xs, j, e, A2, nd, xl, n2, na⟩ => ?_
  · subst e
    refine s_appS A2 rfl (evs_new A2 rfl rfl nd (by omega)) (by omega) fun x H3 hx A3 _ => ⟨xs ++ [x], _, rfl, A3, ?_, by rw [List.length_append, List.length_singleton, xl], n2, na⟩
    refine List.nodup_append.mpr ⟨nd, List.nodup_cons.mpr ⟨(fun z => nomatch z), List.nodup_nil⟩, fun c hc d hd e => hx ?_⟩
    rw [← List.mem_singleton.mp hd, ← e]
    exact hc
  subst e
  have lx : 2 ≤ xs.length ∧ (xs.length : Int) ≤ a ∧ xs.length ≤ 4 := by omega
  have r1 := en_sortedL (K := K) (ed_var (σ := [some (.ref s), some (.ref t), some (.ref l), j, none, none, none, none, none, none, none]) (i := 2) rfl (ed_listS A2.2.2.2)) (ok_str (by omega))
  rw [srt_str] at r1
  refine q_asgN r1 fun lS ws H3 a3 hn3 hp3 hd3 => ?_
  rw [dps_strs hd3] at hp3
  have sl := sort_len xs
  have slt := sortS_lt nd
  have snd : (sortS xs).Nodup := nd_ltS slt
  generalize hsp : sortS xs = sp at *
  have x3 := A2.2.2.1.exR a3
  show tSeq _ _ _ [some (.ref s), some (.ref t), some (.ref lS), j, none, none, none, none, none, none, none] H3
  refine q_asgS x3.2.1 (evs_below (n := 6) rfl evs_ci (by omega) (by omega)) fun v H4 a4 ⟨k, e, k0, k6⟩ => ?_
  subst e
  have neS : lS ≠ s := fun z => by
    obtain ⟨o, ho⟩ := A2.sto.some
    rw [← z, hn3] at ho
    cases ho
  have hp4 := a4.1 lS _ neS hp3
  have x4 := x3.trans a4
  show tSeq _ _ _ [some (.ref s), some (.ref t), some (.ref lS), j, some (.int k), none, none, none, none, none, none] H4
  refine q_asgN (K := K) (ds := []) (en_lst eds_nil (Nat.zero_le _)) fun l5 us H5 a5 hn5 hp5 hd5 => ?_
  cases hd5
  refine q_asgN (K := K) (ds := []) (en_lst eds_nil (Nat.zero_le _)) fun l6 us H6 a6 hn6 hp6 hd6 => ?_
  cases hd6
  have A5 : AcS s H4 l5 [] H6 := (AcS.new (xs := []) x4.2.1 hn5 a5 hp5).ex a6
  have n56 : l6 ≠ l5 := fun z => by
    rw [z, hp5] at hn6
    cases hn6
  have A6 : AcW s K H4 l6 [] H6 := ⟨fresh_back a5 hn6, x4.2.1, A5.2.2.1, [], hp6, .nil⟩
  have x46 : ExS s H4 H6 := A5.2.2.1
  have tH : TX H H6 := (x4.trans x46).tx st
  have ht6 : SqT K H6 t (([a, b] : List Int).map .int) := by
    have := dp_tx tH (ed_tint ht') (tp_row [a, b])
    obtain ⟨t', xs', e, hs', hd'⟩ := dp_tup this
    cases e
    rw [dps_ints hd'] at hs'
    exact hs'
  show tSeq _ _ _ [some (.ref s), some (.ref t), some (.ref lS), j, some (.int k), some (.ref l5), some (.ref l6), none, none, none, none] H6
  refine q_forS A5.sto (evs_upto (lo := 0) (hi := b) rfl evs_ci (evs_szI (k := 1) A5.sto rfl ht6 rfl) b0 (by omega)) (fun n hn => by omega) (fun n i σ' H' => ∃ (rs : List Wy) (j3 j7 j8 j9 j10 : Option V), σ' = [some (.ref s), some (.ref t), some (.ref lS), j3, some (.int k), some (.ref l5), some (.ref l6), j7, j8, j9, j10] ∧ AcS s H4 l5 (rs.map (·.1)) H' ∧ AcW s K H4 l6 rs H' ∧ (rs.map (·.1)).Nodup ∧ rs.length = i ∧ (0 ≤ n ∧ n ≤ b) ∧ ∀ w ∈ rs, w.2.1 ∈ sp ∧ w.2.2 ∈ sp ∧ ltS w.2.1 w.2.2) (fun n H7 hn x7 => ⟨[], _, _, _, _, _, rfl, A5.go x7, A6.go x7, List.nodup_nil, rfl, hn, fun _ z => (nomatch z)⟩) (fun n i σ' H7 hi ⟨rs, j3, j7, j8, j9, j10, e, B5, B6, ndr, rl, hn, hrs⟩ => ?_) fun n σ' H7 ⟨rs, j3, j7, j8, j9, j10, e, B5, B6, ndr, rl, hn, hrs⟩ => ?_
  · subst e
    have rl6 : rs.length ≤ 6 := by omega
    show tSeq _ _ _ [some (.ref s), some (.ref t), some (.ref lS), some (.int (i : Nat)), some (.int k), some (.ref l5), some (.ref l6), j7, j8, j9, j10] H7
    refine q_asgS B5.sto (evs_new B5 rfl rfl ndr (by rw [List.length_map]; omega)) fun v H8 a8 ⟨lb, e, hlb⟩ => ?_
    subst e
    have C5 := B5.go a8
    have C6 := B6.go a8
    show tSeq _ _ _ [some (.ref s), some (.ref t), some (.ref lS), some (.int (i : Nat)), some (.int k), some (.ref l5), some (.ref l6), some (.str lb), j8, j9, j10] H8
    refine q_appP (K := K) C5 rfl (ed_vs rfl) (by rw [List.length_map]; omega) fun H9 D5 o9 => ?_
    have D6 : AcW s K H4 l6 rs H9 := C6.oth (B' := H4) o9 n56 D5.2.2.1 (o9.tx C5.2.2.2)
    show tSeq _ _ _ [some (.ref s), some (.ref t), some (.ref lS), some (.int (i : Nat)), some (.int k), some (.ref l5), some (.ref l6), some (.str lb), j8, j9, j10] H9
    refine q_asg ev_c fun H10 a10 => ?_
    refine q_asg ev_c fun H11 a11 => ?_
    have x11 := ExS.of D5.sto (a10.trans a11)
    show tSeq _ _ _ [some (.ref s), some (.ref t), some (.ref lS), some (.int (i : Nat)), some (.int k), some (.ref l5), some (.ref l6), some (.str lb), some (.int 0), some (.int 1), j10] H11
    have spl : ∀ H', ExS s H9 H' → H' lS = some (.lst (sp.map V.str)) := fun H' x => x.1 _ _ neS (D5.2.2.1.1 _ _ neS hp4)
    have lenE : ∀ (σ' : L2.St) (H' : Hp), ExS s H9 H' → σ'[2]? = some (some (.ref lS)) → Ev (tCB (rLenS K) (tCons (tVar 2) tNil)) σ' H' (.int (sp.length : Nat)) := fun σ' H' x e => ev_is (ed_lenL (ed_var e (ed_listS (spl H' x)))) (by rw [List.length_map])
    have st1 : ∀ σ' H', (∃ lo stp : Nat, σ' = [some (.ref s), some (.ref t), some (.ref lS), some (.int (i : Nat)), some (.int k), some (.ref l5), some (.ref l6), some (.str lb), some (.int (lo : Nat)), some (.int (stp : Nat)), j10] ∧ ExS s H9 H' ∧ lo < sp.length ∧ 1 ≤ stp ∧ stp < sp.length) → ∀ D : Ends, (∀ H2 (u : V) (w : Wy), AcS s H4 l5 (rs.map (·.1) ++ [lb]) H2 → AcW s K H4 l6 (rs ++ [w]) H2 → w.1 = lb → (w.2.1 ∈ sp ∧ w.2.2 ∈ sp ∧ ltS w.2.1 w.2.2) → ∀ lo stp : Nat, D.nx [some (.ref s), some (.ref t), some (.ref lS), some (.int (i : Nat)), some (.int k), some (.ref l5), some (.ref l6), some (.str lb), some (.int (lo : Nat)), some (.int (stp : Nat)), some u] H2) →
        (tSeq (tAsg (tCB (rSortedD K) (tCons (tLst (tCons (tOp (rIxL K) (tVar 2) (tVar 8)) (tCons (tOp (rIxL K) (tVar 2) (tOp rModI (tCB rInt1 (tCons (tOp rAddI (tVar 8) (tVar 9)) tNil)) (tCB (rLenS K) (tCons (tVar 2) tNil)))) tNil))) tNil)) (gName 10)) (tDrop (tBM K "list" rAppend (tVar 6) (tCons (tTup (tCons (tVar 7) (tCons (tOp (rIxL K) (tVar 10) (tC (.int 0))) (tCons (tOp (rIxL K) (tVar 10) (tC (.int 1))) tNil)))) tNil)))) D σ' H' := by
      rintro σ' H' ⟨lo, stp, rfl, x, h1, h2, h3⟩ D k'
      have hm : (lo + stp) % sp.length < sp.length := Nat.mod_lt _ (by omega)
      have hsl := ed_listS (K := K) (spl H' x)
      have ne : sp[lo] ≠ sp[(lo + stp) % sp.length] := fun z => mod_ne h1 h2 h3 ((List.getElem_inj snd).mp z).symm
      have pr := srt_pair ne
      refine q_asgD (K := K) (d := .list ((sortS [sp[lo], sp[(lo + stp) % sp.length]]).map .str)) (by
        rw [← srt_str]
        refine (en_sortedL (en_lst (ds := [.str sp[lo], .str sp[(lo + stp) % sp.length]]) (eds2 (ed_ixL (ed_var rfl hsl) (ev_var rfl) (map_at (List.getElem?_eq_getElem h1))) (ed_ixL (ed_var rfl hsl) (ev_modN (n := lo + stp) (ev_is (ev_add (ev_var rfl) (ev_var rfl)) (by rw [Int.natCast_add])) (lenE _ _ x rfl) (by omega)) (map_at (List.getElem?_eq_getElem hm))))).toD (ok_str (l := [sp[lo], sp[(lo + stp) % sp.length]]) (by show 2 ≤ 100000; decide))).toD) fun u H12 a12 hu => ?_
      have E5 := (D5.go x).ex a12
      have E6 := (D6.go x).go (ExS.of (D5.go x).sto a12)
      refine s_appW (w := (lb, (sortS [sp[lo], sp[(lo + stp) % sp.length]]).getD 0 "", (sortS [sp[lo], sp[(lo + stp) % sp.length]]).getD 1 "")) E6 rfl (ed_tup (eds_cons (ed_vs rfl) (eds2 (ed_ixL (k := 0) (ed_var rfl hu) ev_c (at2 (by decide))) (ed_ixL (k := 1) (ed_var rfl hu) ev_c (at2 (by decide)))))) (by omega) fun H13 F6 o13 => ?_
      have F5 : AcS s H4 l5 (rs.map (·.1) ++ [lb]) H13 := ⟨E5.1, E5.2.1, F6.2.2.1, o13 _ _ n56.symm E5.2.2.2⟩
      have mem2 : ∀ z, z ∈ [sp[lo], sp[(lo + stp) % sp.length]] → z ∈ sp := fun z hz => by
        rcases List.mem_cons.mp hz with e | hz
        · rw [e]; exact List.getElem_mem h1
        · rw [List.mem_singleton.mp hz]; exact List.getElem_mem hm
      exact k' H13 u _ F5 F6 rfl ⟨mem2 _ pr.2.1, mem2 _ pr.2.2, pr.1⟩ lo stp
    have spn : 2 ≤ sp.length ∧ sp.length ≤ 4 := by omega
    refine q_whenR (M := fun σ' H' => ∃ lo stp : Nat, σ' = [some (.ref s), some (.ref t), some (.ref lS), some (.int (i : Nat)), some (.int k), some (.ref l5), some (.ref l6), some (.str lb), some (.int (lo : Nat)), some (.int (stp : Nat)), j10] ∧ ExS s H9 H' ∧ lo < sp.length ∧ 1 ≤ stp ∧ stp < sp.length) (fun σ' H12 ⟨lo, stp, e, x12, g1, g2, g3⟩ => ?_) (et_eqI (ev_var rfl) ev_c) (fun hr _ H12 a12 => ?_) fun _ H12 a12 => ⟨0, 1, rfl, x11.exR a12, by omega, by omega, by omega⟩
    · subst e
      refine q_whenR (M := fun σ' H' => ∃ lo stp : Nat, σ' = [some (.ref s), some (.ref t), some (.ref lS), some (.int (i : Nat)), some (.int k), some (.ref l5), some (.ref l6), some (.str lb), some (.int (lo : Nat)), some (.int (stp : Nat)), j10] ∧ ExS s H9 H' ∧ lo < sp.length ∧ 1 ≤ stp ∧ stp < sp.length) (fun σ' H13 ⟨lo, stp, e, x13, g1, g2, g3⟩ => ?_) (et_gt (ev_var rfl) ev_c) (fun hr _ H13 a13 => ?_) fun _ H13 a13 => ⟨lo, stp, rfl, x12.exR a13, g1, g2, g3⟩
      · subst e
        refine q_whenR (M := fun σ' H' => ∃ lo stp : Nat, σ' = [some (.ref s), some (.ref t), some (.ref lS), some (.int (i : Nat)), some (.int k), some (.ref l5), some (.ref l6), some (.str lb), some (.int (lo : Nat)), some (.int (stp : Nat)), j10] ∧ ExS s H9 H' ∧ lo < sp.length ∧ 1 ≤ stp ∧ stp < sp.length) (fun σ' H14 hM => ?_) (et_gt (ev_var rfl) ev_c) (fun hr _ H14 a14 => ?_) fun _ H14 a14 => ⟨lo, stp, rfl, x13.exR a14, g1, g2, g3⟩
        · refine st1 σ' H14 hM _ fun H2 u w F5 F6 e1 e2 lo stp => ⟨rs ++ [w], _, _, _, _, _, rfl, ?_, F6, ?_, by rw [List.length_append, List.length_singleton, rl], hn, fun w' hw' => ?_⟩
          · rw [List.map_append, List.map_cons, List.map_nil, e1]
            exact F5
          · rw [List.map_append, List.map_cons, List.map_nil, e1]
            refine List.nodup_append.mpr ⟨ndr, List.nodup_cons.mpr ⟨(fun z => nomatch z), List.nodup_nil⟩, fun c hc d hd e => hlb ?_⟩
            rw [← List.mem_singleton.mp hd, ← e]
            exact hc
          · rcases List.mem_append.mp hw' with h | h
            · exact hrs w' h
            · rw [List.mem_singleton.mp h]
              exact e2
        · have x14 := x13.exR a14
          refine s_asgS x14.2.1 (evs_add (A := fun i => i = 1) (C := fun r => 1 ≤ r ∧ r < sp.length) evs_ci (evs_take (A := fun n => n = (sp.length : Int) - 1) rfl (evs_sub (A := fun n => n = (sp.length : Int)) (B := fun n => n = 1) (evs_int (fun H' x => lenE _ _ (x14.trans x) rfl) rfl) evs_ci fun i j e1 e2 => by rw [e1, e2]) fun n e => by omega) fun i j e1 ⟨n, e2, r1, r2, r3⟩ => by omega) fun v H15 a15 ⟨r, e, r1, r2⟩ => ?_
          subst e
          refine hr _ _ ⟨lo, r.toNat, by rw [Int.toNat_of_nonneg (by omega)]; rfl, x14.trans a15, g1, by omega, by omega⟩
      · have x13 := x12.exR a13
        refine s_asgS x13.2.1 (evs_below (n := (sp.length : Int)) rfl (evs_int (fun H' x => lenE _ _ (x13.trans x) rfl) rfl) (by omega) (by omega)) fun v H14 a14 ⟨r, e, r1, r2⟩ => ?_
        subst e
        refine hr _ _ ⟨r.toNat, stp, by rw [Int.toNat_of_nonneg r1]; rfl, x13.trans a14, by omega, g2, g3⟩
    · have x12 := x11.exR a12
      refine s_asg (ev_modN (ev_var (v := .int (i : Nat)) rfl) (lenE _ _ x12 rfl) (by omega)) fun H13 a13 => hr _ _ ⟨i % sp.length, 1, rfl, x12.exR a13, Nat.mod_lt _ (by omega), by omega, by omega⟩
  · subst e
    have x7 := x4.trans B5.2.2.1
    have hp7 := B5.2.2.1.1 _ _ neS hp4
    have sw := sortW_lt ndr
    have swl := sortW_len rs
    have r2 := en_sortedL (K := K) (ed_var (σ := [some (.ref s), some (.ref t), some (.ref lS), j3, some (.int k), some (.ref l5), some (.ref l6), j7, j8, j9, j10]) (i := 6) rfl B6.edp) (ok_way (by omega))
    rw [srt_way] at r2
    refine s_retD (K := K) (d := webD sp (sortW rs)) (ed_tup (eds2 (ed_tupOfL (ed_var rfl (ed_listS hp7))) (ed_tupOf r2))) fun v H8 a8 hv => q sp (sortW rs) v H8 (x7.exR a8) hv ⟨slt, fun w hw => hrs w ((sort_perm wayD rs).mem_iff.mp hw), sw⟩ (by omega) (by omega) (by omega)
end
end Tb
set_option Elab.async false
set_option linter.all false
set_option maxRecDepth 100000
set_option maxHeartbeats 4000000
namespace Tb
open PySem PySem.Spec PyProof.Rows L2 Evl
section
variable {K : PySem.W.Frag} {vs : List V} {H : Hp} {Q : VK} {E : XK}
variable {D : Ends} {tu tw tz : TS} {t : TT} {σ : L2.St} {te ta tb tc tl : TE} {tas : TA} {s : Addr} {H1 H2 B : Hp} {P P' : V → Prop} {l : Addr} {xs : List Nm} {d : PyData} {g : TG}
/-- what is built of links in order -/
theorem build_is {places spots : List Nm} {ways : List Wy} {heads : List Nm} {plain : List (Nm × Int)} (hl : heads.length = ways.length) (nn : ways.Pairwise fun a b => ltS a.1 b.1) (lo : ∀ w ∈ ways, ltS w.2.1 w.2.2) (hd : ∀ q ∈ ways.zip heads, q.2 = q.1.2.1 ∨ q.2 = q.1.2.2) (cr : List Int) :
    buildW spots (arrR ⟨places, ways, heads, cr⟩) plain = ⟨sortS spots, ways, heads, (sortS spots).map fun x => ((plain.filter fun q => decide (q.1 = x)).map (·.2)).sum⟩ := by
  have fz : (ways.zip heads).map (·.1) = ways := List.map_fst_zip (by omega)
  have sz : (ways.zip heads).map (·.2) = heads := List.map_snd_zip (by omega)
  have srt : (arrR ⟨places, ways, heads, cr⟩).Pairwise fun a b => ltS a.1 b.1 := by
    unfold arrR
    rw [List.pairwise_map]
    have h1 := nn
    rw [← fz, List.pairwise_map] at h1
    exact h1
  unfold buildW
  rw [sortW_sorted srt]
  unfold arrR
  rw [List.map_map, List.map_map]
  have e1 : List.map ((fun l : Wy => (l.1, (sortS [l.2.1, l.2.2]).getD 0 "", (sortS [l.2.1, l.2.2]).getD 1 "")) ∘ fun q : Wy × Nm => (q.1.1, tl q.1 q.2, q.2)) (ways.zip heads) = ways := by
    conv => rhs; rw [← fz]
    refine List.map_congr_left fun q' hm => ?_
    show (q'.1.1, (sortS [tl q'.1 q'.2, q'.2]).getD 0 "", (sortS [tl q'.1 q'.2, q'.2]).getD 1 "") = q'.1
    rw [sort_ends (lo _ (List.of_mem_zip hm).1) (hd q' hm)]
    rfl
  have e2 : List.map ((fun l : Wy => l.2.2) ∘ fun q : Wy × Nm => (q.1.1, tl q.1 q.2, q.2)) (ways.zip heads) = heads := by
    conv => rhs; rw [← sz]
    rfl
  rw [e1, e2]
theorem sum_nn {l : List Int} (h : ∀ n ∈ l, 0 ≤ n) : 0 ≤ l.sum := by
  induction l with
  | nil => exact Int.le_refl _
  | cons a l ih =>
    rw [List.sum_cons]
    have := ih fun n hn => h n (List.mem_cons_of_mem _ hn)
    have := h a List.mem_cons_self
    omega
theorem lenLPiece (h : spLPiece K vs H Q E) : vs.length = 3 := by
  obtain ⟨_, _, _, _, _, _, rfl, _⟩ := h
  rfl
/-- a list of deep data between draws -/
def AcD (s : Addr) (K : PySem.W.Frag) (B : Hp) (l : Addr) (rs : List PyData) (H : Hp) : Prop := B l = none ∧ StO B s ∧ ExS s B H ∧ Tp.all rs = true ∧ ∃ vs, H l = some (.lst vs) ∧ DpAll K H vs rs
theorem AcD.ne {rs : List PyData} (h : AcD s K B l rs H) : l ≠ s := fun z => by
  obtain ⟨o, e⟩ := h.2.1.some
  rw [← z, h.1] at e
  cases e
theorem AcD.go {rs : List PyData} (h : AcD s K B l rs H) (a : ExS s H H1) : AcD s K B l rs H1 := by
  obtain ⟨n, st, x, tp, vs, hv, hd⟩ := id h
  exact ⟨n, st, x.trans a, tp, vs, a.1 l _ h.ne hv, dps_tx (a.tx x.2.1) hd tp⟩
theorem AcD.edp {rs : List PyData} (h : AcD s K B l rs H) : Dp K H (.ref l) (.list rs) := by
  obtain ⟨n, st, x, tp, vs, hv, hd⟩ := h
  exact .lst (sq_of hv) hd
theorem q_asgCall3 {sp : Sp} {E : XK} {i j : Nat} {w : V} (hs : σ[i]? = some (some (.ref s))) (h : EvD K te σ H d) (h3 : Ev tc σ H w) (k : ∀ v H1, Ex H H1 → Dp K H1 v d → sp [.ref s, v, w] H1 (fun v H2 => tz D (σ.set j (some v)) H2) E) : tSeq (tAsg (tCall sp [] E (tCons (tVar i) (tCons te (tCons tc tNil)))) (gName j)) tz D σ H :=
  ⟨_, hs, h H (Ex.refl _) _ fun v H1 a hv => h3 H1 a _ fun H2 b => k v H2 (a.trans b) (dp_ex b hv)⟩
/-- xs.append((one(store, row), 1)) -/
theorem s_appOne {i j k : Nat} {pls : List (Nm × Int)} {li : Addr} {inn : List Nm} (A : AcD s K B l (pls.map cntD) H) (hl : σ[i]? = some (some (.ref l))) (hs : σ[j]? = some (some (.ref s))) (hi : σ[k]? = some (some (.ref li))) (hin : H li = some (.lst (inn.map V.str))) (ne : li ≠ s) (h1 : 1 ≤ inn.length) (h2 : inn.length ≤ 100) (hz : pls.length < 1000)
    (kk : ∀ x H1, x ∈ inn → AcD s K B l ((pls ++ [(x, 1)]).map cntD) H1 → (∀ a o, a ≠ s → a ≠ l → H a = some o → H1 a = some o) → D.nx σ H1) : tDrop (tBM K "list" rAppend (tVar i) (tCons (tTup (tCons (tCall (spLOne K) [] E0 (tCons (tVar j) (tCons (tVar k) tNil))) (tCons (tC (.int 1)) tNil))) tNil)) D σ H := by
  obtain ⟨vs0, hv0⟩ : ∃ vs, H l = some (.lst vs) := by
    obtain ⟨_, _, _, _, vs, hv, _⟩ := A
    exact ⟨vs, hv⟩
  refine ⟨_, hl, .inl ⟨rfl, _, sq_of hv0⟩, tcons1 ?_⟩
  refine ⟨_, hs, _, hi, s, li, inn, rfl, A.2.2.1.2.1, hin, ne, h1, h2, fun x H1 x1 hx => ⟨sz_of (by simp only [List.length_cons, List.length_nil]; omega), fun p hp => ?_⟩⟩
  have A1 := (A.go x1).go (ExS.of x1.2.1 (Ex.new (o := .tup [.str x, .int 1]) hp))
  obtain ⟨n, st, y, tp, vs, hv, hd⟩ := id A1
  have ln := dp_len hd
  rw [List.length_map] at ln
  refine ⟨l, vs, _, rfl, rfl, hv, sz_lt (by omega), kk x _ hx ⟨n, st, exS_put n st y, tp_map tp_cnt _, vs ++ [.ref p], upd_same, ?_⟩ fun a o as al ha => ?_⟩
  · rw [List.map_append]
    exact dps_app (dps_tx (TX.updL hv) hd tp) (dp_tx (TX.updL hv) (.tup (st_of upd_same) (.cons (.str x) (.cons (.int 1) .nil)) : Dp K _ (.ref p) (cntD (x, 1))) rfl)
  · rw [upd_ne al]
    exact Ex.new hp a o (x1.1 a o as ha)
theorem readLPiece (h : spLPiece K vs H Q E) : tLPiece K { nx := fun _ H' => Q .non H', rt := Q } (start nLPiece vs) H := by
  obtain ⟨s, t, n, a, b, c, rfl, st, ht, n1, n3, a3, a4, b0, b6, c0, c3, bn, q⟩ := h
  have hsz : Dp K H (.ref t) (rowD [a, b, c]) := ed_tint (ns := [a, b, c]) ht
  show tSeq _ _ _ [some (.ref s), some (.int n), some (.ref t), none, none, none, none, none, none, none, none, none] H
  have eT : EvD K (tTup (tCons (tCB rMax2 (tCons (tC (.int 2)) (tCons (tOp (rIxT K) (tVar 2) (tC (.int 0))) tNil))) (tCons (tCB rMin2 (tCons (tC (.int 6)) (tCons (tOp (rIxT K) (tVar 2) (tC (.int 1))) tNil))) tNil))) [some (.ref s), some (.int n), some (.ref t), none, none, none, none, none, none, none, none, none] H (rowD [a, b]) := by
    refine ed_tup (ds := [.int a, .int b]) (eds2 (ed_int ?_) (ed_int ?_))
    · refine ev_is (ev_max2 ev_c (ei (ep_i0 (ep_var rfl hsz)).toD)) ?_
      rw [if_pos (by omega)]
    · refine ev_is (ev_cb (z := .int (if b < 6 then b else 6)) (ea_cons (ev_c (v := .int 6)) (ea1 (ei (ep_i1 (ep_var rfl hsz)).toD))) fun H3 a3 Q q => ⟨_, _, rfl, q H3 (Ex.refl _)⟩) ?_
      by_cases z : b < 6
      · rw [if_pos z]
      · rw [if_neg z, show b = 6 by omega]
  refine q_asgCall2 rfl eT fun v H1 x1 hv => ?_
  obtain ⟨tp, us, rfl, htp, hus⟩ := dp_tup hv
  rw [dps_ints hus] at htp
  refine ⟨s, tp, a, b, rfl, st.ex x1, htp, by omega, a4, b0, b6, fun places ways vw H2 x2 hw okn p2 pa wb => ?_⟩
  have xs2 := (ExS.of st x1).trans x2
  have hz2 := dp_tx (xs2.tx st) hsz (tp_row _)
  have pn : places.Nodup := nd_ltS okn.ps
  show tSeq _ _ _ [some (.ref s), some (.int n), some (.ref t), some vw, none, none, none, none, none, none, none, none] H2
  refine q_asgN (en_listT (ep_i0 (ep_var rfl hw)).toD) fun l us H3 a3' hn3 hp3 hd3 => ?_
  rw [dps_strs hd3] at hp3
  have A3 : AcS s H2 l places H3 := AcS.new xs2.2.1 hn3 a3' hp3
  have hw3 := dp_ex a3' hw
  show tSeq _ _ _ [some (.ref s), some (.int n), some (.ref t), some vw, some (.ref l), none, none, none, none, none, none, none] H3
  have hcnt : Ev (tOp rSubI (tVar 1) (tCB (rLenS K) (tCons (tOp (rIxT K) (tVar 3) (tC (.int 0))) tNil))) [some (.ref s), some (.int n), some (.ref t), some vw, some (.ref l), none, none, none, none, none, none, none] H3 (.int (n - (places.length : Int))) := ev_is (ev_sub (ev_var rfl) (ed_lenT (ep_i0 (ep_var rfl hw3)).toD)) (by rw [List.length_map])
  refine q_forSA (s := s) (A := fun m => m = n - (places.length : Int)) (fun Q q => tcons1 (hcnt H3 (Ex.refl _) _ fun H4 a4 => q _ H4 (ExS.of A3.sto a4) ⟨_, rfl, rfl⟩)) (fun m e => by omega) (fun m i σ' H' => ∃ (xs : List Nm) (j : Option V), σ' = [some (.ref s), some (.int n), some (.ref t), some vw, some (.ref l), j, none, none, none, none, none, none] ∧ AcS s H2 l xs H' ∧ xs.Nodup ∧ xs.length = places.length + i ∧ (∀ x ∈ places, x ∈ xs) ∧ m = n - (places.length : Int)) (fun m H4 e x4 => ⟨places, _, rfl, A3.go x4, pn, rfl, fun _ h => h, e⟩) (fun m i σ' H4 hi ⟨xs, j, e, A4, nd, xl, sub, em⟩ => ?_) fun m σ' H4 ⟨xs, j, e, A4, nd, xl, sub, em⟩ => ?_
  · subst e
    refine s_appS A4 rfl (evs_new A4 rfl rfl nd (by omega)) (by omega) fun x H5 hx A5 _ => ⟨xs ++ [x], _, rfl, A5, ?_, by rw [List.length_append, List.length_singleton, xl]; omega, fun z hz => List.mem_append_left _ (sub z hz), em⟩
    refine List.nodup_append.mpr ⟨nd, List.nodup_cons.mpr ⟨(fun z => nomatch z), List.nodup_nil⟩, fun c hc d hd e => hx ?_⟩
    rw [← List.mem_singleton.mp hd, ← e]
    exact hc
  subst e
  have x24 := A4.2.2.1
  have hw4 := dp_tx (x24.tx xs2.2.1) hw (tp_web _ _)
  have hz4 := dp_tx (x24.tx xs2.2.1) hz2 (tp_row _)
  have slt := sortS_lt nd
  have sl := sort_len xs
  have spm := sort_perm PyData.str xs
  change (sortS xs).Perm xs at spm
  have r1 := en_sortedL (K := K) (ed_var (σ := [some (.ref s), some (.int n), some (.ref t), some vw, some (.ref l), j, none, none, none, none, none, none]) (i := 4) rfl (ed_listS A4.2.2.2)) (ok_str (by omega))
  rw [srt_str] at r1
  have lx : 2 ≤ xs.length ∧ xs.length ≤ 4 ∧ n ≤ xs.length := by omega
  refine q_asgD (K := K) (d := webD (sortS xs) ways) (ed_tup (eds2 (ed_tupOf r1) (ep_i1 (ep_var rfl hw4)).toD)) fun vw5 H5 a5 hw5 => ?_
  have A5 := A4.ex a5
  show tSeq _ _ _ [some (.ref s), some (.int n), some (.ref t), some vw5, some (.ref l), j, none, none, none, none, none, none] H5
  have hz5 := dp_ex a5 hz4
  obtain ⟨m, rfl⟩ := Int.eq_ofNat_of_zero_le (show 0 ≤ n by omega)
  refine q_asgCall3 rfl (ep_i0 (ep_var rfl hw5)).toD (ev_var (v := .int (m : Nat)) rfl) fun vt H6 a6 hvt => ?_
  obtain ⟨tt, us2, rfl, htt, hus2⟩ := dp_tup hvt
  rw [dps_strs hus2] at htt
  have hm : m ≤ (sortS xs).length := by omega
  refine ⟨s, tt, sortS xs, m, rfl, A5.sto.ex a6, htt, hm, by omega, nd_ltS slt, fun ys pb H7 x7 hn7 hp7 ynd ysub yl => ?_⟩
  have st5 := A5.sto.ex a6
  have A7 : AcS s H2 l xs H7 := (A5.ex a6).go x7
  have Ab7 : AcS s H6 pb ys H7 := ⟨hn7, st5, x7, hp7⟩
  have hw7 := dp_tx (x7.tx st5) (dp_ex a6 hw5) (tp_web _ _)
  have hz7 := dp_tx (x7.tx st5) (dp_ex a6 hz5) (tp_row _)
  show tSeq _ _ _ [some (.ref s), some (.int (m : Nat)), some (.ref t), some vw5, some (.ref l), j, some (.ref pb), none, none, none, none, none] H7
  have inL : EvN K (tLc (iTup K (tOp (rIxT K) (tVar 3) (tC (.int 0)))) (gName 11) (tTest (tOp (rIn K true) (tVar 11) (tVar 6))) (tVar 11) [11]) [some (.ref s), some (.int (m : Nat)), some (.ref t), some vw5, some (.ref l), j, some (.ref pb), none, none, none, none, none] H7 (((sortS xs).filter fun x => decide (x ∉ ys)).map .str) := en_lcN (sortS xs) .str (fun x => decide (x ∉ ys)) .str (iv_tup (ep_i0 (ep_var rfl hw7))).toD (by omega) (by decide) (fun _ _ _ => rfl) fun x x' H8 hx a8 hx' => ⟨et_niL (by rw [dp_str hx']; exact ed_vs rfl) (ed_var rfl (ed_listS (a8 _ _ Ab7.2.2.2))), fun _ => ed_var rfl hx'⟩
  refine q_asgN inL fun li us8 H8 a8 hn8 hp8 hd8 => ?_
  rw [dps_strs hd8] at hp8
  have il : ((sortS xs).filter fun x => decide (x ∉ ys)).length ≤ 4 := Nat.le_trans (List.length_filter_le _ _) (by omega)
  generalize (sortS xs).filter (fun x => decide (x ∉ ys)) = inn at hp8 il
  have Ai8 : AcS s H7 li inn H8 := AcS.new A7.sto hn8 a8 hp8
  show tSeq _ _ _ [some (.ref s), some (.int (m : Nat)), some (.ref t), some vw5, some (.ref l), j, some (.ref pb), some (.ref li), none, none, none, none] H8
  refine q_asgN (K := K) (ds := []) (en_lst eds_nil (Nat.zero_le _)) fun lp us9 H9 a9 hn9 hp9 hd9 => ?_
  cases hd9
  have st8 := Ai8.sto
  have Ap9 : AcD s K H8 lp (([] : List (Nm × Int)).map cntD) H9 := ⟨hn9, st8, ExS.of st8 a9, rfl, [], hp9, .nil⟩
  have hz9 := dp_ex (a8.trans a9) hz7
  have st9 := st8.ex a9
  show tSeq _ _ _ [some (.ref s), some (.int (m : Nat)), some (.ref t), some vw5, some (.ref l), j, some (.ref pb), some (.ref li), some (.ref lp), none, none, none] H9
  refine q_forS st9 (evs_upto (lo := 0) (hi := c) rfl evs_ci (evs_int (fun H' x => ei (ed_ixT (k := 2) (ed_var rfl (dp_tx (x.tx st9) hz9 (tp_row _))) ev_c rfl)) rfl) c0 (by omega)) (fun n hn => by omega) (fun n i σ' H' => ∃ (pls : List (Nm × Int)) (j5 : Option V), σ' = [some (.ref s), some (.int (m : Nat)), some (.ref t), some vw5, some (.ref l), j5, some (.ref pb), some (.ref li), some (.ref lp), none, none, none] ∧ AcD s K H8 lp (pls.map cntD) H' ∧ pls.length ≤ i ∧ (∀ q ∈ pls, q.2 = 1) ∧ n ≤ 3) (fun n H10 hn x10 => ⟨[], _, rfl, Ap9.go x10, Nat.le_refl _, fun _ z => (nomatch z), by omega⟩) (fun n i σ' H10 hi ⟨pls, j5, e, Ap, pln, p1, hn⟩ => ?_) fun n σ' H10 ⟨pls, j5, e, Ap, pln, p1, hn⟩ => ?_
  · subst e
    have hli : H10 li = some (.lst (inn.map V.str)) := Ap.2.2.1.1 _ _ Ai8.ne hp8
    show tIfS _ _ _ _ [some (.ref s), some (.int (m : Nat)), some (.ref t), some vw5, some (.ref l), some (.int (i : Nat)), some (.ref pb), some (.ref li), some (.ref lp), none, none, none] H10
    refine s_when (et_gt (ed_lenL (K := K) (ed_var rfl (ed_listS hli))) ev_c) (fun cc H11 a11 => ?_) fun _ H11 a11 => ⟨pls, _, rfl, Ap.go (ExS.of Ap.2.2.1.2.1 a11), by omega, p1, hn⟩
    have hpos := of_decide_eq_true cc
    rw [List.length_map] at hpos
    refine s_appOne (Ap.go (ExS.of Ap.2.2.1.2.1 a11)) rfl rfl rfl (a11 _ _ hli) Ai8.ne (by omega) (by omega) (by omega) fun x H12 hx A12 _ => ⟨pls ++ [(x, 1)], _, rfl, A12, by rw [List.length_append, List.length_singleton]; omega, fun q hq => ?_, hn⟩
    rcases List.mem_append.mp hq with h | h
    · exact p1 q h
    · rw [List.mem_singleton.mp h]
  subst e
  have x810 := Ap.2.2.1
  have hw10 := dp_tx (x810.tx st8) (dp_ex a8 hw7) (tp_web _ _)
  have wl6 : ways.length ≤ 6 := by omega
  show tSeq _ _ _ [some (.ref s), some (.int (m : Nat)), some (.ref t), some vw5, some (.ref l), j5, some (.ref pb), some (.ref li), some (.ref lp), none, none, none] H10
  refine q_asgCall2 rfl (ed_var rfl hw10) fun v11 H11 a11 hw11 => ⟨s, v11, sortS xs, ways, rfl, x810.2.1.ex a11, hw11, by omega, fun heads vh H12 x12 hh12 hhl hhd => ?_⟩
  have st11 := x810.2.1.ex a11
  have x8_12 : ExS s H8 H12 := (x810.exR a11).trans x12
  have Ap12 : AcD s K H8 lp (pls.map cntD) H12 := (Ap.go (ExS.of x810.2.1 a11)).go x12
  have A12 : AcS s H2 l xs H12 := (A7.ex a8).go x8_12
  have Ab12 : AcS s H6 pb ys H12 := (Ab7.ex a8).go x8_12
  have hw12 := dp_tx (x12.tx st11) (dp_ex a11 hw10) (tp_web _ _)
  have hne : ∀ w ∈ ways, w.2.1 ≠ w.2.2 := fun w hw => ltS_ne (okn.lo w hw).2.2
  show tSeq _ _ _ [some (.ref s), some (.int (m : Nat)), some (.ref t), some vw5, some (.ref l), j5, some (.ref pb), some (.ref li), some (.ref lp), some vh, none, none] H12
  have lk : EvN K (tCall (spLLinks K) [] E0 (tCons (tTup (tCons (tVar 3) (tCons (tVar 9) (tCons (tTup tNil) tNil)))) tNil)) [some (.ref s), some (.int (m : Nat)), some (.ref t), some vw5, some (.ref l), j5, some (.ref pb), some (.ref li), some (.ref lp), some vh, none, none] H12 ((arrR ⟨sortS xs, ways, heads, []⟩).map wayD) := en_call (eds1 (ed_tup (eds_cons (ed_var rfl hw12) (eds2 (ed_var rfl hh12) (ed_tup (ds := []) eds_nil (Nat.zero_le _)))))) fun vs H13 a13 hv Q' E' r => ⟨⟨sortS xs, ways, heads, []⟩, nsD heads, hv, .inl rfl, ⟨hhl, hne, hhd, wl6⟩, r⟩
  refine q_asgD lk.toD fun vl H13 a13 hvl => ?_
  show tRet _ _ [some (.ref s), some (.int (m : Nat)), some (.ref t), some vw5, some (.ref l), j5, some (.ref pb), some (.ref li), some (.ref lp), some vh, some vl, none] H13
  have hsp := ed_listS (K := K) (A12.ex a13).2.2.2
  have hpb := ed_listS (K := K) (Ab12.ex a13).2.2.2
  have hpl := dp_ex a13 Ap12.edp
  have al : (arrR ⟨sortS xs, ways, heads, []⟩).length ≤ 6 := by
    unfold arrR
    rw [List.length_map, List.length_zip]
    show min ways.length heads.length ≤ 6
    omega
  have bis := build_is (places := sortS xs) (spots := xs) (plain := pls) hhl okn.nn (fun w hw => (okn.lo w hw).2.2) hhd []
  refine s_retD (K := K) (d := .tuple [worldD (buildW xs (arrR ⟨sortS xs, ways, heads, []⟩) pls), nsD ys]) (ed_tup (eds2 (ed_call (eds_cons (ed_var rfl hsp) (eds_cons (ed_var rfl hvl) (eds2 (ed_var rfl hpl) (en_lst (ds := []) eds_nil (Nat.zero_le _)).toD))) fun vs H14 a14 hv Q' E' r => ⟨.list (xs.map .str), xs, _, pls, hv, .inr rfl, by omega, by omega, by omega, r⟩) (ed_tupOfL (ed_var rfl hpb)))) fun v H14 a14 hv => ?_
  rw [bis] at hv
  have xf : ExS s H H14 := (xs2.trans A12.2.2.1).exR (a13.trans a14)
  refine q ⟨⟨sortS xs, ways, heads, (sortS xs).map fun x => ((pls.filter fun q => decide (q.1 = x)).map (·.2)).sum⟩, ys⟩ v H14 xf hv ⟨⟨nd_ltS slt, by show List.length (List.map _ _) = _; rw [List.length_map], hhl, fun w hw => ?_, hhd, okn.nn, slt, by show (sortS xs).length ≤ 10; omega, wl6, fun n hn => ?_⟩, ynd, ysub, ⟨by show 1 ≤ ys.length; omega, by show ys.length ≤ 3; omega⟩, ?_⟩
  · have h := okn.lo w hw
    exact ⟨spm.mem_iff.mpr (sub _ h.1), spm.mem_iff.mpr (sub _ h.2.1), h.2.2⟩
  · obtain ⟨x, _, rfl⟩ := List.mem_map.mp hn
    refine sum_nn fun k hk => ?_
    obtain ⟨q', hq', rfl⟩ := List.mem_map.mp hk
    rw [p1 q' (List.mem_filter.mp hq').1]
    decide
  · show ways.length ≤ 5 ∨ ys.length = 1
    omega
end
end Tb
set_option Elab.async false
set_option linter.all false
set_option maxRecDepth 100000
set_option maxHeartbeats 4000000
namespace Tb
open PySem PySem.Spec PyProof.Rows L2 Evl
section
variable {K : PySem.W.Frag} {vs : List V} {H : Hp} {Q : VK} {E : XK}
variable {D : Ends} {tu tw tz : TS} {t : TT} {σ : L2.St} {te ta tb tc tl : TE} {tas : TA} {s : Addr} {H1 H2 B : Hp} {P P' : V → Prop} {l : Addr} {xs : List Nm} {d : PyData} {ds : List PyData} {g : TG} {v x y : V}
theorem en_lcR0M {α : Type} (L : List α) {j : Nat} {n : Int} {te : TE} {vs : List Nat} (out : α → PyData) (h : EvA tas σ H [.int n]) (hn : n = (L.length : Nat)) (hz : L.length ≤ 50000) (hj : j ∈ vs) (ho : ∀ a ∈ L, Tp (out a) = true)
    (hs : ∀ (i : Nat) a H1, L[i]? = some a → Ex H H1 → EvD K te ((wipe σ vs).set j (some (.int (i : Nat)))) H1 (out a)) :
    EvN K (tLc (iRng1 tas) (gName j) tYes te vs) σ H (L.map out) := by
  subst hn
  have iv := (iv_rng (K := K) h (by omega)).toD
  rw [← zip_rng] at iv
  have q := en_lc0 (K := K) (te := te) (vs := vs) (g := gName j) L.zipIdx (fun q => PyData.int ((q.2 : Nat) : Int)) (fun q => out q.1) iv (by rw [List.length_zipIdx]; exact hz) (fun a ha => ho _ (List.mem_of_getElem? (zip_at ha))) fun q x H1 hq e hx Q k => by
    rw [dp_int hx]
    exact k _ ((wset hj).trans wip) (hs q.2 q.1 H1 (zip_at hq) e)
  have e := zip_filter (fun _ : α => true) out L 0
  rw [List.filter_eq_self.mpr fun _ _ => rfl, List.filter_eq_self.mpr fun _ _ => rfl] at e
  rw [e] at q
  exact q
theorem tup_ty (h : Dp K H v (.tuple ds)) : TyX K H v (.type "tuple") := by
  obtain ⟨a, xs, rfl, hs, _⟩ := dp_tup h
  rcases hs with (h1 | ⟨o, h1⟩) | ⟨o, its, n, h1, h2, _⟩
  · exact .base (.tup h1)
  · exact .fTuple h1
  · exact .kTuple h1 h2
theorem dps_take : ∀ {vs : List V} {ds : List PyData} {n : Nat}, DpAll K H vs ds → DpAll K H (vs.take n) (ds.take n)
  | _, _, 0, _ => by rw [List.take_zero, List.take_zero]; exact .nil
  | _, _, _ + 1, .nil => .nil
  | _, _, n + 1, .cons h t => by
    rw [List.take_succ_cons, List.take_succ_cons]
    exact .cons h (dps_take t)
/-- a leaf's type -/
theorem leaf_ty (hp : plainD d = true) (h : Dp K H v d) : (∃ ds, d = .tuple ds ∧ plainD.plainAll ds = true) ∨ ∃ t, (t = "bool" ∨ t = "int" ∨ t = "str") ∧ (∀ H', TyX K H' v (.type t)) ∧ v ≠ .non ∧ scal v v = true ∧ ∀ w H', Dp K H' w d → w = v := by
  cases d with
  | none => cases hp
  | bool b => rw [dp_bool h]; exact .inr ⟨"bool", .inl rfl, fun _ => .base (.bl b), by simp, rfl, fun w H' hw => dp_bool hw⟩
  | int b => rw [dp_int h]; exact .inr ⟨"int", .inr (.inl rfl), fun _ => .base (.int b), by simp, rfl, fun w H' hw => dp_int hw⟩
  | str b => rw [dp_str h]; exact .inr ⟨"str", .inr (.inr rfl), fun _ => .base (.str b), by simp, rfl, fun w H' hw => dp_str hw⟩
  | list _ => cases hp
  | tuple ds => exact .inl ⟨ds, rfl, hp⟩
  | dict _ => cases hp
theorem plain_mem {ds : List PyData} (h : plainD.plainAll ds = true) : ∀ d ∈ ds, plainD d = true := by
  induction ds with
  | nil => intro d hd; cases hd
  | cons a r ih =>
    have h' : (plainD a && plainD.plainAll r) = true := h
    rw [Bool.and_eq_true] at h'
    intro d hd
    rcases List.mem_cons.mp hd with e | e
    · rw [e]; exact h'.1
    · exact ih h'.2 d e
mutual
theorem plain_tp : ∀ d : PyData, plainD d = true → Tp d = true
  | .none, _ => rfl
  | .bool _, _ => rfl
  | .int _, _ => rfl
  | .str _, _ => rfl
  | .list _, h => by cases h
  | .tuple ds, h => plain_tps ds h
  | .dict _, h => by cases h
theorem plain_tps : ∀ ds : List PyData, plainD.plainAll ds = true → Tp.all ds = true
  | [], _ => rfl
  | a :: r, h => by
    have h' : (plainD a && plainD.plainAll r) = true := h
    rw [Bool.and_eq_true] at h'
    exact tp_cons.mpr ⟨plain_tp a h'.1, plain_tps r h'.2⟩
end
theorem szAll_app (a b : List PyData) : szD.szAll (a ++ b) = szD.szAll a + szD.szAll b := by
  induction a with
  | nil => exact (Nat.zero_add _).symm
  | cons x r ih =>
    show szD x + szD.szAll (r ++ b) = szD x + szD.szAll r + szD.szAll b
    omega
theorem sz_pos (d : PyData) : 1 ≤ szD d := by
  cases d <;> first | exact Nat.le_refl 1 | exact Nat.le_add_left _ _
theorem szAll_len : ∀ ds : List PyData, ds.length ≤ szD.szAll ds
  | [] => Nat.le_refl _
  | a :: r => by
    have := szAll_len r
    have := sz_pos a
    show r.length + 1 ≤ szD a + szD.szAll r
    omega
/-- two answers of isinstance differ -/
theorem et_neB {a b : Bool} (h : Ev ta σ H (.bl a)) (h2 : Ev tb σ H (.bl b)) : EvT (tTest (tOp rNe ta tb)) σ H (a != b) := by
  refine et_is (et_test (ev_op h h2 (rv_ne rfl))) ?_
  cases a <;> cases b <;> rfl
theorem ev_three {t : String} (h : Ev ta σ H x) (ht : t = "bool" ∨ t = "int" ∨ t = "str") (ty : ∀ H', TyX K H' x (.type t)) : Ev (tCB (rIsiT K) (tCons ta (tCons (tTup (tCons (tC (.ty "bool")) (tCons (tC (.ty "int")) (tCons (tC (.ty "str")) tNil)))) tNil))) σ H (.bl true) := fun H1 a Q q =>
  h H1 a _ fun H2 b => ⟨sz_of (by simp only [List.length_cons, List.length_nil]; omega), fun p hp => ⟨x, p, _, _, [.type "bool", .type "int", .type "str"], true, rfl, upd_same, .cons (.ty "bool") (.cons (.ty "int") (.cons (.ty "str") .nil)), ty _, (by
    rcases ht with rfl | rfl | rfl
    · exact kitAny_cons (b := true) (kit_ty (a := "bool") (b := "bool") (by decide +kernel)) (fun z => nomatch z) fun _ => rfl
    · exact kitAny_cons (b := false) (kit_ty (a := "int") (b := "bool") (by decide +kernel)) (fun _ => kitAny_cons (b := true) (kit_ty (a := "int") (b := "int") (by decide +kernel)) (fun z => nomatch z) fun _ => rfl) fun z => nomatch z
    · exact kitAny_cons (b := false) (kit_ty (a := "str") (b := "bool") (by decide +kernel)) (fun _ => kitAny_cons (b := false) (kit_ty (a := "str") (b := "int") (by decide +kernel)) (fun _ => kitAny_cons (b := true) (kit_ty (a := "str") (b := "str") (by decide +kernel)) (fun z => nomatch z) fun _ => rfl) fun z => nomatch z) fun z => nomatch z), q _ (b.trans (Ex.new hp))⟩⟩
theorem lenLEqual (h : spLEqual K vs H Q E) : vs.length = 2 := by
  obtain ⟨_, hd, _⟩ := h
  exact dp_len hd
abbrev two (d : PyData) : PyData := .tuple [d, d]
theorem tp_two {ds : List PyData} (h : ∀ d ∈ ds, plainD d = true) : Tp.all (ds.map two) = true := tp_of fun d hd => tp_cons.mpr ⟨plain_tp d (h d hd), tp_cons.mpr ⟨plain_tp d (h d hd), rfl⟩⟩
theorem kit_leaf {t n : String} (ht : t = "bool" ∨ t = "int" ∨ t = "str") (hn : n = "tuple" ∨ n = "list") : kitB t n = some false := by
  rcases ht with rfl | rfl | rfl <;> rcases hn with rfl | rfl <;> decide +kernel
theorem kit_bs {t n : String} (ht : t = "bool" ∨ t = "int" ∨ t = "str") (hn : n = "bool" ∨ n = "str") : ∃ b, kitB t n = some b := by
  rcases ht with rfl | rfl | rfl <;> rcases hn with rfl | rfl
  · exact ⟨true, by decide +kernel⟩
  · exact ⟨false, by decide +kernel⟩
  · exact ⟨false, by decide +kernel⟩
  · exact ⟨false, by decide +kernel⟩
  · exact ⟨false, by decide +kernel⟩
  · exact ⟨true, by decide +kernel⟩
theorem readLEqual (h : spLEqual K vs H Q E) : tLEqual K { nx := fun _ H' => Q .non H', rt := Q } (start nLEqual vs) H := by
  obtain ⟨d, hd, hp, hz, q⟩ := h
  obtain ⟨x, y, rfl, hx, hy⟩ := dp2 hd
  show tSeq _ _ _ [some x, some y, none, none, none, none, none, none] H
  refine q_asgNL (K := K) (ds := [two d]) (en_lst (eds1 (ed_tup (ds := [d, d]) (eds2 (ed_var rfl hx) (ed_var rfl hy)))) (by show 1 ≤ 100000; decide)) fun l H1 P => ?_
  show tSeq _ _ _ [some x, some y, some (.ref l), none, none, none, none, none] H1
  refine q_forI (List.range 200000) (ea1 ev_c) (by rw [List.length_range]; rfl) (by rw [List.length_range]; decide) (fun i σ' H' => ∃ (ds : List PyData) (j3 j4 j5 j6 j7 : Option V), σ' = [some x, some y, some (.ref l), j3, j4, j5, j6, j7] ∧ LcP K H l (ds.map two) H' ∧ (∀ d ∈ ds, plainD d = true) ∧ szD.szAll ds + i ≤ 1000) (fun H2 a2 => ⟨[d], _, _, _, _, _, rfl, P.ex a2, fun e he => by rw [List.mem_singleton.mp he]; exact hp, by show szD d + 0 + 0 ≤ 1000; omega⟩) (fun i a σ' H2 hi ⟨ds, j3, j4, j5, j6, j7, e, P2, pl, sz⟩ => ?_) fun σ' H2 ⟨ds, j3, j4, j5, j6, j7, e, P2, pl, sz⟩ => ?_
  · subst e
    show tSeq _ _ _ [some x, some y, some (.ref l), some (.int (i : Nat)), j4, j5, j6, j7] H2
    refine q_when (et_eqI (ed_lenL (K := K) (ed_var rfl P2.edp)) ev_c) (fun c H3 a3 => s_ret ev_c fun H4 a4 => q (.bl true) H4 (P2.2.1.trans (a3.trans a4)) (.bl true)) fun c H3 a3 => ?_
    have c' := of_decide_eq_false c
    rw [List.length_map] at c'
    have P3 := P2.ex a3
    obtain ⟨ds', z, rfl⟩ : ∃ ds' z, ds = ds' ++ [z] := ⟨ds.dropLast, ds.getLast (fun e => c' (by rw [e]; rfl)), (List.dropLast_concat_getLast _).symm⟩
    obtain ⟨pn, pe, ws, hws, hwd⟩ := id P3
    rw [List.map_append] at hwd
    have wl := dp_len hwd
    rw [List.length_append, List.length_map] at wl
    have wl' : ws.length = ds'.length + 1 := wl
    obtain ⟨u, hu, hud⟩ := dps_get (i := ds'.length) (d := two z) hwd (by rw [List.getElem?_append_right (by rw [List.length_map]; omega), List.length_map, Nat.sub_self]; rfl)
    have pl' : ∀ d ∈ ds', plainD d = true := fun d hd => pl d (List.mem_append_left _ hd)
    have plz : plainD z = true := pl z (List.mem_append_right _ List.mem_cons_self)
    have tpz := plain_tp z plz
    rw [szAll_app] at sz
    have sz' : szD.szAll ds' + szD z + i ≤ 1000 := sz
    have zpos := sz_pos z
    have dsl := szAll_len ds'
    have P4 : LcP K H l (ds'.map two) (upd H3 l (.lst ws.dropLast)) := by
      refine ⟨pn, Ex.mut pe pn, _, upd_same, dps_tx (TX.updL hws) ?_ (tp_two pl')⟩
      have h1 : DpAll K H3 (ws.take ds'.length) ((ds'.map two ++ [two z]).take ds'.length) := dps_take hwd
      have e1 : (ds'.map two ++ [two z]).take ds'.length = ds'.map two := by rw [List.take_append_of_le_length (by rw [List.length_map]; omega), List.take_of_length_le (by rw [List.length_map]; omega)]
      rw [e1] at h1
      rw [List.dropLast_eq_take, wl']
      exact h1
    have hu4 : Dp K (upd H3 l (.lst ws.dropLast)) u (two z) := dp_tx (TX.updL hws) hud (tp_cons.mpr ⟨tpz, tp_cons.mpr ⟨tpz, rfl⟩⟩)
    refine ⟨_, rfl, .inl ⟨rfl, ws, sq_of hws⟩, l, ws, u, rfl, rfl, hws, by rw [wl', Nat.add_sub_cancel]; exact hu, ?_⟩
    generalize upd H3 l (.lst ws.dropLast) = H4 at P4 hu4
    show tSeq _ _ _ [some x, some y, some (.ref l), some (.int (i : Nat)), some u, j5, j6, j7] H4
    refine q_asgD (ep_i0 (ep_var rfl hu4)).toD fun v1 H5 a5 hv1 => ?_
    refine q_asgD (ep_i1 (ep_var rfl (dp_ex a5 hu4))).toD fun v2 H6 a6 hv2 => ?_
    show tIfS _ _ _ _ [some x, some y, some (.ref l), some (.int (i : Nat)), some u, some v1, some v2, j7] H6
    have P6 := P4.ex (a5.trans a6)
    have hv16 := dp_ex a6 hv1
    rcases leaf_ty plz hv2 with ⟨es, rfl, pes⟩ | ⟨tn, htn, ty, nn, sc, un⟩
    · have tyE : ∀ H', Ex H6 H' → TyX K H' v2 (.type "tuple") := fun H' a => tup_ty (dp_ex a hv2)
      have tyO : ∀ H', Ex H6 H' → TyX K H' v1 (.type "tuple") := fun H' a => tup_ty (dp_ex a hv16)
      have esz : szD (.tuple es) = szD.szAll es + 1 := rfl
      have esl := szAll_len es
      refine s_if (et_or (a := true) (b := false) (et_B (ev_isi (ev_var rfl) tyE (by decide +kernel))) fun z => (nomatch z)) (fun _ H7 a7 => ?_) fun z => (nomatch z)
      refine q_when (et_is (et_or (et_neB (ev_isi (b := true) (ev_var rfl) (fun H' a => tyE H' (a7.trans a)) (by decide +kernel)) (ev_isi (b := true) (ev_var rfl) (fun H' a => tyO H' (a7.trans a)) (by decide +kernel))) fun _ => et_neB (ev_isi (b := false) (ev_var rfl) (fun H' a => tyE H' (a7.trans a)) (by decide +kernel)) (ev_isi (b := false) (ev_var rfl) (fun H' a => tyO H' (a7.trans a)) (by decide +kernel))) (b := false) rfl) (fun z => nomatch z) fun _ H8 a8 => ?_
      have b8 := a7.trans a8
      refine q_when (et_is (et_neI (ed_lenT (ed_var rfl (dp_ex b8 hv16))) (ed_lenT (ed_var rfl (dp_ex b8 hv2)))) (b := false) (by simp)) (fun z => nomatch z) fun _ H9 a9 => ?_
      have b9 := b8.trans a9
      have P9 := P6.ex b9
      have nw : EvN K (tLc (iRng1 (tCons (tCB (rLenS K) (tCons (tVar 6) tNil)) tNil)) (gName 7) tYes (tTup (tCons (tOp (rIx K) (tVar 5) (tVar 7)) (tCons (tOp (rIx K) (tVar 6) (tVar 7)) tNil))) [7]) [some x, some y, some (.ref l), some (.int (i : Nat)), some u, some v1, some v2, j7] H9 (es.map two) := en_lcR0M es two (ea1 (ed_lenT (ed_var rfl (dp_ex b9 hv2)))) rfl (by omega) (by decide) (fun e he => by
        have := plain_tp e (plain_mem pes e he)
        exact tp_cons.mpr ⟨this, tp_cons.mpr ⟨this, rfl⟩⟩) fun k e H10 hk a10 => ed_tup (eds2 (ed_ixQ (ed_var rfl (dp_ex (b9.trans a10) hv16)) (.inl rfl) (ev_var rfl) hk) (ed_ixQ (ed_var rfl (dp_ex (b9.trans a10) hv2)) (.inl rfl) (ev_var rfl) hk))
      obtain ⟨_, _, us, hus, hud2⟩ := id P9
      refine ⟨_, rfl, .inl ⟨rfl, us, sq_of hus⟩, tcons1 (nw H9 (Ex.refl _) _ fun pb zs H10 a10 hn10 hp10 hd10 => ?_)⟩
      have P10 := P9.ex a10
      have hus10 := a10 _ _ hus
      have ul := dp_len hud2
      have zl := dp_len hd10
      rw [List.length_map] at ul zl
      refine ⟨l, pb, us, zs, rfl, rfl, hus10, hp10, sz_of (by omega), ds' ++ es, _, _, _, _, _, rfl, ?_, fun e he => ?_, ?_⟩
      · refine ⟨P10.1, Ex.mut P10.2.1 P10.1, us ++ zs, upd_same, ?_⟩
        rw [List.map_append]
        exact dps_cat (dps_tx (TX.updL hus10) (dps_ex a10 hud2) (tp_two pl')) (dps_tx (TX.updL hus10) hd10 (tp_two (plain_mem pes)))
      · rcases List.mem_append.mp he with h | h
        · exact pl' e h
        · exact plain_mem pes e h
      · rw [szAll_app]
        omega
    · have e12 : v1 = v2 := un v1 H6 hv16
      subst e12
      obtain ⟨bb, hbb⟩ := kit_bs (n := "bool") htn (.inl rfl)
      obtain ⟨bs, hbs⟩ := kit_bs (n := "str") htn (.inr rfl)
      refine s_if (et_or (a := false) (b := false) (et_B (ev_isi (ev_var rfl) (fun H' _ => ty H') (kit_leaf htn (.inl rfl)))) fun _ => et_B (ev_isi (ev_var rfl) (fun H' _ => ty H') (kit_leaf htn (.inr rfl)))) (fun z => nomatch z) fun _ H7 a7 => ?_
      refine s_if (et_is (et_isNone (ev_var rfl)) (decide_eq_false nn)) (fun z => nomatch z) fun _ H8 a8 => ?_
      refine s_if (et_is (et_or (et_neB (ev_isi (ev_var rfl) (fun H' _ => ty H') hbb) (ev_isi (ev_var rfl) (fun H' _ => ty H') hbb)) fun _ => et_neB (ev_isi (ev_var rfl) (fun H' _ => ty H') hbs) (ev_isi (ev_var rfl) (fun H' _ => ty H') hbs)) (b := false) (by simp)) (fun z => nomatch z) fun _ H9 a9 => ?_
      refine s_when (et_or (a := false) (b := false) (et_not (a := true) (et_B (ev_three (ev_var rfl) htn ty))) fun _ => et_is (et_test (ev_op (ev_var rfl) (ev_var rfl) (rv_ne sc))) (by simp)) (fun z => nomatch z) fun _ H10 a10 => ⟨ds', _, _, _, _, _, rfl, P6.ex (a7.trans (a8.trans (a9.trans a10))), pl', by omega⟩
  · rw [List.length_range] at sz
    omega
end
end Tb
set_option Elab.async false
set_option linter.all false
set_option maxRecDepth 100000
set_option maxHeartbeats 4000000
namespace Tb
open PySem PySem.Spec PyProof.Rows L2 Evl
section
variable {K : PySem.W.Frag} {vs : List V} {H : Hp} {Q : VK} {E : XK}
variable {D : Ends} {tu tw tz : TS} {t : TT} {σ : L2.St} {te ta tb tc tl : TE} {tas : TA} {s : Addr} {H1 H2 B : Hp} {P P' : V → Prop} {l : Addr} {xs : List Nm} {d : PyData} {ds : List PyData} {g : TG} {v x y : V}
theorem pl_map {α : Type} {f : α → PyData} (h : ∀ a, plainD (f a) = true) : ∀ l : List α, plainD.plainAll (l.map f) = true
  | [] => rfl
  | a :: l => by
    show (plainD (f a) && plainD.plainAll (l.map f)) = true
    rw [h, pl_map h l]
    rfl
theorem pl_cons {d : PyData} {ds : List PyData} (h : plainD d = true) (h2 : plainD.plainAll ds = true) : plainD.plainAll (d :: ds) = true := by
  show (plainD d && plainD.plainAll ds) = true
  rw [h, h2]
  rfl
theorem pl_ns (l : List Nm) : plainD (nsD l) = true := pl_map (fun _ => rfl) l
theorem pl_piece (p : Pc) : plainD (pieceD p) = true := pl_cons (pl_cons (pl_cons (pl_ns _) (pl_cons (pl_map (fun _ => rfl) _ : plainD (.tuple (p.w.ways.map wayD)) = true) rfl) : plainD (webD _ _) = true) (pl_cons (pl_ns _) (pl_cons (pl_map (fun _ => rfl) _ : plainD (.tuple (p.w.crowd.map crD)) = true) rfl)) : plainD (worldD p.w) = true) (pl_cons (pl_ns _) rfl)
theorem sz_map {α : Type} {f : α → PyData} {c : Nat} (h : ∀ a, szD (f a) ≤ c) : ∀ l : List α, szD.szAll (l.map f) ≤ c * l.length
  | [] => Nat.le_refl _
  | a :: l => by
    show szD (f a) + szD.szAll (l.map f) ≤ c * (l.length + 1)
    have := h a
    have := sz_map h l
    rw [Nat.mul_add]
    omega
theorem sz_piece {p : Pc} (o : Ok p) : szD (pieceD p) ≤ 1000 := by
  have e : szD (pieceD p) = ((((szD.szAll (p.w.places.map .str) + 1) + ((szD.szAll (p.w.ways.map wayD) + 1) + 0) + 1) + ((szD.szAll (p.w.heads.map .str) + 1) + ((szD.szAll (p.w.crowd.map crD) + 1) + 0)) + 1) + ((szD.szAll (p.border.map .str) + 1) + 0)) + 1 := rfl
  have h1 := sz_map (f := PyData.str) (c := 1) (fun _ => Nat.le_refl _) p.w.places
  have h2 := sz_map (f := wayD) (c := 4) (fun _ => Nat.le_refl _) p.w.ways
  have h3 := sz_map (f := PyData.str) (c := 1) (fun _ => Nat.le_refl _) p.w.heads
  have h4 := sz_map (f := crD) (c := 3) (fun _ => Nat.le_refl _) p.w.crowd
  have h5 := sz_map (f := PyData.str) (c := 1) (fun _ => Nat.le_refl _) p.border
  have a1 := o.w.pl
  have a2 := o.w.wl
  have a3 := o.w.hl
  have a4 := o.w.cl
  have a5 := o.bl
  rw [e]
  omega
theorem ev_equal (h : EvD K ta σ H d) (h2 : EvD K tb σ H d) (hp : plainD d = true) (hz : szD d ≤ 1000) : Ev (tCall (spLEqual K) [] E0 (tCons ta (tCons tb tNil))) σ H (.bl true) := eb (ed_call (eds2 h h2) fun vs H2 a2 hv Q' E' r => ⟨d, hv, hp, hz, r⟩)
theorem ev_eqP {p : Pc} (o : Ok p) (h : EvD K ta σ H (pieceD p)) (h2 : EvD K tb σ H (pieceD p)) : Ev (tCall (spLEqual K) [] E0 (tCons ta (tCons tb tNil))) σ H (.bl true) := ev_equal h h2 (pl_piece p) (sz_piece o)
theorem ev_eqB1 {b : Bool} (h : Ev ta σ H (.bl b)) (h2 : Ev tb σ H (.bl b)) : Ev (tCall (spLEqual K) [] E0 (tCons ta (tCons tb tNil))) σ H (.bl true) := ev_equal (ed_bl h) (ed_bl h2) rfl (by show 1 ≤ 1000; decide)
theorem ev_alike {p q : Pc} {b : Bool} (o : Ok p) (o' : Ok q) (hl : p.border.length = q.border.length) (hb : b = true ↔ behav p = behav q) (h : EvD K ta σ H (pieceD p)) (h2 : EvD K tb σ H (pieceD q)) : Ev (tCall (spAreAlike K) [] E0 (tCons ta (tCons tb tNil))) σ H (.bl b) :=
  eb (ed_call (eds2 h h2) fun vs H2 a2 hv Q' E' r => ⟨p, q, hv, o, o', hl, fun b' hb' => by
    have e : b' = b := by
      cases b <;> cases b' <;> simp_all
    rw [e]
    exact r⟩)
theorem ed_trim {p : Pc} (o : Ok p) (h : EvD K ta σ H (pieceD p)) : EvD K (tCall (spTrim K) [] E0 (tCons ta tNil)) σ H (pieceD (trim p)) := ed_call (eds1 h) fun vs H2 a2 hv Q' E' r => ⟨p, hv, o, r⟩
theorem ed_trimmed {p : Pc} (o : Ok p) (h : EvD K ta σ H (pieceD p)) : EvD K (tCall (spLTrimmed K) [] E0 (tCons ta tNil)) σ H (pieceD (trim p)) := ed_call (eds1 h) fun vs H2 a2 hv Q' E' r => ⟨p, hv, o, r⟩
theorem et_nt (h : Ev ta σ H (.bl true)) : EvT (tNot (tB ta)) σ H false := et_not (a := true) (et_B h)
theorem q_whenS {M : L2.St → Hp → Prop} (hr : ∀ σ' H', M σ' H' → tz D σ' H') (h : ∀ Q : Bool → Hp → Prop, (∀ b H1, ExS s H H1 → Q b H1) → t σ H Q) (h1 : (∀ σ' H', M σ' H' → tz D σ' H') → ∀ H1, ExS s H H1 → tu { D with nx := tz D } σ H1) (h2 : ∀ H1, ExS s H H1 → M σ H1) : tSeq (tIfS t tu tNext) tz D σ H :=
  h _ fun b H1 a => by
    cases b with
    | true => exact h1 hr H1 a
    | false => exact hr _ _ (h2 H1 a)
theorem lenLaw (h : spLaw K vs H Q E) : vs.length = 1 := by
  obtain ⟨_, _, rfl, _⟩ := h
  rfl
theorem ep_way {i : Nat} {p : Pc} {k : Nat} {w : Wy} (h : EvP K ta σ H (pieceD p)) (hi : Ev tb σ H (.int (k : Nat))) (hk : p.w.ways[k]? = some w) : EvD K (tOp (rIxT K) (tOp (rIxT K) (tOp (rIxT K) (tOp (rIxT K) (tOp (rIxT K) ta (tC (.int 0))) (tC (.int 0))) (tC (.int 1))) tb) (tC (.int 0))) σ H (.str w.1) := (ep_i0 (ep_ixT (ep_i1 (ep_i0 (ep_i0 h))) hi (map_at (f := wayD) hk))).toD
theorem readLaw (h : spLaw K vs H Q E) : tLaw K { nx := fun _ H' => Q .non H', rt := Q } (start nLaw vs) H := by
  obtain ⟨a, ns, rfl, hs, hz, q⟩ := h
  show tSeq _ _ _ [some (.ref a), none, none, none, none, none, none, none, none, none] H
  refine ⟨_, rfl, a, ns, rfl, hs, hz, fun s H1 a1 hn st => ?_⟩
  show tSeq _ _ _ [some (.ref a), some (.ref s), none, none, none, none, none, none, none, none] H1
  refine q_asgS st (evs_range (lo := 1) (hi := 3) rfl evs_ci evs_ci (by omega) (by omega)) fun v H2 x2 ⟨m, e, m1, m3⟩ => ?_
  subst e
  show tSeq _ _ _ [some (.ref a), some (.ref s), some (.int m), none, none, none, none, none, none, none] H2
  refine q_asgD (K := K) (d := rowD [4, 6 - m, 3]) (ed_tup (ds := [.int 4, .int (6 - m), .int 3]) (eds_cons ed_c_int (eds2 (ed_int (ev_sub ev_c (ev_var rfl))) ed_c_int))) fun vz H3 a3 hvz => ?_
  have st3 := x2.2.1.ex a3
  show tSeq _ _ _ [some (.ref a), some (.ref s), some (.int m), some vz, none, none, none, none, none, none] H3
  refine q_whenS (s := s) (M := fun σ' H' => ∃ (m aa bb : Int) (vz : V), σ' = [some (.ref a), some (.ref s), some (.int m), some vz, none, none, none, none, none, none] ∧ StO H' s ∧ Dp K H' vz (rowD [aa, bb, 3]) ∧ 1 ≤ m ∧ m ≤ 3 ∧ 3 ≤ aa ∧ aa ≤ 4 ∧ 0 ≤ bb ∧ bb ≤ 6 ∧ (bb ≤ 5 ∨ m = 1)) (fun σ' H4 ⟨m, aa, bb, vz, e, st4, hvz, m1, m3, a3', a4', b0, b6, bm⟩ => ?_) (fun Q' q' => ?_) (fun hr H4 x4 => ?_) fun H4 x4 => ⟨m, 4, 6 - m, vz, rfl, x4.2.1, dp_tx (x4.tx st3) hvz (tp_row _), m1, m3, by omega, by omega, by omega, by omega, by omega⟩
  · subst e
    obtain ⟨tz', us, rfl, htz, hus⟩ := dp_tup hvz
    rw [dps_ints hus] at htz
    refine ⟨_, rfl, _, rfl, _, rfl, s, tz', m, aa, bb, 3, rfl, st4, htz, m1, m3, a3', a4', b0, b6, by omega, by omega, bm, fun p vp H5 x5 hp o => ?_⟩
    show tSeq _ _ _ [some (.ref a), some (.ref s), some (.int m), some (.ref tz'), some vp, none, none, none, none, none] H5
    have st5 := x5.2.1
    refine q_asgD (ed_trimmed o (ed_var rfl hp)) fun vr H6 a6 hr6 => ?_
    have ot := trim_ok o
    have hp6 := dp_ex a6 hp
    have bl : (trim p).border.length = p.border.length := by rw [trim_border o]
    show tSeq _ _ _ [some (.ref a), some (.ref s), some (.int m), some (.ref tz'), some vp, some vr, none, none, none, none] H6
    refine q_when (et_or (a := false) (b := false) (et_nt (ev_eqP ot (ed_trim o (ed_var rfl hp6)) (ed_var rfl hr6))) fun _ => et_nt (ev_eqB1 (ev_alike (b := true) ot o bl (by simp [trim_beh o]) (ed_var rfl hr6) (ed_var rfl hp6)) ev_c)) (fun z => nomatch z) fun _ H7 a7 => ?_
    have hp7 := dp_ex a7 hp6
    have hr7 := dp_ex a7 hr6
    refine q_forI (trim p).w.ways (ea1 (ed_lenT (ep_i1 (ep_i0 (ep_var rfl hr7))).toD)) (by rw [List.length_map, ot.w.hl]) (by have := ot.w.wl; omega) (fun i σ' H' => (∃ c6 c7, σ' = [some (.ref a), some (.ref s), some (.int m), some (.ref tz'), some vp, some vr, c6, c7, none, none]) ∧ Ex H7 H') (fun H8 a8 => ⟨⟨_, _, rfl⟩, a8⟩) (fun i w σ' H8 hi ⟨⟨c6, c7, e⟩, a8⟩ => ?_) fun σ' H8 ⟨⟨c6, c7, e⟩, a8⟩ => ?_
    · subst e
      show tSeq _ _ _ [some (.ref a), some (.ref s), some (.int m), some (.ref tz'), some vp, some vr, some (.int (i : Nat)), c7, none, none] H8
      have hr8 := dp_ex a8 hr7
      refine q_asgD (ed_lifted ot hi (ed_var rfl hr8) (ev_var rfl)) fun vl H9 a9 hl9 => ?_
      have hr9 := dp_ex a9 hr8
      have hm : w.1 ∈ (trim p).w.ways.map (·.1) := List.mem_map.mpr ⟨w, List.mem_of_getElem? hi, rfl⟩
      have ol := ok_lift ot w.1
      show tIfS _ _ _ _ [some (.ref a), some (.ref s), some (.int m), some (.ref tz'), some vp, some vr, some (.int (i : Nat)), some vl, none, none] H9
      have ne := needless_none (trim_none o) w (List.mem_of_getElem? hi)
      refine s_when (et_or (a := false) (b := false) (et_nt (ev_eqP ol (ed_lift ot hm (ed_var rfl hr9) (ep_way (i := 0) (ep_var rfl hr9) (ev_var rfl) hi)) (ed_var rfl hl9))) fun _ => et_nt (ev_eqB1 (ev_alike (b := false) ol ot rfl (by simp [ne]) (ed_var rfl hl9) (ed_var rfl hr9)) ev_c)) (fun z => nomatch z) fun _ H10 a10 => ⟨⟨_, _, rfl⟩, a8.trans (a9.trans a10)⟩
    subst e
    have hp8 := dp_ex a8 hp7
    have hr8 := dp_ex a8 hr7
    have st8 := st5.ex (a6.trans (a7.trans a8))
    refine q_whenR (M := fun σ' H' => (∃ c6 c7, σ' = [some (.ref a), some (.ref s), some (.int m), some (.ref tz'), some vp, some vr, c6, c7, none, none]) ∧ ExS s H8 H') (fun σ' H9 ⟨⟨c6, c7, e⟩, x9⟩ => ?_) (et_gt (ed_lenT (ep_i1 (ep_i0 (ep_var rfl hp8))).toD) ev_c) (fun hr c H9 a9 => ?_) fun _ H9 a9 => ⟨⟨_, _, rfl⟩, ExS.of st8 a9⟩
    · subst e
      have hp9 := dp_tx (x9.tx st8) hp8 (tp_piece _)
      have hr9 := dp_tx (x9.tx st8) hr8 (tp_piece _)
      show tSeq _ _ _ [some (.ref a), some (.ref s), some (.int m), some (.ref tz'), some vp, some vr, c6, c7, none, none] H9
      have b0' : ∃ b0 r, p.border = b0 :: r := by
        have := o.bl.1
        cases hb : p.border with
        | nil => rw [hb] at this; cases this
        | cons b r => exact ⟨b, r, rfl⟩
      obtain ⟨b0', br, hb0⟩ := b0'
      refine ⟨_, rfl, evs_name (i := 1) (s := s) rfl H9 (ExS.refl x9.2.1) _ fun vn H10 x10 ⟨nm, e, _⟩ => ?_⟩
      subst e
      have hp10 := dp_tx (x10.tx x9.2.1) hp9 (tp_piece _)
      have hr10 := dp_tx (x10.tx x9.2.1) hr9 (tp_piece _)
      refine es_ (K := K) (i := b0') (ed_ixT (k := 0) (ep_i1 (ep_var (i := 4) rfl hp10)).toD ev_c (by rw [hb0]; rfl)) H10 (Ex.refl _) _ fun H11 a11 => ⟨sz_of (by simp only [List.length_cons, List.length_nil]; omega), fun pl hpl => ?_⟩
      have st11 := x10.2.1.ex a11
      have a12 := Ex.new (o := HO.lst [V.str nm, .str "", .str "A b", .str b0']) hpl
      refine ⟨s, pl, [nm, "", "A b", b0'], rfl, st11.ex a12, upd_same, fun z => ?_, by simp, by simp, fun lb H13 x13 _ => ?_⟩
      · obtain ⟨ob, hob⟩ := st11.some
        rw [← z, hpl] at hob
        cases hob
      have st12 := st11.ex a12
      have hp13 := dp_tx (x13.tx st12) (dp_ex (a11.trans a12) hp10) (tp_piece _)
      have hr13 := dp_tx (x13.tx st12) (dp_ex (a11.trans a12) hr10) (tp_piece _)
      show tSeq _ _ _ [some (.ref a), some (.ref s), some (.int m), some (.ref tz'), some vp, some vr, c6, c7, some (.str lb), none] H13
      have nms : EvN K (tLc (iTup K (tOp (rIxT K) (tOp (rIxT K) (tOp (rIxT K) (tVar 4) (tC (.int 0))) (tC (.int 0))) (tC (.int 1)))) (gName 9) tYes (tOp (rIxT K) (tVar 9) (tC (.int 0))) [9]) [some (.ref a), some (.ref s), some (.int m), some (.ref tz'), some vp, some vr, c6, c7, some (.str lb), none] H13 ((p.w.ways.map (·.1)).map .str) := by
        rw [List.map_map]
        exact en_lcN0 p.w.ways wayD (fun w => .str w.1) (iv_tup (ep_i1 (ep_i0 (ep_i0 (ep_var rfl hp13))))).toD (by have := o.w.wl; omega) (by decide) (fun _ _ => rfl) fun w x' H2 hw a2 hx' => ed_i0 (ed_var rfl hx')
      have fin : ∀ H', Ex H13 H' → tRet (tAndV (tCall (spLEqual K) [] E0 (tCons (tCall (spTrim K) [] E0 (tCons (tVar 5) tNil)) (tCons (tVar 5) tNil))) (tCall (spLEqual K) [] E0 (tCons (tCall (spTrim K) [] E0 (tCons (tVar 4) tNil)) (tCons (tVar 5) tNil)))) { nx := fun _ H' => Q .non H', rt := Q } [some (.ref a), some (.ref s), some (.int m), some (.ref tz'), some vp, some vr, c6, c7, some (.str lb), none] H' := fun H' aa => by
        have e1 : EvD K (tCall (spTrim K) [] E0 (tCons (tVar 5) tNil)) [some (.ref a), some (.ref s), some (.int m), some (.ref tz'), some vp, some vr, c6, c7, some (.str lb), none] H' (pieceD (trim p)) := by
          have := ed_trim (K := K) ot (ed_var (σ := [some (.ref a), some (.ref s), some (.int m), some (.ref tz'), some vp, some vr, c6, c7, some (.str lb), none]) (i := 5) rfl (dp_ex aa hr13))
          rw [trim_trim o] at this
          exact this
        refine s_ret (v := .bl true) (ev_andV (a := true) (b := true) (ev_eqP ot e1 (ed_var rfl (dp_ex aa hr13))) fun _ => ev_eqP ot (ed_trim o (ed_var rfl (dp_ex aa hp13))) (ed_var rfl (dp_ex aa hr13))) fun H'' _ => q H''
      refine q_when (et_niL (ed_vs rfl) nms.toD) (fun c H14 a14 => ?_) fun _ H14 a14 => fin H14 a14
      have c' := of_decide_eq_true c
      refine s_when (et_nt (ev_equal (d := .tuple [.str "Unknown", .str "way", .str lb]) (ed_call (eds2 (ed_var rfl (dp_ex a14 hp13)) (ed_vs rfl)) fun vs H15 a15 hv Q' E' r => ⟨p, lb, hv, c', o.w.wl, r⟩) (ed_tup (eds_cons ed_c_str (eds2 ed_c_str (ed_vs rfl)))) rfl (by show 4 ≤ 1000; decide))) (fun z => nomatch z) fun _ H15 a15 => fin H15 (a14.trans a15)
    · have st9 := st8.ex a9
      have hp9 := dp_ex a9 hp8
      have cpos := of_decide_eq_true c
      rw [List.length_map] at cpos
      have hl := o.w.hl
      have wl := o.w.wl
      refine q_asgS st9 (evs_below (n := (p.w.heads.length : Nat)) rfl (evs_int (fun H' x => ev_is (ed_lenT (ep_i1 (ep_i0 (ep_var rfl (dp_tx (x.tx st9) hp9 (tp_piece _))))).toD) (by rw [List.length_map])) rfl) (by omega) (by omega)) fun v H10 x10 ⟨r, e, r0, r1⟩ => ?_
      subst e
      obtain ⟨k, rfl⟩ := Int.eq_ofNat_of_zero_le r0
      have hkl : k < p.w.ways.length := by omega
      have hk := List.getElem?_eq_getElem hkl
      generalize p.w.ways[k] = w at hk
      have hp10 := dp_tx (x10.tx st9) hp9 (tp_piece _)
      show tSeq _ _ _ [some (.ref a), some (.ref s), some (.int m), some (.ref tz'), some vp, some vr, some (.int (k : Nat)), c7, none, none] H10
      refine q_asgD (ed_lifted o hk (ed_var rfl hp10) (ev_var rfl)) fun vl H11 a11 hl11 => ?_
      have hp11 := dp_ex a11 hp10
      have hm : w.1 ∈ p.w.ways.map (·.1) := List.mem_map.mpr ⟨w, List.mem_of_getElem? hk, rfl⟩
      have ol := ok_lift o w.1
      show tSeq _ _ _ [some (.ref a), some (.ref s), some (.int m), some (.ref tz'), some vp, some vr, some (.int (k : Nat)), some vl, none, none] H11
      refine q_when (et_nt (ev_eqP ol (ed_lift o hm (ed_var rfl hp11) (ep_way (i := 0) (ep_var rfl hp11) (ev_var rfl) hk)) (ed_var rfl hl11))) (fun z => nomatch z) fun _ H12 a12 => ?_
      have hp12 := dp_ex a12 hp11
      have hl12 := dp_ex a12 hl11
      refine s_when (et_nt (ev_eqB1 (b := decide (behav p = behav (lift p w.1))) (ev_alike o ol rfl (by simp) (ed_var rfl hp12) (ed_var rfl hl12)) (ev_eqB (ed_behR o (ed_var rfl hp12)) (ed_behR ol (ed_var rfl hl12))))) (fun z => nomatch z) fun _ H13 a13 => hr _ _ ⟨⟨_, _, rfl⟩, ((ExS.of st8 a9).trans x10).exR (a11.trans (a12.trans a13))⟩
  · refine ⟨_, rfl, s, 12, rfl, st3, by omega, fun b H4 x4 => ⟨b, rfl, q' b H4 x4⟩⟩
  · refine q_asg ev_c fun H5 a5 => ?_
    have st5 := x4.2.1.ex a5
    refine s_asgD (K := K) (d := rowD [3, 6, 3]) (ed_tup (ds := [.int 3, .int 6, .int 3]) (eds_cons ed_c_int (eds2 ed_c_int ed_c_int))) fun vz' H6 a6 hvz' => hr _ _ ⟨1, 3, 6, vz', rfl, st5.ex a6, hvz', by omega, by omega, by omega, by omega, by omega, by omega, .inr rfl⟩
end
end Tb
set_option Elab.async false
set_option linter.all false
set_option maxRecDepth 100000
set_option maxHeartbeats 4000000
/-! The derivations of the defs, printed by gen.py. -/
namespace Tb
open PySem PySem.Spec PyProof.Rows L2
/-! ### the text -/
def top (i : Nat) : Stmt := PySem.Challenge.pw_turnbehind_k77_whole_trim.main.body.getD i (.Pass ⟨0, 0, 0, 0⟩)
abbrev sCheckNumber : Stmt := top 20
abbrev sArrowsReaches : Stmt := top 22
abbrev sManyAt : Stmt := top 24
abbrev sDues : Stmt := top 25
abbrev sArrowsShapes : Stmt := top 27
abbrev sWalkerCounts : Stmt := top 29
abbrev sWaysOut : Stmt := top 31
abbrev sCheckLit : Stmt := top 32
abbrev sLitReach : Stmt := top 33
abbrev sPointings : Stmt := top 34
abbrev sShifts : Stmt := top 35
abbrev sLitSets : Stmt := top 36
abbrev sBehaviour : Stmt := top 37
abbrev sCheckBorders : Stmt := top 38
abbrev sAreAlike : Stmt := top 39
abbrev sLiftWay : Stmt := top 40
abbrev sNeedlessWay : Stmt := top 41
abbrev sTrim : Stmt := top 42
abbrev sLStore : Stmt := top 44
abbrev sLTake : Stmt := top 45
abbrev sLRange : Stmt := top 46
abbrev sLUpto : Stmt := top 47
abbrev sLSeldom : Stmt := top 48
abbrev sLOne : Stmt := top 49
abbrev sLSome : Stmt := top 50
abbrev sLName : Stmt := top 51
abbrev sLNewName : Stmt := top 52
abbrev sLWeb : Stmt := top 53
abbrev sLHeads : Stmt := top 54
abbrev sLBuild : Stmt := top 55
abbrev sLTail : Stmt := top 56
abbrev sLLinks : Stmt := top 57
abbrev sLPlain : Stmt := top 58
abbrev sLCounts : Stmt := top 59
abbrev sLDueRow : Stmt := top 60
abbrev sLCome : Stmt := top 61
abbrev sLError : Stmt := top 62
abbrev sLErrorMore : Stmt := top 63
abbrev sLPiece : Stmt := top 64
abbrev sLLoadRow : Stmt := top 65
abbrev sLFlooded : Stmt := top 66
abbrev sLShiftRows : Stmt := top 67
abbrev sLEqual : Stmt := top 68
abbrev sLLifted : Stmt := top 69
abbrev sLBehaviourRow : Stmt := top 70
abbrev sLIdleWay : Stmt := top 71
abbrev sLTrimmed : Stmt := top 72
abbrev sLRefused : Stmt := top 73
abbrev sLaw : Stmt := top 74
/-- the builtins' names that the module leaves as they are -/
structure Blt (mg : Str → Option Value) : Prop where
  isinstance_ : mg "isinstance" = none
  bool_ : mg "bool" = none
  int_ : mg "int" = none
  zip_ : mg "zip" = none
  len_ : mg "len" = none
  tuple_ : mg "tuple" = none
  list_ : mg "list" = none
  all_ : mg "all" = none
  sorted_ : mg "sorted" = none
  enumerate_ : mg "enumerate" = none
  range_ : mg "range" = none
  max_ : mg "max" = none
  min_ : mg "min" = none
  sum_ : mg "sum" = none
  str_ : mg "str" = none
/-- the def that the module's name x stands for -/
def Gd (K : PySem.W.Frag) (mg : Str → Option Value) (x q : Str) (st : Stmt) : Prop := ∃ f fd, mg x = some (.ref f) ∧ FunD K q q (defArgs st) (defBody st) (defScope st) [] [] f fd
/-- a def that keeps a promise, as a caller sees it -/
def Kp (P : Program) (w : World) (K : PySem.W.Frag) (mg : Str → Option Value) (base : Heap) (k : Nat) (x : Str) (ps : List Str) (sp : Sp) : Prop :=
  ∃ f fd, mg x = some (.ref f) ∧ PySem.W.keepIn K (.ref f) = true ∧ Binds K fd ps [] ∧ FnOk P w K mg base CX0 k f fd ps sp
theorem pe_kp {X : Cx} {k j : Nat} {x : Str} {ps : List Str} {sp : Sp} {e : Expr} {es : List Expr} {t : TA} {p pos : Pos} (h : Kp X.prog X.w X.K X.mg X.base k x ps sp) (hr : Room j X.A) (hj : k ≤ j) (hg : Gl X x) (ha : PA X (e :: es) t)
    (hdb : (x == ("__debug__" : Str)) = false := by decide) (he : starEach (e :: es) X.env = (false, eval e X.env) :: starEach es X.env := by rfl) (hpl : (backTo pos (starEach es X.env)).any (·.1) = false := by rfl) :
    PE X (.Call (.Name x p) (e :: es) [] pos) (tCall sp [] E0 t) := by
  obtain ⟨f, fd, hm, hk, hb, F⟩ := h
  exact pe_call F (hr.mono hj) hg hm hk hb .nil pass0 ha hdb he hpl
theorem rm {k : Nat} {A : Around} (hr : Room k A) {n : Nat} (hn : n ≤ 150 := by decide) : A.units + n < cLine := by
  have := hr.un
  omega
theorem kp_of {P : Program} {w : World} {K : PySem.W.Frag} {mg : Str → Option Value} {base : Heap} {k : Nat} {x q : Str} {st : Stmt} {N ps : List Str} {sp : Sp} (g : Gd K mg x q st) (S : FnScope N ps (defScope st))
    (hb : ∀ (kV doc pm : Value) (an : Option Addr) (cdv ct : Value) (us : List Value), us.length = ps.length → bindArgs (PySem.W.fnOf q q (defArgs st) (defBody st) (defScope st) .none kV doc pm an cdv ct) ⟨us, []⟩ = pure (ps.zip us))
    (len : ∀ vs H Q E, sp vs H Q E → vs.length = ps.length)
    (hbody : ∀ (cdv : Value) (f : Addr) (A : Around) (outer : List Env) (s : Shared) (H : Hp) (vs : List V) (Q : VK) (E : XK), Room k (A.deeper (envOfC q (defScope st) s.heap.objs.size f cdv)) → sp vs H Q E →
      ∃ t, PSs (cxOf CX0 P w K mg base N q (defScope st) f cdv A outer s H E).nox (defBody st) t ∧ t { nx := fun _ H' => Q .non H', rt := Q } (start N vs) H) : Kp P w K mg base (k + 1) x ps sp := by
  obtain ⟨f, fd, hm, F⟩ := g
  refine ⟨f, fd, hm, F.kp, F.bindsN hb, F.ok S len fun cdv A outer s H vs Q E hr h => ?_⟩
  obtain ⟨t, h1, h2⟩ := hbody cdv f A outer s H vs Q E hr h
  exact ⟨t, h1.nox, h2⟩
section
variable {P : Program} {w : World} {K : PySem.W.Frag} {mg : Str → Option Value} {base : Heap}
theorem scCheckNumber : FnScope nCheckNumber ["number", "low", "high"] (defScope sCheckNumber) := ⟨rfl, rfl, rfl, by decide +kernel, rfl, by decide +kernel, by decide +kernel⟩
theorem derCheckNumber (hB : Blt mg)  {cdv : Value} {f : Addr} {A : Around} {outer : List Env} {s : Shared} {H : Hp} {E : XK} (hr : Room 0 (A.deeper (envOfC "check_number" (defScope sCheckNumber) s.heap.objs.size f cdv))) :
    PSs (cxOf CX0 P w K mg base nCheckNumber "check_number" (defScope sCheckNumber) f cdv A outer s H E).nox (defBody sCheckNumber) (tCheckNumber K) :=
    (pss_cons (ps_if (PW.pt (pw_or (pt_val (pe_callB call_isi (by rfl) hB.isinstance_ (by decide +kernel) (pa_cons (pv 0) (pa_cons (pe_bltn (v := .ty "bool") (by rfl) hB.bool_ (by decide +kernel) rfl) pa_nil)))) (pw_or1 (pt_not (pt_val (pe_callB call_isi (by rfl) hB.isinstance_ (by decide +kernel) (pa_cons (pv 0) (pa_cons (pe_bltn (v := .ty "int") (by rfl) hB.int_ (by decide +kernel) rfl) pa_nil))))))))
    (pss_one ps_never)
    pss_nil)
    (pss_cons (ps_if (PW.pt (pw_or (pt_cmpR op_lt (pv 0) (pv 1) (nomark _)) (pw_or1 (pt_cmpR op_gt (pv 0) (pv 2) (nomark _)))))
    (pss_one ps_never)
    pss_nil)
    (pss_one (ps_ret (pv 0)))))
theorem scArrowsReaches : FnScope nArrowsReaches ["world"] (defScope sArrowsReaches) := ⟨rfl, rfl, rfl, by decide +kernel, rfl, by decide +kernel, by decide +kernel⟩
theorem derArrowsReaches (hB : Blt mg)  {cdv : Value} {f : Addr} {A : Around} {outer : List Env} {s : Shared} {H : Hp} {E : XK} (hr : Room 0 (A.deeper (envOfC "arrows" (defScope sArrowsReaches) s.heap.objs.size f cdv))) :
    PSs (cxOf CX0 P w K mg base nArrowsReaches "arrows" (defScope sArrowsReaches) f cdv A outer s H E).nox (defBody sArrowsReaches) (tArrowsReaches K) :=
    (pss_cons (ps_asg (pv 0) (pg_tup rfl (pgs_cons (pg_name (i := 1) scArrowsReaches.nd rfl (by first | exact Or.inl rfl | exact Or.inr rfl)) (pgs_cons (pg_name (i := 2) scArrowsReaches.nd rfl (by first | exact Or.inl rfl | exact Or.inr rfl)) (pgs_cons (pg_name (i := 3) scArrowsReaches.nd rfl (by first | exact Or.inl rfl | exact Or.inr rfl)) pgs_nil)))))
    (pss_cons (ps_set (i := 4) scArrowsReaches.nd rfl (by first | exact Or.inl rfl | exact Or.inr rfl) (pe_lst pa_nil))
    (pss_cons (ps_for PassesOwn.never rfl (RZ.pi_zipA (by rfl) hB.zip_ (pa_cons (pe_ix ix_tup (pv 1) pe_int (fun _ _ => rfl)) (pa_cons (pv 2) pa_nil))) (pg_tup rfl (pgs_cons (pg_tup rfl (pgs_cons (pg_name (i := 5) scArrowsReaches.nd rfl (by first | exact Or.inl rfl | exact Or.inr rfl)) (pgs_cons (pg_name (i := 6) scArrowsReaches.nd rfl (by first | exact Or.inl rfl | exact Or.inr rfl)) (pgs_cons (pg_name (i := 7) scArrowsReaches.nd rfl (by first | exact Or.inl rfl | exact Or.inr rfl)) pgs_nil)))) (pgs_cons (pg_name (i := 8) scArrowsReaches.nd rfl (by first | exact Or.inl rfl | exact Or.inr rfl)) pgs_nil)))
    (pss_cons (ps_set (i := 9) scArrowsReaches.nd rfl (by first | exact Or.inl rfl | exact Or.inr rfl) (pe_ifExp (pt_cmpR op_eq (pv 8) (pv 7) (nomark _)) (pv 6) (pv 7)))
    (pss_one (ps_expr (pe_bm PySem.F.plainAttrs_list PySem.F.slot_list_append PySem.F.type_list_append mt_append (pv 4) (pa_cons (pe_tup (pa_cons (pv 5) (pa_cons (pv 9) (pa_cons (pv 8) pa_nil)))) pa_nil))))))
    (pss_one (ps_ret (pv 4))))))
theorem scManyAt : FnScope nManyAt ["world"] (defScope sManyAt) := ⟨rfl, rfl, rfl, by decide +kernel, rfl, by decide +kernel, by decide +kernel⟩
theorem derManyAt (hB : Blt mg)  {cdv : Value} {f : Addr} {A : Around} {outer : List Env} {s : Shared} {H : Hp} {E : XK} (hr : Room 0 (A.deeper (envOfC "many_at" (defScope sManyAt) s.heap.objs.size f cdv))) :
    PSs (cxOf CX0 P w K mg base nManyAt "many_at" (defScope sManyAt) f cdv A outer s H E).nox (defBody sManyAt) (tManyAt K) :=
    (pss_cons (ps_set (i := 1) scManyAt.nd rfl (by first | exact Or.inl rfl | exact Or.inr rfl) pe_dnewK)
    (pss_cons (ps_for PassesOwn.never rfl (RZ.pi_zipA (by rfl) hB.zip_ (pa_cons (pe_ix ix_tup (pe_ix ix_tup (pv 0) pe_int (fun _ _ => rfl)) pe_int (fun _ _ => rfl)) (pa_cons (pe_ix ix_tup (pv 0) pe_int (fun _ _ => rfl)) pa_nil))) (pg_tup rfl (pgs_cons (pg_name (i := 2) scManyAt.nd rfl (by first | exact Or.inl rfl | exact Or.inr rfl)) (pgs_cons (pg_tup rfl (pgs_cons (pg_name (i := 3) scManyAt.nd rfl (by first | exact Or.inl rfl | exact Or.inr rfl)) (pgs_cons (pg_name (i := 4) scManyAt.nd rfl (by first | exact Or.inl rfl | exact Or.inr rfl)) pgs_nil))) pgs_nil)))
    (pss_one (ps_dput (hu_of hr) (pv 1) (pv 2) (pe_op op_add (pv 3) (pe_callB call_len_seq (by rfl) hB.len_ PySem.boot_len (pa_cons (pv 4) pa_nil))) rfl)))
    (pss_one (ps_ret (pv 1)))))
theorem scArrowsShapes : FnScope nArrowsShapes ["world"] (defScope sArrowsShapes) := ⟨rfl, rfl, rfl, by decide +kernel, rfl, by decide +kernel, by decide +kernel⟩
theorem derArrowsShapes (hB : Blt mg)  {cdv : Value} {f : Addr} {A : Around} {outer : List Env} {s : Shared} {H : Hp} {E : XK} (hr : Room 0 (A.deeper (envOfC "arrows" (defScope sArrowsShapes) s.heap.objs.size f cdv))) :
    PSs (cxOf CX0 P w K mg base nArrowsShapes "arrows" (defScope sArrowsShapes) f cdv A outer s H E).nox (defBody sArrowsShapes) (tArrowsShapes K) :=
    (pss_cons (ps_set (i := 1) scArrowsShapes.nd rfl (by first | exact Or.inl rfl | exact Or.inr rfl) (pe_ix ix_tup (pe_ix ix_tup (pv 0) pe_int (fun _ _ => rfl)) pe_int (fun _ _ => rfl)))
    (pss_cons (ps_set (i := 2) scArrowsShapes.nd rfl (by first | exact Or.inl rfl | exact Or.inr rfl) (pe_ix ix_tup (pv 0) pe_int (fun _ _ => rfl)))
    (pss_one (ps_ret (pe_lc (own := [("head", 3), ("spare", 4), ("low", 5), ("high", 6)]) rfl scArrowsShapes.nd (RZ.pi_zipA (by rfl) hB.zip_ (pa_cons (pv 1) (pa_cons (pv 2) pa_nil))) (blkOk_by (N := nArrowsShapes) (sc := defScope sArrowsShapes) (by decide +kernel)) (fun _ _ _ _ _ => (pg_tup rfl (pgs_cons (pg_tup rfl (pgs_cons (pg_name (i := 4) scArrowsShapes.nd rfl (by first | exact Or.inl rfl | exact Or.inr rfl)) (pgs_cons (pg_name (i := 5) scArrowsShapes.nd rfl (by first | exact Or.inl rfl | exact Or.inr rfl)) (pgs_cons (pg_name (i := 6) scArrowsShapes.nd rfl (by first | exact Or.inl rfl | exact Or.inr rfl)) pgs_nil)))) (pgs_cons (pg_name (i := 3) scArrowsShapes.nd rfl (by first | exact Or.inl rfl | exact Or.inr rfl)) pgs_nil)))) (fun _ _ _ _ _ => pts_nil) (fun _ _ _ _ _ => (pe_tup (pa_cons (pe_ifExp (pt_cmpR op_eq (pv 3) (pv 6) (nomark _)) (pv 5) (pv 6)) (pa_cons (pv 3) pa_nil)))))))))
theorem scWalkerCounts : FnScope nWalkerCounts ["world"] (defScope sWalkerCounts) := ⟨rfl, rfl, rfl, by decide +kernel, rfl, by decide +kernel, by decide +kernel⟩
theorem derWalkerCounts (hB : Blt mg)  {cdv : Value} {f : Addr} {A : Around} {outer : List Env} {s : Shared} {H : Hp} {E : XK} (hr : Room 0 (A.deeper (envOfC "walker_counts" (defScope sWalkerCounts) s.heap.objs.size f cdv))) :
    PSs (cxOf CX0 P w K mg base nWalkerCounts "walker_counts" (defScope sWalkerCounts) f cdv A outer s H E).nox (defBody sWalkerCounts) (tWalkerCounts K) :=
    (pss_one (ps_ret (pe_lc (own := [("alike", 1), ("names", 2)]) rfl scWalkerCounts.nd (pi_tup (pe_ix ix_tup (pv 0) pe_int (fun _ _ => rfl))) (blkOk_by (N := nWalkerCounts) (sc := defScope sWalkerCounts) (by decide +kernel)) (fun _ _ _ _ _ => (pg_tup rfl (pgs_cons (pg_name (i := 1) scWalkerCounts.nd rfl (by first | exact Or.inl rfl | exact Or.inr rfl)) (pgs_cons (pg_name (i := 2) scWalkerCounts.nd rfl (by first | exact Or.inl rfl | exact Or.inr rfl)) pgs_nil)))) (fun _ _ _ _ _ => pts_nil) (fun _ _ _ _ _ => (pe_op op_add (pv 1) (pe_callB call_len_seq (by rfl) hB.len_ PySem.boot_len (pa_cons (pv 2) pa_nil)))))))
theorem scWaysOut : FnScope nWaysOut ["web", "heads"] (defScope sWaysOut) := ⟨rfl, rfl, rfl, by decide +kernel, rfl, by decide +kernel, by decide +kernel⟩
theorem derWaysOut (hB : Blt mg)  {cdv : Value} {f : Addr} {A : Around} {outer : List Env} {s : Shared} {H : Hp} {E : XK} (hr : Room 0 (A.deeper (envOfC "ways_out" (defScope sWaysOut) s.heap.objs.size f cdv))) :
    PSs (cxOf CX0 P w K mg base nWaysOut "ways_out" (defScope sWaysOut) f cdv A outer s H E).nox (defBody sWaysOut) (tWaysOut K) :=
    (pss_cons (ps_asg (pv 0) (pg_tup rfl (pgs_cons (pg_name (i := 2) scWaysOut.nd rfl (by first | exact Or.inl rfl | exact Or.inr rfl)) (pgs_cons (pg_name (i := 3) scWaysOut.nd rfl (by first | exact Or.inl rfl | exact Or.inr rfl)) pgs_nil))))
    (pss_cons (ps_setDc (i := 4) (own := [("place", 10)]) rfl scWaysOut.nd rfl rfl (by rfl) (pi_tup (pv 2)) (blkOk_by (N := nWaysOut) (sc := defScope sWaysOut) (by decide +kernel)) (fun _ _ _ _ _ => (pg_name (i := 10) scWaysOut.nd rfl (by first | exact Or.inl rfl | exact Or.inr rfl))) (fun _ _ _ _ _ => pts_nil) (fun _ _ _ _ _ => (pv 10)) (fun _ _ _ _ _ => pe_int))
    (pss_cons (ps_for PassesOwn.never rfl (RZ.pi_zipA (by rfl) hB.zip_ (pa_cons (pv 3) (pa_cons (pv 1) pa_nil))) (pg_tup rfl (pgs_cons (pg_tup rfl (pgs_cons (pg_name (i := 5) scWaysOut.nd rfl (by first | exact Or.inl rfl | exact Or.inr rfl)) (pgs_cons (pg_name (i := 6) scWaysOut.nd rfl (by first | exact Or.inl rfl | exact Or.inr rfl)) (pgs_cons (pg_name (i := 7) scWaysOut.nd rfl (by first | exact Or.inl rfl | exact Or.inr rfl)) pgs_nil)))) (pgs_cons (pg_name (i := 8) scWaysOut.nd rfl (by first | exact Or.inl rfl | exact Or.inr rfl)) pgs_nil)))
    (pss_cons (ps_set (i := 9) scWaysOut.nd rfl (by first | exact Or.inl rfl | exact Or.inr rfl) (pe_ifExp (pt_cmpR op_eq (pv 8) (pv 7) (nomark _)) (pv 6) (pv 7)))
    (pss_one (ps_daug (hu_of hr) (pv 4) (pv 9) pe_int in_add (fun _ _ _ => rfl)))))
    (pss_one (ps_ret (pv 4))))))
theorem scPointings : FnScope nPointings ["world", "free"] (defScope sPointings) := ⟨rfl, rfl, rfl, by decide +kernel, rfl, by decide +kernel, by decide +kernel⟩
theorem derPointings (hB : Blt mg)  {cdv : Value} {f : Addr} {A : Around} {outer : List Env} {s : Shared} {H : Hp} {E : XK} (hr : Room 0 (A.deeper (envOfC "pointings" (defScope sPointings) s.heap.objs.size f cdv))) :
    PSs (cxOf CX0 P w K mg base nPointings "pointings" (defScope sPointings) f cdv A outer s H E).nox (defBody sPointings) (tPointings K) :=
    (pss_cons (ps_set (i := 2) scPointings.nd rfl (by first | exact Or.inl rfl | exact Or.inr rfl) (pe_lst (pa_cons (pe_tup pa_nil) pa_nil)))
    (pss_cons (ps_for PassesOwn.never rfl (RZ.pi_zipA (by rfl) hB.zip_ (pa_cons (pe_ix ix_tup (pe_ix ix_tup (pv 0) pe_int (fun _ _ => rfl)) pe_int (fun _ _ => rfl)) (pa_cons (pe_ix ix_tup (pv 0) pe_int (fun _ _ => rfl)) pa_nil))) (pg_tup rfl (pgs_cons (pg_tup rfl (pgs_cons (pg_name (i := 3) scPointings.nd rfl (by first | exact Or.inl rfl | exact Or.inr rfl)) (pgs_cons (pg_name (i := 4) scPointings.nd rfl (by first | exact Or.inl rfl | exact Or.inr rfl)) (pgs_cons (pg_name (i := 5) scPointings.nd rfl (by first | exact Or.inl rfl | exact Or.inr rfl)) pgs_nil)))) (pgs_cons (pg_name (i := 6) scPointings.nd rfl (by first | exact Or.inl rfl | exact Or.inr rfl)) pgs_nil)))
    (pss_cons (ps_set (i := 7) scPointings.nd rfl (by first | exact Or.inl rfl | exact Or.inr rfl) (pe_ifExp (pt_cmpR op_in_seq (pv 3) (pv 1) (by rfl)) (pe_tup (pa_cons (pv 4) (pa_cons (pv 5) pa_nil))) (pe_tup (pa_cons (pv 6) pa_nil))))
    (pss_one (ps_setLc2 (i := 2) (own := [("row", 8), ("end", 9)]) rfl scPointings.nd rfl rfl (sw_true rfl rfl rfl (by decide +kernel)) (pi_list (pv 2)) (blkOk_by (N := nPointings) (sc := defScope sPointings) (by decide +kernel)) (by decide) (fun _ _ _ _ _ => (pg_name (i := 8) scPointings.nd rfl (by first | exact Or.inl rfl | exact Or.inr rfl))) (fun _ _ _ _ _ => pts_nil) (fun _ _ _ _ _ => (pi_tup (pv 7))) (fun _ _ _ _ _ => (pg_name (i := 9) scPointings.nd rfl (by first | exact Or.inl rfl | exact Or.inr rfl))) (fun _ _ _ _ _ => pts_nil) (fun _ _ _ _ _ => (pe_op op_catA (pv 8) (pe_tup (pa_cons (pv 9) pa_nil))))))))
    (pss_one (ps_ret (pv 2)))))
theorem scLitSets : FnScope nLitSets ["many"] (defScope sLitSets) := ⟨rfl, rfl, rfl, by decide +kernel, rfl, by decide +kernel, by decide +kernel⟩
theorem derLitSets (hB : Blt mg)  {cdv : Value} {f : Addr} {A : Around} {outer : List Env} {s : Shared} {H : Hp} {E : XK} (hr : Room 0 (A.deeper (envOfC "lit_sets" (defScope sLitSets) s.heap.objs.size f cdv))) :
    PSs (cxOf CX0 P w K mg base nLitSets "lit_sets" (defScope sLitSets) f cdv A outer s H E).nox (defBody sLitSets) (tLitSets K) :=
    (pss_cons (ps_set (i := 1) scLitSets.nd rfl (by first | exact Or.inl rfl | exact Or.inr rfl) (pe_lst (pa_cons (pe_tup pa_nil) pa_nil)))
    (pss_cons (ps_for PassesOwn.never rfl (pi_range1 (by rfl) hB.range_ (pa_cons (pv 0) pa_nil)) (pg_name (i := 2) scLitSets.nd rfl (by first | exact Or.inl rfl | exact Or.inr rfl))
    (pss_one (ps_set (i := 1) scLitSets.nd rfl (by first | exact Or.inl rfl | exact Or.inr rfl) (pe_op op_cat (pv 1) (pe_lc (own := [("row", 3)]) rfl scLitSets.nd (pi_list (pv 1)) (blkOk_by (N := nLitSets) (sc := defScope sLitSets) (by decide +kernel)) (fun _ _ _ _ _ => (pg_name (i := 3) scLitSets.nd rfl (by first | exact Or.inl rfl | exact Or.inr rfl))) (fun _ _ _ _ _ => pts_nil) (fun _ _ _ _ _ => (pe_op op_catA (pv 3) (pe_tup (pa_cons (pv 2) pa_nil)))))))))
    (pss_one (ps_ret (pv 1)))))
theorem scCheckBorders : FnScope nCheckBorders ["one", "other"] (defScope sCheckBorders) := ⟨rfl, rfl, rfl, by decide +kernel, rfl, by decide +kernel, by decide +kernel⟩
theorem derCheckBorders (hB : Blt mg)  {cdv : Value} {f : Addr} {A : Around} {outer : List Env} {s : Shared} {H : Hp} {E : XK} (hr : Room 0 (A.deeper (envOfC "check_borders" (defScope sCheckBorders) s.heap.objs.size f cdv))) :
    PSs (cxOf CX0 P w K mg base nCheckBorders "check_borders" (defScope sCheckBorders) f cdv A outer s H E).nox (defBody sCheckBorders) (tCheckBorders K) :=
    (pss_one (ps_if (pt_cmpR op_ne (pe_callB call_len_seq (by rfl) hB.len_ PySem.boot_len (pa_cons (pe_ix ix_tup (pv 0) pe_int (fun _ _ => rfl)) pa_nil)) (pe_callB call_len_seq (by rfl) hB.len_ PySem.boot_len (pa_cons (pe_ix ix_tup (pv 1) pe_int (fun _ _ => rfl)) pa_nil)) (nomark _))
    (pss_one ps_never)
    pss_nil))
theorem scLiftWay : FnScope nLiftWay ["piece", "way"] (defScope sLiftWay) := ⟨rfl, rfl, rfl, by decide +kernel, rfl, by decide +kernel, by decide +kernel⟩
theorem derLiftWay (hB : Blt mg)  {cdv : Value} {f : Addr} {A : Around} {outer : List Env} {s : Shared} {H : Hp} {E : XK} (hr : Room 0 (A.deeper (envOfC "lift_way" (defScope sLiftWay) s.heap.objs.size f cdv))) :
    PSs (cxOf CX0 P w K mg base nLiftWay "lift_way" (defScope sLiftWay) f cdv A outer s H E).nox (defBody sLiftWay) (tLiftWay K) :=
    (pss_cons (ps_asg (pv 0) (pg_tup rfl (pgs_cons (pg_tup rfl (pgs_cons (pg_tup rfl (pgs_cons (pg_name (i := 2) scLiftWay.nd rfl (by first | exact Or.inl rfl | exact Or.inr rfl)) (pgs_cons (pg_name (i := 3) scLiftWay.nd rfl (by first | exact Or.inl rfl | exact Or.inr rfl)) pgs_nil))) (pgs_cons (pg_name (i := 4) scLiftWay.nd rfl (by first | exact Or.inl rfl | exact Or.inr rfl)) (pgs_cons (pg_name (i := 5) scLiftWay.nd rfl (by first | exact Or.inl rfl | exact Or.inr rfl)) pgs_nil)))) (pgs_cons (pg_name (i := 6) scLiftWay.nd rfl (by first | exact Or.inl rfl | exact Or.inr rfl)) pgs_nil))))
    (pss_cons (ps_if (pt_cmpR op_notIn_seq (pv 1) (pe_lc (own := [("row", 9)]) rfl scLiftWay.nd (pi_tup (pv 3)) (blkOk_by (N := nLiftWay) (sc := defScope sLiftWay) (by decide +kernel)) (fun _ _ _ _ _ => (pg_name (i := 9) scLiftWay.nd rfl (by first | exact Or.inl rfl | exact Or.inr rfl))) (fun _ _ _ _ _ => pts_nil) (fun _ _ _ _ _ => (pe_ix ix_tup (pv 9) pe_int (fun _ _ => rfl)))) (by rfl))
    (pss_one ps_never)
    pss_nil)
    (pss_cons (ps_setLc (i := 7) (own := [("row", 9), ("head", 10)]) rfl scLiftWay.nd rfl rfl (sw_true rfl rfl rfl (by decide +kernel)) (RZ.pi_zipA (by rfl) hB.zip_ (pa_cons (pv 3) (pa_cons (pv 4) pa_nil))) (blkOk_by (N := nLiftWay) (sc := defScope sLiftWay) (by decide +kernel)) (fun _ _ _ _ _ => (pg_tup rfl (pgs_cons (pg_name (i := 9) scLiftWay.nd rfl (by first | exact Or.inl rfl | exact Or.inr rfl)) (pgs_cons (pg_name (i := 10) scLiftWay.nd rfl (by first | exact Or.inl rfl | exact Or.inr rfl)) pgs_nil)))) (fun _ _ _ _ _ => (pts_one (pt_cmpR op_ne (pe_ix ix_tup (pv 9) pe_int (fun _ _ => rfl)) (pv 1) (nomark _)))) (fun _ _ _ _ _ => (pe_tup (pa_cons (pv 9) (pa_cons (pv 10) pa_nil)))))
    (pss_cons (ps_set (i := 8) scLiftWay.nd rfl (by first | exact Or.inl rfl | exact Or.inr rfl) (pe_tup (pa_cons (pv 2) (pa_cons (pe_callTy call_tuple_of (by rfl) hB.tuple_ (by decide +kernel) (pa_cons (pe_lc (own := [("row", 9), ("head", 10)]) rfl scLiftWay.nd (pi_list (pv 7)) (blkOk_by (N := nLiftWay) (sc := defScope sLiftWay) (by decide +kernel)) (fun _ _ _ _ _ => (pg_tup rfl (pgs_cons (pg_name (i := 9) scLiftWay.nd rfl (by first | exact Or.inl rfl | exact Or.inr rfl)) (pgs_cons (pg_name (i := 10) scLiftWay.nd rfl (by first | exact Or.inl rfl | exact Or.inr rfl)) pgs_nil)))) (fun _ _ _ _ _ => pts_nil) (fun _ _ _ _ _ => (pv 9))) pa_nil)) pa_nil))))
    (pss_one (ps_ret (pe_tup (pa_cons (pe_tup (pa_cons (pv 8) (pa_cons (pe_callTy call_tuple_of (by rfl) hB.tuple_ (by decide +kernel) (pa_cons (pe_lc (own := [("row", 9), ("head", 10)]) rfl scLiftWay.nd (pi_list (pv 7)) (blkOk_by (N := nLiftWay) (sc := defScope sLiftWay) (by decide +kernel)) (fun _ _ _ _ _ => (pg_tup rfl (pgs_cons (pg_name (i := 9) scLiftWay.nd rfl (by first | exact Or.inl rfl | exact Or.inr rfl)) (pgs_cons (pg_name (i := 10) scLiftWay.nd rfl (by first | exact Or.inl rfl | exact Or.inr rfl)) pgs_nil)))) (fun _ _ _ _ _ => pts_nil) (fun _ _ _ _ _ => (pv 10))) pa_nil)) (pa_cons (pv 5) pa_nil)))) (pa_cons (pv 6) pa_nil)))))))))
theorem scLStore : FnScope nLStore ["_law_script"] (defScope sLStore) := ⟨rfl, rfl, rfl, by decide +kernel, rfl, by decide +kernel, by decide +kernel⟩
theorem derLStore (hB : Blt mg)  {cdv : Value} {f : Addr} {A : Around} {outer : List Env} {s : Shared} {H : Hp} {E : XK} (hr : Room 0 (A.deeper (envOfC "_law_store" (defScope sLStore) s.heap.objs.size f cdv))) :
    PSs (cxOf CX0 P w K mg base nLStore "_law_store" (defScope sLStore) f cdv A outer s H E).nox (defBody sLStore) (tLStore K) :=
    (pss_one (ps_ret (pe_lst (pa_cons (pe_lc (own := [("_law_cell", 1)]) rfl scLStore.nd (pi_list (pv 0)) (blkOk_by (N := nLStore) (sc := defScope sLStore) (by decide +kernel)) (fun _ _ _ _ _ => (pg_name (i := 1) scLStore.nd rfl (by first | exact Or.inl rfl | exact Or.inr rfl))) (fun _ _ _ _ _ => pts_nil) (fun _ _ _ _ _ => (pe_callTy call_int1 (by rfl) hB.int_ (by decide +kernel) (pa_cons (pv 1) pa_nil)))) (pa_cons pe_int (pa_cons pe_int (pa_cons pe_int (pa_cons pe_int pa_nil))))))))
theorem scLTake : FnScope nLTake ["_law_store_here", "_law_many"] (defScope sLTake) := ⟨rfl, rfl, rfl, by decide +kernel, rfl, by decide +kernel, by decide +kernel⟩
theorem derLTake (hB : Blt mg)  {cdv : Value} {f : Addr} {A : Around} {outer : List Env} {s : Shared} {H : Hp} {E : XK} (hr : Room 0 (A.deeper (envOfC "_law_take" (defScope sLTake) s.heap.objs.size f cdv))) :
    PSs (cxOf CX0 P w K mg base nLTake "_law_take" (defScope sLTake) f cdv A outer s H E).nox (defBody sLTake) (tLTake K) :=
    (pss_cons (ps_if (pt_cmpR op_lt (pv 1) pe_int (nomark _))
    (pss_one (ps_ret pe_int))
    pss_nil)
    (pss_cons (ps_if (PW.pt (pw_and (pt_cmpR op_eq (pe_ix ix_list (pv 0) pe_int (fun _ _ => rfl)) pe_int (nomark _)) (pw_and1 (pt_cmpR op_lt (pe_ix ix_list (pv 0) pe_int (fun _ _ => rfl)) (pe_callB call_len_seq (by rfl) hB.len_ PySem.boot_len (pa_cons (pe_ix ix_list (pv 0) pe_int (fun _ _ => rfl)) pa_nil)) (nomark _)))))
    (pss_cons (ps_set (i := 2) scLTake.nd rfl (by first | exact Or.inl rfl | exact Or.inr rfl) (pe_ix ix_list (pe_ix ix_list (pv 0) pe_int (fun _ _ => rfl)) (pe_ix ix_list (pv 0) pe_int (fun _ _ => rfl)) (fun _ _ => rfl)))
    (pss_cons (ps_asg (pe_op op_add (pe_ix ix_list (pv 0) pe_int (fun _ _ => rfl)) pe_int) (pg_sub (pv 0) pe_int set_list))
    (pss_cons (ps_asg (pe_op op_modN (pe_callTy call_int1 (by rfl) hB.int_ (by decide +kernel) (pa_cons (pe_op op_add (pe_op op_add (pe_op op_mul (pe_ix ix_list (pv 0) pe_int (fun _ _ => rfl)) pe_int) (pv 2)) pe_int) pa_nil)) pe_int) (pg_sub (pv 0) pe_int set_list))
    (pss_one (ps_if (pt_cmpR op_ge (pv 2) (pe_op op_pow pe_int pe_int) (nomark _))
    (pss_one (ps_asg (pv 2) (pg_sub (pv 0) pe_int set_list)))
    pss_nil)))))
    pss_nil)
    (pss_cons (ps_if (pt_cmpR op_gt (pe_ix ix_list (pv 0) pe_int (fun _ _ => rfl)) pe_int (nomark _))
    (pss_cons (ps_set (i := 3) scLTake.nd rfl (by first | exact Or.inl rfl | exact Or.inr rfl) (pe_op op_modN (pe_callTy call_int1 (by rfl) hB.int_ (by decide +kernel) (pa_cons (pe_ix ix_list (pv 0) pe_int (fun _ _ => rfl)) pa_nil)) (pv 1)))
    (pss_cons (ps_asg (pe_op op_fdivN (pe_ix ix_list (pv 0) pe_int (fun _ _ => rfl)) (pv 1)) (pg_sub (pv 0) pe_int set_list))
    (pss_one (ps_ret (pv 3)))))
    pss_nil)
    (pss_cons (ps_asg (pe_op op_add (pe_ix ix_list (pv 0) pe_int (fun _ _ => rfl)) pe_int) (pg_sub (pv 0) pe_int set_list))
    (pss_cons (ps_set (i := 4) scLTake.nd rfl (by first | exact Or.inl rfl | exact Or.inr rfl) (pe_op op_modN (pe_callTy call_int1 (by rfl) hB.int_ (by decide +kernel) (pa_cons (pe_op op_add (pe_op op_add (pe_op op_mul (pe_ix ix_list (pv 0) pe_int (fun _ _ => rfl)) pe_int) (pe_op op_mul (pe_ix ix_list (pv 0) pe_int (fun _ _ => rfl)) pe_int)) pe_int) pa_nil)) pe_int))
    (pss_cons (ps_set (i := 5) scLTake.nd rfl (by first | exact Or.inl rfl | exact Or.inr rfl) (pe_op op_modN (pe_callTy call_int1 (by rfl) hB.int_ (by decide +kernel) (pa_cons (pe_op op_add (pe_op op_mul (pe_op op_add (pv 4) pe_int) (pe_op op_add (pe_op op_fdivN (pv 4) pe_int) pe_int)) (pv 4)) pa_nil)) pe_int))
    (pss_one (ps_ret (pe_op op_modN (pe_callTy call_int1 (by rfl) hB.int_ (by decide +kernel) (pa_cons (pv 5) pa_nil)) (pv 1))))))))))
theorem scLBuild : FnScope nLBuild ["_law_spots", "_law_links_here", "_law_plain_here", "_law_homes"] (defScope sLBuild) := ⟨rfl, rfl, rfl, by decide +kernel, rfl, by decide +kernel, by decide +kernel⟩
theorem derLBuild (hB : Blt mg)  {cdv : Value} {f : Addr} {A : Around} {outer : List Env} {s : Shared} {H : Hp} {E : XK} (hr : Room 0 (A.deeper (envOfC "_law_build" (defScope sLBuild) s.heap.objs.size f cdv))) :
    PSs (cxOf CX0 P w K mg base nLBuild "_law_build" (defScope sLBuild) f cdv A outer s H E).nox (defBody sLBuild) (tLBuild K) :=
    (pss_cons (ps_set (i := 4) scLBuild.nd rfl (by first | exact Or.inl rfl | exact Or.inr rfl) (pe_lst pa_nil))
    (pss_cons (ps_set (i := 5) scLBuild.nd rfl (by first | exact Or.inl rfl | exact Or.inr rfl) (pe_lst pa_nil))
    (pss_cons (ps_for PassesOwn.never rfl (pi_list (pe_callB (cr_sortedD (rm hr)) (by rfl) hB.sorted_ (by decide +kernel) (pa_cons (pv 1) pa_nil))) (pg_name (i := 6) scLBuild.nd rfl (by first | exact Or.inl rfl | exact Or.inr rfl))
    (pss_cons (ps_set (i := 7) scLBuild.nd rfl (by first | exact Or.inl rfl | exact Or.inr rfl) (pe_callB (cr_sortedD (rm hr)) (by rfl) hB.sorted_ (by decide +kernel) (pa_cons (pe_lst (pa_cons (pe_ix ix_tup (pv 6) pe_int (fun _ _ => rfl)) (pa_cons (pe_ix ix_tup (pv 6) pe_int (fun _ _ => rfl)) pa_nil))) pa_nil)))
    (pss_cons (ps_expr (pe_bm PySem.F.plainAttrs_list PySem.F.slot_list_append PySem.F.type_list_append mt_append (pv 4) (pa_cons (pe_tup (pa_cons (pe_ix ix_tup (pv 6) pe_int (fun _ _ => rfl)) (pa_cons (pe_ix ix_list (pv 7) pe_int (fun _ _ => rfl)) (pa_cons (pe_ix ix_list (pv 7) pe_int (fun _ _ => rfl)) pa_nil)))) pa_nil)))
    (pss_one (ps_expr (pe_bm PySem.F.plainAttrs_list PySem.F.slot_list_append PySem.F.type_list_append mt_append (pv 5) (pa_cons (pe_ix ix_tup (pv 6) pe_int (fun _ _ => rfl)) pa_nil)))))))
    (pss_cons (ps_set (i := 8) scLBuild.nd rfl (by first | exact Or.inl rfl | exact Or.inr rfl) (pe_lst pa_nil))
    (pss_cons (ps_for PassesOwn.never rfl (pi_list (pe_callB (cr_sortedD (rm hr)) (by rfl) hB.sorted_ (by decide +kernel) (pa_cons (pv 0) pa_nil))) (pg_name (i := 9) scLBuild.nd rfl (by first | exact Or.inl rfl | exact Or.inr rfl))
    (pss_cons (ps_set (i := 10) scLBuild.nd rfl (by first | exact Or.inl rfl | exact Or.inr rfl) (pe_callB (cr_sum rfl) (by rfl) hB.sum_ (by decide +kernel) (pa_cons (pe_lc (own := [("_law_pair", 7)]) rfl scLBuild.nd (pi_list (pv 2)) (blkOk_by (N := nLBuild) (sc := defScope sLBuild) (by decide +kernel)) (fun _ _ _ _ _ => (pg_name (i := 7) scLBuild.nd rfl (by first | exact Or.inl rfl | exact Or.inr rfl))) (fun _ _ _ _ _ => (pts_one (pt_cmpR op_eq (pe_ix ix_tup (pv 7) pe_int (fun _ _ => rfl)) (pv 9) (nomark _)))) (fun _ _ _ _ _ => (pe_ix ix_tup (pv 7) pe_int (fun _ _ => rfl)))) pa_nil)))
    (pss_one (ps_expr (pe_bm PySem.F.plainAttrs_list PySem.F.slot_list_append PySem.F.type_list_append mt_append (pv 8) (pa_cons (pe_tup (pa_cons (pv 10) (pa_cons (pe_callTy call_tuple_of (by rfl) hB.tuple_ (by decide +kernel) (pa_cons (pe_callB (cr_sortedD (rm hr)) (by rfl) hB.sorted_ (by decide +kernel) (pa_cons (pe_lc (own := [("_law_pair", 7)]) rfl scLBuild.nd (pi_list (pv 3)) (blkOk_by (N := nLBuild) (sc := defScope sLBuild) (by decide +kernel)) (fun _ _ _ _ _ => (pg_name (i := 7) scLBuild.nd rfl (by first | exact Or.inl rfl | exact Or.inr rfl))) (fun _ _ _ _ _ => (pts_one (pt_cmpR op_eq (pe_ix ix_seq (pv 7) pe_int (fun _ _ => rfl)) (pv 9) (nomark _)))) (fun _ _ _ _ _ => (pe_ix ix_seq (pv 7) pe_int (fun _ _ => rfl)))) pa_nil)) pa_nil)) pa_nil))) pa_nil))))))
    (pss_one (ps_ret (pe_tup (pa_cons (pe_tup (pa_cons (pe_callTy call_tuple_of (by rfl) hB.tuple_ (by decide +kernel) (pa_cons (pe_callB (cr_sortedD (rm hr)) (by rfl) hB.sorted_ (by decide +kernel) (pa_cons (pv 0) pa_nil)) pa_nil)) (pa_cons (pe_callTy call_tuple_of (by rfl) hB.tuple_ (by decide +kernel) (pa_cons (pv 4) pa_nil)) pa_nil))) (pa_cons (pe_callTy call_tuple_of (by rfl) hB.tuple_ (by decide +kernel) (pa_cons (pv 5) pa_nil)) (pa_cons (pe_callTy call_tuple_of (by rfl) hB.tuple_ (by decide +kernel) (pa_cons (pv 8) pa_nil)) pa_nil)))))))))))
theorem scLTail : FnScope nLTail ["_law_world", "_law_k"] (defScope sLTail) := ⟨rfl, rfl, rfl, by decide +kernel, rfl, by decide +kernel, by decide +kernel⟩
theorem derLTail (hB : Blt mg)  {cdv : Value} {f : Addr} {A : Around} {outer : List Env} {s : Shared} {H : Hp} {E : XK} (hr : Room 0 (A.deeper (envOfC "_law_tail" (defScope sLTail) s.heap.objs.size f cdv))) :
    PSs (cxOf CX0 P w K mg base nLTail "_law_tail" (defScope sLTail) f cdv A outer s H E).nox (defBody sLTail) (tLTail K) :=
    (pss_cons (ps_set (i := 2) scLTail.nd rfl (by first | exact Or.inl rfl | exact Or.inr rfl) (pe_ix ix_tup (pe_ix ix_tup (pe_ix ix_tup (pv 0) pe_int (fun _ _ => rfl)) pe_int (fun _ _ => rfl)) (pv 1) (fun _ _ => rfl)))
    (pss_cons (ps_if (pt_cmpR op_eq (pe_ix ix_seq (pe_ix ix_tup (pv 0) pe_int (fun _ _ => rfl)) (pv 1) (fun _ _ => rfl)) (pe_ix ix_tup (pv 2) pe_int (fun _ _ => rfl)) (nomark _))
    (pss_one (ps_ret (pe_ix ix_tup (pv 2) pe_int (fun _ _ => rfl))))
    pss_nil)
    (pss_one (ps_ret (pe_ix ix_tup (pv 2) pe_int (fun _ _ => rfl))))))
theorem scLPlain : FnScope nLPlain ["_law_world"] (defScope sLPlain) := ⟨rfl, rfl, rfl, by decide +kernel, rfl, by decide +kernel, by decide +kernel⟩
theorem derLPlain (hB : Blt mg)  {cdv : Value} {f : Addr} {A : Around} {outer : List Env} {s : Shared} {H : Hp} {E : XK} (hr : Room 0 (A.deeper (envOfC "_law_plain" (defScope sLPlain) s.heap.objs.size f cdv))) :
    PSs (cxOf CX0 P w K mg base nLPlain "_law_plain" (defScope sLPlain) f cdv A outer s H E).nox (defBody sLPlain) (tLPlain K) :=
    (pss_one (ps_ret (pe_lc (own := [("_law_k", 1)]) rfl scLPlain.nd (pi_range1 (by rfl) hB.range_ (pa_cons (pe_callB call_len_seq (by rfl) hB.len_ PySem.boot_len (pa_cons (pe_ix ix_tup (pv 0) pe_int (fun _ _ => rfl)) pa_nil)) pa_nil)) (blkOk_by (N := nLPlain) (sc := defScope sLPlain) (by decide +kernel)) (fun _ _ _ _ _ => (pg_name (i := 1) scLPlain.nd rfl (by first | exact Or.inl rfl | exact Or.inr rfl))) (fun _ _ _ _ _ => pts_nil) (fun _ _ _ _ _ => (pe_tup (pa_cons (pe_ix ix_tup (pe_ix ix_tup (pe_ix ix_tup (pv 0) pe_int (fun _ _ => rfl)) pe_int (fun _ _ => rfl)) (pv 1) (fun _ _ => rfl)) (pa_cons (pe_ix ix_tup (pe_ix ix_tup (pe_ix ix_tup (pv 0) pe_int (fun _ _ => rfl)) (pv 1) (fun _ _ => rfl)) pe_int (fun _ _ => rfl)) pa_nil)))))))
theorem scLCounts : FnScope nLCounts ["_law_world"] (defScope sLCounts) := ⟨rfl, rfl, rfl, by decide +kernel, rfl, by decide +kernel, by decide +kernel⟩
theorem derLCounts (hB : Blt mg)  {cdv : Value} {f : Addr} {A : Around} {outer : List Env} {s : Shared} {H : Hp} {E : XK} (hr : Room 0 (A.deeper (envOfC "_law_counts" (defScope sLCounts) s.heap.objs.size f cdv))) :
    PSs (cxOf CX0 P w K mg base nLCounts "_law_counts" (defScope sLCounts) f cdv A outer s H E).nox (defBody sLCounts) (tLCounts K) :=
    (pss_one (ps_ret (pe_lc (own := [("_law_pair", 1)]) rfl scLCounts.nd (pi_tup (pe_ix ix_tup (pv 0) pe_int (fun _ _ => rfl))) (blkOk_by (N := nLCounts) (sc := defScope sLCounts) (by decide +kernel)) (fun _ _ _ _ _ => (pg_name (i := 1) scLCounts.nd rfl (by first | exact Or.inl rfl | exact Or.inr rfl))) (fun _ _ _ _ _ => pts_nil) (fun _ _ _ _ _ => (pe_op op_add (pe_ix ix_tup (pv 1) pe_int (fun _ _ => rfl)) (pe_callB call_len_seq (by rfl) hB.len_ PySem.boot_len (pa_cons (pe_ix ix_tup (pv 1) pe_int (fun _ _ => rfl)) pa_nil)))))))
theorem scLEqual : FnScope nLEqual ["_law_told", "_law_right"] (defScope sLEqual) := ⟨rfl, rfl, rfl, by decide +kernel, rfl, by decide +kernel, by decide +kernel⟩
theorem derLEqual (hB : Blt mg)  {cdv : Value} {f : Addr} {A : Around} {outer : List Env} {s : Shared} {H : Hp} {E : XK} (hr : Room 0 (A.deeper (envOfC "_law_equal" (defScope sLEqual) s.heap.objs.size f cdv))) :
    PSs (cxOf CX0 P w K mg base nLEqual "_law_equal" (defScope sLEqual) f cdv A outer s H E).nox (defBody sLEqual) (tLEqual K) :=
    (pss_cons (ps_set (i := 2) scLEqual.nd rfl (by first | exact Or.inl rfl | exact Or.inr rfl) (pe_lst (pa_cons (pe_tup (pa_cons (pv 0) (pa_cons (pv 1) pa_nil))) pa_nil)))
    (pss_cons (ps_for PassesOwn.never rfl (pi_range1 (by rfl) hB.range_ (pa_cons pe_int pa_nil)) (pg_name (i := 3) scLEqual.nd rfl (by first | exact Or.inl rfl | exact Or.inr rfl))
    (pss_cons (ps_if (pt_cmpR op_eq (pe_callB call_len_seq (by rfl) hB.len_ PySem.boot_len (pa_cons (pv 2) pa_nil)) pe_int (nomark _))
    (pss_one (ps_ret pe_bl))
    pss_nil)
    (pss_cons (ps_set (i := 4) scLEqual.nd rfl (by first | exact Or.inl rfl | exact Or.inr rfl) (pe_bm0 PySem.F.plainAttrs_list PySem.F.slot_list_pop PySem.F.type_list_pop mt_pop (pv 2)))
    (pss_cons (ps_set (i := 5) scLEqual.nd rfl (by first | exact Or.inl rfl | exact Or.inr rfl) (pe_ix ix_tup (pv 4) pe_int (fun _ _ => rfl)))
    (pss_cons (ps_set (i := 6) scLEqual.nd rfl (by first | exact Or.inl rfl | exact Or.inr rfl) (pe_ix ix_tup (pv 4) pe_int (fun _ _ => rfl)))
    (pss_one (ps_if (PW.pt (pw_or (pt_val (pe_callB call_isi (by rfl) hB.isinstance_ (by decide +kernel) (pa_cons (pv 6) (pa_cons (pe_bltn (v := .ty "tuple") (by rfl) hB.tuple_ (by decide +kernel) rfl) pa_nil)))) (pw_or1 (pt_val (pe_callB call_isi (by rfl) hB.isinstance_ (by decide +kernel) (pa_cons (pv 6) (pa_cons (pe_bltn (v := .ty "list") (by rfl) hB.list_ (by decide +kernel) rfl) pa_nil)))))))
    (pss_cons (ps_if (PW.pt (pw_or (pt_cmpR op_ne (pe_callB call_isi (by rfl) hB.isinstance_ (by decide +kernel) (pa_cons (pv 6) (pa_cons (pe_bltn (v := .ty "tuple") (by rfl) hB.tuple_ (by decide +kernel) rfl) pa_nil))) (pe_callB call_isi (by rfl) hB.isinstance_ (by decide +kernel) (pa_cons (pv 5) (pa_cons (pe_bltn (v := .ty "tuple") (by rfl) hB.tuple_ (by decide +kernel) rfl) pa_nil))) (nomark _)) (pw_or1 (pt_cmpR op_ne (pe_callB call_isi (by rfl) hB.isinstance_ (by decide +kernel) (pa_cons (pv 6) (pa_cons (pe_bltn (v := .ty "list") (by rfl) hB.list_ (by decide +kernel) rfl) pa_nil))) (pe_callB call_isi (by rfl) hB.isinstance_ (by decide +kernel) (pa_cons (pv 5) (pa_cons (pe_bltn (v := .ty "list") (by rfl) hB.list_ (by decide +kernel) rfl) pa_nil))) (nomark _)))))
    (pss_one (ps_ret pe_bl))
    pss_nil)
    (pss_cons (ps_if (pt_cmpR op_ne (pe_callB call_len_seq (by rfl) hB.len_ PySem.boot_len (pa_cons (pv 5) pa_nil)) (pe_callB call_len_seq (by rfl) hB.len_ PySem.boot_len (pa_cons (pv 6) pa_nil)) (nomark _))
    (pss_one (ps_ret pe_bl))
    pss_nil)
    (pss_one (ps_expr (pe_bm PySem.F.plainAttrs_list PySem.F.slot_list_extend PySem.F.type_list_extend mt_extend (pv 2) (pa_cons (pe_lc (own := [("_law_j", 7)]) rfl scLEqual.nd (pi_range1 (by rfl) hB.range_ (pa_cons (pe_callB call_len_seq (by rfl) hB.len_ PySem.boot_len (pa_cons (pv 6) pa_nil)) pa_nil)) (blkOk_by (N := nLEqual) (sc := defScope sLEqual) (by decide +kernel)) (fun _ _ _ _ _ => (pg_name (i := 7) scLEqual.nd rfl (by first | exact Or.inl rfl | exact Or.inr rfl))) (fun _ _ _ _ _ => pts_nil) (fun _ _ _ _ _ => (pe_tup (pa_cons (pe_ix ix_seq (pv 5) (pv 7) (fun _ _ => rfl)) (pa_cons (pe_ix ix_seq (pv 6) (pv 7) (fun _ _ => rfl)) pa_nil))))) pa_nil))))))
    (pss_one (ps_if (pt_cmpR op_isN (pv 6) pe_non (nomark _))
    (pss_one (ps_if (pt_cmpR op_notN (pv 5) pe_non (nomark _))
    (pss_one (ps_ret pe_bl))
    pss_nil))
    (pss_one (ps_if (PW.pt (pw_or (pt_cmpR op_ne (pe_callB call_isi (by rfl) hB.isinstance_ (by decide +kernel) (pa_cons (pv 6) (pa_cons (pe_bltn (v := .ty "bool") (by rfl) hB.bool_ (by decide +kernel) rfl) pa_nil))) (pe_callB call_isi (by rfl) hB.isinstance_ (by decide +kernel) (pa_cons (pv 5) (pa_cons (pe_bltn (v := .ty "bool") (by rfl) hB.bool_ (by decide +kernel) rfl) pa_nil))) (nomark _)) (pw_or1 (pt_cmpR op_ne (pe_callB call_isi (by rfl) hB.isinstance_ (by decide +kernel) (pa_cons (pv 6) (pa_cons (pe_bltn (v := .ty "str") (by rfl) hB.str_ (by decide +kernel) rfl) pa_nil))) (pe_callB call_isi (by rfl) hB.isinstance_ (by decide +kernel) (pa_cons (pv 5) (pa_cons (pe_bltn (v := .ty "str") (by rfl) hB.str_ (by decide +kernel) rfl) pa_nil))) (nomark _)))))
    (pss_one (ps_ret pe_bl))
    (pss_one (ps_if (PW.pt (pw_or (pt_not (pt_val (pe_callB call_isiT (by rfl) hB.isinstance_ (by decide +kernel) (pa_cons (pv 5) (pa_cons (pe_tup (pa_cons (pe_bltn (v := .ty "bool") (by rfl) hB.bool_ (by decide +kernel) rfl) (pa_cons (pe_bltn (v := .ty "int") (by rfl) hB.int_ (by decide +kernel) rfl) (pa_cons (pe_bltn (v := .ty "str") (by rfl) hB.str_ (by decide +kernel) rfl) pa_nil)))) pa_nil))))) (pw_or1 (pt_cmpR op_ne (pv 5) (pv 6) (nomark _)))))
    (pss_one (ps_ret pe_bl))
    pss_nil)))))))))))))
    (pss_one (ps_ret (pe_cmpR op_eq (pe_callB call_len_seq (by rfl) hB.len_ PySem.boot_len (pa_cons (pv 2) pa_nil)) pe_int (nomark _))))))
theorem scDues : FnScope nDues ["world"] (defScope sDues) := ⟨rfl, rfl, rfl, by decide +kernel, rfl, by decide +kernel, by decide +kernel⟩
theorem derDues (hB : Blt mg) (hArrowsReaches : Kp P w K mg base 1 "arrows_reaches" ["world"] (spArrowsReaches K)) (hManyAt : Kp P w K mg base 1 "many_at" ["world"] (spManyAt K)) {cdv : Value} {f : Addr} {A : Around} {outer : List Env} {s : Shared} {H : Hp} {E : XK} (hr : Room 1 (A.deeper (envOfC "dues" (defScope sDues) s.heap.objs.size f cdv))) :
    PSs (cxOf CX0 P w K mg base nDues "dues" (defScope sDues) f cdv A outer s H E).nox (defBody sDues) (tDues K) :=
    (pss_cons (ps_set (i := 1) scDues.nd rfl (by first | exact Or.inl rfl | exact Or.inr rfl) (pe_dc (own := [("place", 6)]) rfl scDues.nd (pi_tup (pe_ix ix_tup (pe_ix ix_tup (pv 0) pe_int (fun _ _ => rfl)) pe_int (fun _ _ => rfl))) (blkOk_by (N := nDues) (sc := defScope sDues) (by decide +kernel)) (fun _ _ _ _ _ => (pg_name (i := 6) scDues.nd rfl (by first | exact Or.inl rfl | exact Or.inr rfl))) (fun _ _ _ _ _ => pts_nil) (fun _ _ _ _ _ => (pv 6)) (fun _ _ _ _ _ => pe_int)))
    (pss_cons (ps_for PassesOwn.never rfl (pi_list (pe_kp hArrowsReaches hr (by decide) (by rfl) (pa_cons (pv 0) pa_nil))) (pg_tup rfl (pgs_cons (pg_name (i := 2) scDues.nd rfl (by first | exact Or.inl rfl | exact Or.inr rfl)) (pgs_cons (pg_name (i := 3) scDues.nd rfl (by first | exact Or.inl rfl | exact Or.inr rfl)) (pgs_cons (pg_name (i := 4) scDues.nd rfl (by first | exact Or.inl rfl | exact Or.inr rfl)) pgs_nil))))
    (pss_one (ps_daug (hu_of hr) (pv 1) (pv 3) pe_int in_add (fun _ _ _ => rfl))))
    (pss_cons (ps_set (i := 5) scDues.nd rfl (by first | exact Or.inl rfl | exact Or.inr rfl) (pe_kp hManyAt hr (by decide) (by rfl) (pa_cons (pv 0) pa_nil)))
    (pss_one (ps_ret (pe_callTy call_tuple_of (by rfl) hB.tuple_ (by decide +kernel) (pa_cons (pe_lc (own := [("place", 6)]) rfl scDues.nd (pi_tup (pe_ix ix_tup (pe_ix ix_tup (pv 0) pe_int (fun _ _ => rfl)) pe_int (fun _ _ => rfl))) (blkOk_by (N := nDues) (sc := defScope sDues) (by decide +kernel)) (fun _ _ _ _ _ => (pg_name (i := 6) scDues.nd rfl (by first | exact Or.inl rfl | exact Or.inr rfl))) (fun _ _ _ _ _ => pts_nil) (fun _ _ _ _ _ => (pe_op op_sub (pe_dget (hu_of hr) (pv 1) (pv 6) (fun _ _ => rfl)) (pe_dget (hu_of hr) (pv 5) (pv 6) (fun _ _ => rfl))))) pa_nil)))))))
theorem scCheckLit : FnScope nCheckLit ["piece", "lit"] (defScope sCheckLit) := ⟨rfl, rfl, rfl, by decide +kernel, rfl, by decide +kernel, by decide +kernel⟩
theorem derCheckLit (hB : Blt mg) (hCheckNumber : Kp P w K mg base 1 "check_number" ["number", "low", "high"] (spCheckNumber K)) {cdv : Value} {f : Addr} {A : Around} {outer : List Env} {s : Shared} {H : Hp} {E : XK} (hr : Room 1 (A.deeper (envOfC "check_lit" (defScope sCheckLit) s.heap.objs.size f cdv))) :
    PSs (cxOf CX0 P w K mg base nCheckLit "check_lit" (defScope sCheckLit) f cdv A outer s H E).nox (defBody sCheckLit) (tCheckLit K) :=
    (pss_cons (ps_set (i := 2) scCheckLit.nd rfl (by first | exact Or.inl rfl | exact Or.inr rfl) (pe_op op_sub (pe_callB call_len_seq (by rfl) hB.len_ PySem.boot_len (pa_cons (pe_ix ix_tup (pv 0) pe_int (fun _ _ => rfl)) pa_nil)) pe_int))
    (pss_cons (ps_for PassesOwn.never rfl (pi_tup (pv 1)) (pg_name (i := 3) scCheckLit.nd rfl (by first | exact Or.inl rfl | exact Or.inr rfl))
    (pss_one (ps_expr (pe_kp hCheckNumber hr (by decide) (by rfl) (pa_cons (pv 3) (pa_cons pe_int (pa_cons (pv 2) pa_nil)))))))
    (pss_one (ps_for PassesOwn.never rfl (pi_enumT (by rfl) hB.enumerate_ (pa_cons (pv 1) pa_nil)) (pg_tup rfl (pgs_cons (pg_name (i := 4) scCheckLit.nd rfl (by first | exact Or.inl rfl | exact Or.inr rfl)) (pgs_cons (pg_name (i := 3) scCheckLit.nd rfl (by first | exact Or.inl rfl | exact Or.inr rfl)) pgs_nil)))
    (pss_one (ps_if (pt_cmpR op_in_seq (pv 3) (pe_slice sl_tupA (pv 1) po_none (po_some (pv 4))) (by rfl))
    (pss_one ps_never)
    pss_nil))))))
theorem scLitReach : FnScope nLitReach ["piece", "lit"] (defScope sLitReach) := ⟨rfl, rfl, rfl, by decide +kernel, rfl, by decide +kernel, by decide +kernel⟩
theorem derLitReach (hB : Blt mg) (hWalkerCounts : Kp P w K mg base 1 "walker_counts" ["world"] (spWalkerCounts K)) (hArrowsShapes : Kp P w K mg base 1 "arrows_shapes" ["world"] (spArrowsShapes K)) {cdv : Value} {f : Addr} {A : Around} {outer : List Env} {s : Shared} {H : Hp} {E : XK} (hr : Room 1 (A.deeper (envOfC "lit_reach" (defScope sLitReach) s.heap.objs.size f cdv))) :
    PSs (cxOf CX0 P w K mg base nLitReach "lit_reach" (defScope sLitReach) f cdv A outer s H E).nox (defBody sLitReach) (tLitReach K) :=
    (pss_cons (ps_asg (pv 0) (pg_tup rfl (pgs_cons (pg_name (i := 2) scLitReach.nd rfl (by first | exact Or.inl rfl | exact Or.inr rfl)) (pgs_cons (pg_name (i := 3) scLitReach.nd rfl (by first | exact Or.inl rfl | exact Or.inr rfl)) pgs_nil))))
    (pss_cons (ps_setLc (i := 4) (own := [("number", 11)]) rfl scLitReach.nd rfl rfl (sw_true rfl rfl rfl (by decide +kernel)) (pi_tup (pv 1)) (blkOk_by (N := nLitReach) (sc := defScope sLitReach) (by decide +kernel)) (fun _ _ _ _ _ => (pg_name (i := 11) scLitReach.nd rfl (by first | exact Or.inl rfl | exact Or.inr rfl))) (fun _ _ _ _ _ => pts_nil) (fun _ _ _ _ _ => (pe_ix ix_tup (pv 3) (pv 11) (fun _ _ => rfl))))
    (pss_cons (ps_for PassesOwn.never rfl (pi_zipM (by rfl) hB.zip_ (pa_cons (pe_ix ix_tup (pe_ix ix_tup (pv 2) pe_int (fun _ _ => rfl)) pe_int (fun _ _ => rfl)) (pa_cons (pe_kp hWalkerCounts hr (by decide) (by rfl) (pa_cons (pv 2) pa_nil)) pa_nil))) (pg_tup rfl (pgs_cons (pg_name (i := 5) scLitReach.nd rfl (by first | exact Or.inl rfl | exact Or.inr rfl)) (pgs_cons (pg_name (i := 6) scLitReach.nd rfl (by first | exact Or.inl rfl | exact Or.inr rfl)) pgs_nil)))
    (pss_one (ps_if (pt_cmpR op_gt (pv 6) pe_int (nomark _))
    (pss_one (ps_expr (pe_bm PySem.F.plainAttrs_list PySem.F.slot_list_append PySem.F.type_list_append mt_append (pv 4) (pa_cons (pv 5) pa_nil))))
    pss_nil)))
    (pss_cons (ps_set (i := 7) scLitReach.nd rfl (by first | exact Or.inl rfl | exact Or.inr rfl) (pe_kp hArrowsShapes hr (by decide) (by rfl) (pa_cons (pv 2) pa_nil)))
    (pss_cons (ps_set (i := 8) scLitReach.nd rfl (by first | exact Or.inl rfl | exact Or.inr rfl) pe_bl)
    (pss_cons (ps_while PassesOwn.never (pt_val (pv 8))
    (pss_cons (ps_set (i := 8) scLitReach.nd rfl (by first | exact Or.inl rfl | exact Or.inr rfl) pe_bl)
    (pss_one (ps_for PassesOwn.never rfl (pi_list (pv 7)) (pg_tup rfl (pgs_cons (pg_name (i := 9) scLitReach.nd rfl (by first | exact Or.inl rfl | exact Or.inr rfl)) (pgs_cons (pg_name (i := 10) scLitReach.nd rfl (by first | exact Or.inl rfl | exact Or.inr rfl)) pgs_nil)))
    (pss_one (ps_if (PW.pt (pw_and (pt_cmpR op_in_seq (pv 9) (pv 4) (by rfl)) (pw_and1 (pt_cmpR op_notIn_seq (pv 10) (pv 4) (by rfl)))))
    (pss_cons (ps_expr (pe_bm PySem.F.plainAttrs_list PySem.F.slot_list_append PySem.F.type_list_append mt_append (pv 4) (pa_cons (pv 10) pa_nil)))
    (pss_one (ps_set (i := 8) scLitReach.nd rfl (by first | exact Or.inl rfl | exact Or.inr rfl) pe_bl)))
    pss_nil))))))
    (pss_one (ps_ret (pv 4)))))))))
theorem scLRange : FnScope nLRange ["_law_store_here", "_law_low", "_law_high"] (defScope sLRange) := ⟨rfl, rfl, rfl, by decide +kernel, rfl, by decide +kernel, by decide +kernel⟩
theorem derLRange (hB : Blt mg) (hLTake : Kp P w K mg base 1 "_law_take" ["_law_store_here", "_law_many"] (spLTake K)) {cdv : Value} {f : Addr} {A : Around} {outer : List Env} {s : Shared} {H : Hp} {E : XK} (hr : Room 1 (A.deeper (envOfC "_law_range" (defScope sLRange) s.heap.objs.size f cdv))) :
    PSs (cxOf CX0 P w K mg base nLRange "_law_range" (defScope sLRange) f cdv A outer s H E).nox (defBody sLRange) (tLRange K) :=
    (pss_one (ps_ret (pe_op op_add (pv 1) (pe_kp hLTake hr (by decide) (by rfl) (pa_cons (pv 0) (pa_cons (pe_op op_add (pe_op op_sub (pv 2) (pv 1)) pe_int) pa_nil))))))
theorem scLSeldom : FnScope nLSeldom ["_law_store_here", "_law_many"] (defScope sLSeldom) := ⟨rfl, rfl, rfl, by decide +kernel, rfl, by decide +kernel, by decide +kernel⟩
theorem derLSeldom (hB : Blt mg) (hLTake : Kp P w K mg base 1 "_law_take" ["_law_store_here", "_law_many"] (spLTake K)) {cdv : Value} {f : Addr} {A : Around} {outer : List Env} {s : Shared} {H : Hp} {E : XK} (hr : Room 1 (A.deeper (envOfC "_law_seldom" (defScope sLSeldom) s.heap.objs.size f cdv))) :
    PSs (cxOf CX0 P w K mg base nLSeldom "_law_seldom" (defScope sLSeldom) f cdv A outer s H E).nox (defBody sLSeldom) (tLSeldom K) :=
    (pss_one (ps_ret (pe_cmpR op_eq (pe_kp hLTake hr (by decide) (by rfl) (pa_cons (pv 0) (pa_cons (pv 1) pa_nil))) pe_int (nomark _))))
theorem scLOne : FnScope nLOne ["_law_store_here", "_law_row"] (defScope sLOne) := ⟨rfl, rfl, rfl, by decide +kernel, rfl, by decide +kernel, by decide +kernel⟩
theorem derLOne (hB : Blt mg) (hLTake : Kp P w K mg base 1 "_law_take" ["_law_store_here", "_law_many"] (spLTake K)) {cdv : Value} {f : Addr} {A : Around} {outer : List Env} {s : Shared} {H : Hp} {E : XK} (hr : Room 1 (A.deeper (envOfC "_law_one" (defScope sLOne) s.heap.objs.size f cdv))) :
    PSs (cxOf CX0 P w K mg base nLOne "_law_one" (defScope sLOne) f cdv A outer s H E).nox (defBody sLOne) (tLOne K) :=
    (pss_one (ps_ret (pe_ix ix_list (pv 1) (pe_kp hLTake hr (by decide) (by rfl) (pa_cons (pv 0) (pa_cons (pe_callB call_len_seq (by rfl) hB.len_ PySem.boot_len (pa_cons (pv 1) pa_nil)) pa_nil))) (fun _ _ => rfl))))
theorem scLSome : FnScope nLSome ["_law_store_here", "_law_row", "_law_many"] (defScope sLSome) := ⟨rfl, rfl, rfl, by decide +kernel, rfl, by decide +kernel, by decide +kernel⟩
theorem derLSome (hB : Blt mg) (hLTake : Kp P w K mg base 1 "_law_take" ["_law_store_here", "_law_many"] (spLTake K)) {cdv : Value} {f : Addr} {A : Around} {outer : List Env} {s : Shared} {H : Hp} {E : XK} (hr : Room 1 (A.deeper (envOfC "_law_some" (defScope sLSome) s.heap.objs.size f cdv))) :
    PSs (cxOf CX0 P w K mg base nLSome "_law_some" (defScope sLSome) f cdv A outer s H E).nox (defBody sLSome) (tLSome K) :=
    (pss_cons (ps_set (i := 3) scLSome.nd rfl (by first | exact Or.inl rfl | exact Or.inr rfl) (pe_callTy call_list_of (by rfl) hB.list_ (by decide +kernel) (pa_cons (pv 1) pa_nil)))
    (pss_cons (ps_set (i := 4) scLSome.nd rfl (by first | exact Or.inl rfl | exact Or.inr rfl) (pe_lst pa_nil))
    (pss_cons (ps_for PassesOwn.never rfl (pi_range1 (by rfl) hB.range_ (pa_cons (pe_callB (call_min2 rfl) (by rfl) hB.min_ (by decide +kernel) (pa_cons (pv 2) (pa_cons (pe_callB call_len_seq (by rfl) hB.len_ PySem.boot_len (pa_cons (pv 3) pa_nil)) pa_nil))) pa_nil)) (pg_name (i := 5) scLSome.nd rfl (by first | exact Or.inl rfl | exact Or.inr rfl))
    (pss_one (ps_expr (pe_bm PySem.F.plainAttrs_list PySem.F.slot_list_append PySem.F.type_list_append mt_append (pv 4) (pa_cons (pe_bm PySem.F.plainAttrs_list PySem.F.slot_list_pop PySem.F.type_list_pop mt_popAt (pv 3) (pa_cons (pe_kp hLTake hr (by decide) (by rfl) (pa_cons (pv 0) (pa_cons (pe_callB call_len_seq (by rfl) hB.len_ PySem.boot_len (pa_cons (pv 3) pa_nil)) pa_nil))) pa_nil)) pa_nil)))))
    (pss_one (ps_ret (pv 4))))))
theorem scLHeads : FnScope nLHeads ["_law_store_here", "_law_web_here"] (defScope sLHeads) := ⟨rfl, rfl, rfl, by decide +kernel, rfl, by decide +kernel, by decide +kernel⟩
theorem derLHeads (hB : Blt mg) (hLTake : Kp P w K mg base 1 "_law_take" ["_law_store_here", "_law_many"] (spLTake K)) {cdv : Value} {f : Addr} {A : Around} {outer : List Env} {s : Shared} {H : Hp} {E : XK} (hr : Room 1 (A.deeper (envOfC "_law_heads" (defScope sLHeads) s.heap.objs.size f cdv))) :
    PSs (cxOf CX0 P w K mg base nLHeads "_law_heads" (defScope sLHeads) f cdv A outer s H E).nox (defBody sLHeads) (tLHeads K) :=
    (pss_cons (ps_set (i := 2) scLHeads.nd rfl (by first | exact Or.inl rfl | exact Or.inr rfl) (pe_kp hLTake hr (by decide) (by rfl) (pa_cons (pv 0) (pa_cons pe_int pa_nil))))
    (pss_cons (ps_set (i := 3) scLHeads.nd rfl (by first | exact Or.inl rfl | exact Or.inr rfl) (pe_lst pa_nil))
    (pss_cons (ps_for PassesOwn.never rfl (pi_tup (pe_ix ix_tup (pv 1) pe_int (fun _ _ => rfl))) (pg_name (i := 4) scLHeads.nd rfl (by first | exact Or.inl rfl | exact Or.inr rfl))
    (pss_cons (ps_set (i := 5) scLHeads.nd rfl (by first | exact Or.inl rfl | exact Or.inr rfl) (pv 2))
    (pss_cons (ps_if (PW.pt (pw_or (pt_cmpR op_eq (pv 2) pe_int (nomark _)) (pw_or1 (pt_cmpR op_gt (pv 2) pe_int (nomark _)))))
    (pss_one (ps_set (i := 5) scLHeads.nd rfl (by first | exact Or.inl rfl | exact Or.inr rfl) (pe_op op_add pe_int (pe_kp hLTake hr (by decide) (by rfl) (pa_cons (pv 0) (pa_cons pe_int pa_nil))))))
    pss_nil)
    (pss_one (ps_expr (pe_bm PySem.F.plainAttrs_list PySem.F.slot_list_append PySem.F.type_list_append mt_append (pv 3) (pa_cons (pe_ix ix_tup (pv 4) (pv 5) (fun _ _ => rfl)) pa_nil)))))))
    (pss_one (ps_ret (pe_callTy call_tuple_of (by rfl) hB.tuple_ (by decide +kernel) (pa_cons (pv 3) pa_nil)))))))
theorem scLLinks : FnScope nLLinks ["_law_world"] (defScope sLLinks) := ⟨rfl, rfl, rfl, by decide +kernel, rfl, by decide +kernel, by decide +kernel⟩
theorem derLLinks (hB : Blt mg) (hLTail : Kp P w K mg base 1 "_law_tail" ["_law_world", "_law_k"] (spLTail K)) {cdv : Value} {f : Addr} {A : Around} {outer : List Env} {s : Shared} {H : Hp} {E : XK} (hr : Room 1 (A.deeper (envOfC "_law_links" (defScope sLLinks) s.heap.objs.size f cdv))) :
    PSs (cxOf CX0 P w K mg base nLLinks "_law_links" (defScope sLLinks) f cdv A outer s H E).nox (defBody sLLinks) (tLLinks K) :=
    (pss_one (ps_ret (pe_lc (own := [("_law_k", 1)]) rfl scLLinks.nd (pi_range1 (by rfl) hB.range_ (pa_cons (pe_callB call_len_seq (by rfl) hB.len_ PySem.boot_len (pa_cons (pe_ix ix_tup (pv 0) pe_int (fun _ _ => rfl)) pa_nil)) pa_nil)) (blkOk_by (N := nLLinks) (sc := defScope sLLinks) (by decide +kernel)) (fun _ _ _ _ _ => (pg_name (i := 1) scLLinks.nd rfl (by first | exact Or.inl rfl | exact Or.inr rfl))) (fun _ _ _ _ _ => pts_nil) (fun _ _ _ _ _ => (pe_tup (pa_cons (pe_ix ix_tup (pe_ix ix_tup (pe_ix ix_tup (pe_ix ix_tup (pv 0) pe_int (fun _ _ => rfl)) pe_int (fun _ _ => rfl)) (pv 1) (fun _ _ => rfl)) pe_int (fun _ _ => rfl)) (pa_cons (pe_kp hLTail hr (by decide) (by rfl) (pa_cons (pv 0) (pa_cons (pv 1) pa_nil))) (pa_cons (pe_ix ix_seq (pe_ix ix_tup (pv 0) pe_int (fun _ _ => rfl)) (pv 1) (fun _ _ => rfl)) pa_nil))))))))
theorem scLDueRow : FnScope nLDueRow ["_law_world"] (defScope sLDueRow) := ⟨rfl, rfl, rfl, by decide +kernel, rfl, by decide +kernel, by decide +kernel⟩
theorem derLDueRow (hB : Blt mg) (hLCounts : Kp P w K mg base 1 "_law_counts" ["_law_world"] (spLCounts K)) (hLTail : Kp P w K mg base 1 "_law_tail" ["_law_world", "_law_k"] (spLTail K)) {cdv : Value} {f : Addr} {A : Around} {outer : List Env} {s : Shared} {H : Hp} {E : XK} (hr : Room 1 (A.deeper (envOfC "_law_due_row" (defScope sLDueRow) s.heap.objs.size f cdv))) :
    PSs (cxOf CX0 P w K mg base nLDueRow "_law_due_row" (defScope sLDueRow) f cdv A outer s H E).nox (defBody sLDueRow) (tLDueRow K) :=
    (pss_cons (ps_set (i := 1) scLDueRow.nd rfl (by first | exact Or.inl rfl | exact Or.inr rfl) (pe_kp hLCounts hr (by decide) (by rfl) (pa_cons (pv 0) pa_nil)))
    (pss_cons (ps_set (i := 2) scLDueRow.nd rfl (by first | exact Or.inl rfl | exact Or.inr rfl) (pe_lst pa_nil))
    (pss_cons (ps_for PassesOwn.never rfl (pi_range1 (by rfl) hB.range_ (pa_cons (pe_callB call_len_seq (by rfl) hB.len_ PySem.boot_len (pa_cons (pv 1) pa_nil)) pa_nil)) (pg_name (i := 3) scLDueRow.nd rfl (by first | exact Or.inl rfl | exact Or.inr rfl))
    (pss_cons (ps_set (i := 4) scLDueRow.nd rfl (by first | exact Or.inl rfl | exact Or.inr rfl) (pe_callB call_len_seq (by rfl) hB.len_ PySem.boot_len (pa_cons (pe_lc (own := [("_law_j", 5)]) rfl scLDueRow.nd (pi_range1 (by rfl) hB.range_ (pa_cons (pe_callB call_len_seq (by rfl) hB.len_ PySem.boot_len (pa_cons (pe_ix ix_tup (pv 0) pe_int (fun _ _ => rfl)) pa_nil)) pa_nil)) (blkOk_by (N := nLDueRow) (sc := defScope sLDueRow) (by decide +kernel)) (fun _ _ _ _ _ => (pg_name (i := 5) scLDueRow.nd rfl (by first | exact Or.inl rfl | exact Or.inr rfl))) (fun _ _ _ _ _ => (pts_one (pt_cmpR op_eq (pe_kp hLTail hr (by decide) (by rfl) (pa_cons (pv 0) (pa_cons (pv 5) pa_nil))) (pe_ix ix_tup (pe_ix ix_tup (pe_ix ix_tup (pv 0) pe_int (fun _ _ => rfl)) pe_int (fun _ _ => rfl)) (pv 3) (fun _ _ => rfl)) (nomark _)))) (fun _ _ _ _ _ => (pv 5))) pa_nil)))
    (pss_one (ps_expr (pe_bm PySem.F.plainAttrs_list PySem.F.slot_list_append PySem.F.type_list_append mt_append (pv 2) (pa_cons (pe_op op_sub (pv 4) (pe_ix ix_list (pv 1) (pv 3) (fun _ _ => rfl))) pa_nil))))))
    (pss_one (ps_ret (pe_callTy call_tuple_of (by rfl) hB.tuple_ (by decide +kernel) (pa_cons (pv 2) pa_nil)))))))
theorem scLCome : FnScope nLCome ["_law_world", "_law_origins"] (defScope sLCome) := ⟨rfl, rfl, rfl, by decide +kernel, rfl, by decide +kernel, by decide +kernel⟩
theorem derLCome (hB : Blt mg) (hLTail : Kp P w K mg base 1 "_law_tail" ["_law_world", "_law_k"] (spLTail K)) {cdv : Value} {f : Addr} {A : Around} {outer : List Env} {s : Shared} {H : Hp} {E : XK} (hr : Room 1 (A.deeper (envOfC "_law_come" (defScope sLCome) s.heap.objs.size f cdv))) :
    PSs (cxOf CX0 P w K mg base nLCome "_law_come" (defScope sLCome) f cdv A outer s H E).nox (defBody sLCome) (tLCome K) :=
    (pss_cons (ps_setLc (i := 2) (own := [("_law_spot", 5)]) rfl scLCome.nd rfl rfl (sw_true rfl rfl rfl (by decide +kernel)) (pi_tup (pe_ix ix_tup (pe_ix ix_tup (pv 0) pe_int (fun _ _ => rfl)) pe_int (fun _ _ => rfl))) (blkOk_by (N := nLCome) (sc := defScope sLCome) (by decide +kernel)) (fun _ _ _ _ _ => (pg_name (i := 5) scLCome.nd rfl (by first | exact Or.inl rfl | exact Or.inr rfl))) (fun _ _ _ _ _ => (pts_one (pt_cmpR op_in_seq (pv 5) (pv 1) (by rfl)))) (fun _ _ _ _ _ => (pv 5)))
    (pss_cons (ps_for PassesOwn.never rfl (pi_range1 (by rfl) hB.range_ (pa_cons (pe_callB call_len_seq (by rfl) hB.len_ PySem.boot_len (pa_cons (pe_ix ix_tup (pe_ix ix_tup (pv 0) pe_int (fun _ _ => rfl)) pe_int (fun _ _ => rfl)) pa_nil)) pa_nil)) (pg_name (i := 3) scLCome.nd rfl (by first | exact Or.inl rfl | exact Or.inr rfl))
    (pss_one (ps_for PassesOwn.never rfl (pi_range1 (by rfl) hB.range_ (pa_cons (pe_callB call_len_seq (by rfl) hB.len_ PySem.boot_len (pa_cons (pe_ix ix_tup (pv 0) pe_int (fun _ _ => rfl)) pa_nil)) pa_nil)) (pg_name (i := 4) scLCome.nd rfl (by first | exact Or.inl rfl | exact Or.inr rfl))
    (pss_one (ps_if (PW.pt (pw_and (pt_cmpR op_in_seq (pe_kp hLTail hr (by decide) (by rfl) (pa_cons (pv 0) (pa_cons (pv 4) pa_nil))) (pv 2) (by rfl)) (pw_and1 (pt_cmpR op_notIn_seq (pe_ix ix_tup (pe_ix ix_tup (pv 0) pe_int (fun _ _ => rfl)) (pv 4) (fun _ _ => rfl)) (pv 2) (by rfl)))))
    (pss_one (ps_expr (pe_bm PySem.F.plainAttrs_list PySem.F.slot_list_append PySem.F.type_list_append mt_append (pv 2) (pa_cons (pe_ix ix_tup (pe_ix ix_tup (pv 0) pe_int (fun _ _ => rfl)) (pv 4) (fun _ _ => rfl)) pa_nil))))
    pss_nil)))))
    (pss_one (ps_ret (pe_callTy call_tuple_of (by rfl) hB.tuple_ (by decide +kernel) (pa_cons (pe_callB (cr_sortedD (rm hr)) (by rfl) hB.sorted_ (by decide +kernel) (pa_cons (pv 2) pa_nil)) pa_nil))))))
theorem scShifts : FnScope nShifts ["piece", "lit"] (defScope sShifts) := ⟨rfl, rfl, rfl, by decide +kernel, rfl, by decide +kernel, by decide +kernel⟩
theorem derShifts (hB : Blt mg) (hCheckLit : Kp P w K mg base 2 "check_lit" ["piece", "lit"] (spCheckLit K)) (hLitReach : Kp P w K mg base 2 "lit_reach" ["piece", "lit"] (spLitReach K)) (hDues : Kp P w K mg base 2 "dues" ["world"] (spDues K)) (hWaysOut : Kp P w K mg base 1 "ways_out" ["web", "heads"] (spWaysOut K)) (hPointings : Kp P w K mg base 1 "pointings" ["world", "free"] (spPointings K)) {cdv : Value} {f : Addr} {A : Around} {outer : List Env} {s : Shared} {H : Hp} {E : XK} (hr : Room 2 (A.deeper (envOfC "shifts" (defScope sShifts) s.heap.objs.size f cdv))) :
    PSs (cxOf CX0 P w K mg base nShifts "shifts" (defScope sShifts) f cdv A outer s H E).nox (defBody sShifts) (tShifts P w K) :=
    (pss_cons (ps_expr (pe_kp hCheckLit hr (by decide) (by rfl) (pa_cons (pv 0) (pa_cons (pv 1) pa_nil))))
    (pss_cons (ps_asg (pv 0) (pg_tup rfl (pgs_cons (pg_name (i := 2) scShifts.nd rfl (by first | exact Or.inl rfl | exact Or.inr rfl)) (pgs_cons (pg_name (i := 3) scShifts.nd rfl (by first | exact Or.inl rfl | exact Or.inr rfl)) pgs_nil))))
    (pss_cons (ps_set (i := 4) scShifts.nd rfl (by first | exact Or.inl rfl | exact Or.inr rfl) (pe_ix ix_tup (pv 2) pe_int (fun _ _ => rfl)))
    (pss_cons (ps_set (i := 5) scShifts.nd rfl (by first | exact Or.inl rfl | exact Or.inr rfl) (pe_kp hLitReach hr (by decide) (by rfl) (pa_cons (pv 0) (pa_cons (pv 1) pa_nil))))
    (pss_cons (ps_setLc (i := 6) (own := [("way", 12), ("low", 13), ("high", 14)]) rfl scShifts.nd rfl rfl (sw_true rfl rfl rfl (by decide +kernel)) (pi_tup (pe_ix ix_tup (pv 4) pe_int (fun _ _ => rfl))) (blkOk_by (N := nShifts) (sc := defScope sShifts) (by decide +kernel)) (fun _ _ _ _ _ => (pg_tup rfl (pgs_cons (pg_name (i := 12) scShifts.nd rfl (by first | exact Or.inl rfl | exact Or.inr rfl)) (pgs_cons (pg_name (i := 13) scShifts.nd rfl (by first | exact Or.inl rfl | exact Or.inr rfl)) (pgs_cons (pg_name (i := 14) scShifts.nd rfl (by first | exact Or.inl rfl | exact Or.inr rfl)) pgs_nil))))) (fun _ _ _ _ _ => (pts_one (PW.pt (pw_and (pt_cmpR op_in_seq (pv 13) (pv 5) (by rfl)) (pw_and1 (pt_cmpR op_in_seq (pv 14) (pv 5) (by rfl))))))) (fun _ _ _ _ _ => (pv 12)))
    (pss_cons (ps_set (i := 7) scShifts.nd rfl (by first | exact Or.inl rfl | exact Or.inr rfl) (pe_dc (own := [("place", 15), ("due", 16)]) rfl scShifts.nd (RZ.pi_zipA (by rfl) hB.zip_ (pa_cons (pe_ix ix_tup (pv 4) pe_int (fun _ _ => rfl)) (pa_cons (pe_kp hDues hr (by decide) (by rfl) (pa_cons (pv 2) pa_nil)) pa_nil))) (blkOk_by (N := nShifts) (sc := defScope sShifts) (by decide +kernel)) (fun _ _ _ _ _ => (pg_tup rfl (pgs_cons (pg_name (i := 15) scShifts.nd rfl (by first | exact Or.inl rfl | exact Or.inr rfl)) (pgs_cons (pg_name (i := 16) scShifts.nd rfl (by first | exact Or.inl rfl | exact Or.inr rfl)) pgs_nil)))) (fun _ _ _ _ _ => (pts_one (pt_cmpR op_notIn_seq (pv 15) (pv 3) (by rfl)))) (fun _ _ _ _ _ => (pv 15)) (fun _ _ _ _ _ => (pv 16))))
    (pss_cons (ps_set (i := 8) scShifts.nd rfl (by first | exact Or.inl rfl | exact Or.inr rfl) (pe_kp hWaysOut hr (by decide) (by rfl) (pa_cons (pv 4) (pa_cons (pe_ix ix_tup (pv 2) pe_int (fun _ _ => rfl)) pa_nil))))
    (pss_cons (ps_set (i := 9) scShifts.nd rfl (by first | exact Or.inl rfl | exact Or.inr rfl) (pe_lst pa_nil))
    (pss_cons (ps_for PassesOwn.never rfl (pi_list (pe_kp hPointings hr (by decide) (by rfl) (pa_cons (pv 2) (pa_cons (pv 6) pa_nil)))) (pg_name (i := 10) scShifts.nd rfl (by first | exact Or.inl rfl | exact Or.inr rfl))
    (pss_cons (ps_set (i := 11) scShifts.nd rfl (by first | exact Or.inl rfl | exact Or.inr rfl) (pe_kp hWaysOut hr (by decide) (by rfl) (pa_cons (pv 4) (pa_cons (pv 10) pa_nil))))
    (pss_one (ps_if (pt_val (pe_callB (cr_all rfl) (by rfl) hB.all_ (by decide +kernel) (pa_cons (pe_lock (pe_lc (own := [("place", 15)]) rfl scShifts.nd (pi_keys (pv 7)) (blkOk_by (N := nShifts) (sc := defScope sShifts) (by decide +kernel)) (fun _ _ _ _ _ => (pg_name (i := 15) scShifts.nd rfl (by first | exact Or.inl rfl | exact Or.inr rfl))) (fun _ _ _ _ _ => pts_nil) (fun _ _ _ _ _ => (pe_cmpR op_ge (pe_dget (hu_of hr) (pv 11) (pv 15) (fun _ _ => rfl)) (pe_dget (hu_of hr) (pv 7) (pv 15) (fun _ _ => rfl)) (nomark _))))) pa_nil)))
    (pss_one (ps_expr (pe_bm PySem.F.plainAttrs_list PySem.F.slot_list_append PySem.F.type_list_append mt_append (pv 9) (pa_cons (pe_callTy call_tuple_of (by rfl) hB.tuple_ (by decide +kernel) (pa_cons (pe_lc (own := [("place", 15)]) rfl scShifts.nd (pi_tup (pv 3)) (blkOk_by (N := nShifts) (sc := defScope sShifts) (by decide +kernel)) (fun _ _ _ _ _ => (pg_name (i := 15) scShifts.nd rfl (by first | exact Or.inl rfl | exact Or.inr rfl))) (fun _ _ _ _ _ => pts_nil) (fun _ _ _ _ _ => (pe_op op_sub (pe_dget (hu_of hr) (pv 11) (pv 15) (fun _ _ => rfl)) (pe_dget (hu_of hr) (pv 8) (pv 15) (fun _ _ => rfl))))) pa_nil)) pa_nil))))
    pss_nil))))
    (pss_one (ps_ret (pe_callTy call_tuple_of (by rfl) hB.tuple_ (by decide +kernel) (pa_cons (pe_callB (cr_sortedST rfl (rm hr)) (by rfl) hB.sorted_ (by decide +kernel) (pa_cons (pe_scT rfl (rm hr) (pv 9)) pa_nil)) pa_nil)))))))))))))
theorem scLUpto : FnScope nLUpto ["_law_store_here", "_law_low", "_law_high"] (defScope sLUpto) := ⟨rfl, rfl, rfl, by decide +kernel, rfl, by decide +kernel, by decide +kernel⟩
theorem derLUpto (hB : Blt mg) (hLTake : Kp P w K mg base 1 "_law_take" ["_law_store_here", "_law_many"] (spLTake K)) (hLRange : Kp P w K mg base 2 "_law_range" ["_law_store_here", "_law_low", "_law_high"] (spLRange K)) {cdv : Value} {f : Addr} {A : Around} {outer : List Env} {s : Shared} {H : Hp} {E : XK} (hr : Room 2 (A.deeper (envOfC "_law_upto" (defScope sLUpto) s.heap.objs.size f cdv))) :
    PSs (cxOf CX0 P w K mg base nLUpto "_law_upto" (defScope sLUpto) f cdv A outer s H E).nox (defBody sLUpto) (tLUpto K) :=
    (pss_cons (ps_set (i := 3) scLUpto.nd rfl (by first | exact Or.inl rfl | exact Or.inr rfl) (pe_kp hLTake hr (by decide) (by rfl) (pa_cons (pv 0) (pa_cons pe_int pa_nil))))
    (pss_cons (ps_if (pt_cmpR op_eq (pv 3) pe_int (nomark _))
    (pss_one (ps_ret (pv 1)))
    pss_nil)
    (pss_cons (ps_if (pt_cmpR op_eq (pv 3) pe_int (nomark _))
    (pss_one (ps_ret (pe_callB (call_max2 rfl) (by rfl) hB.max_ (by decide +kernel) (pa_cons (pv 1) (pa_cons (pv 2) pa_nil)))))
    pss_nil)
    (pss_one (ps_ret (pe_kp hLRange hr (by decide) (by rfl) (pa_cons (pv 0) (pa_cons (pv 1) (pa_cons (pv 2) pa_nil)))))))))
theorem scLName : FnScope nLName ["_law_store_here"] (defScope sLName) := ⟨rfl, rfl, rfl, by decide +kernel, rfl, by decide +kernel, by decide +kernel⟩
theorem derLName (hB : Blt mg) (hLTake : Kp P w K mg base 1 "_law_take" ["_law_store_here", "_law_many"] (spLTake K)) (hLOne : Kp P w K mg base 2 "_law_one" ["_law_store_here", "_law_row"] (spLOne K)) (hLRange : Kp P w K mg base 2 "_law_range" ["_law_store_here", "_law_low", "_law_high"] (spLRange K)) {cdv : Value} {f : Addr} {A : Around} {outer : List Env} {s : Shared} {H : Hp} {E : XK} (hr : Room 2 (A.deeper (envOfC "_law_name" (defScope sLName) s.heap.objs.size f cdv))) :
    PSs (cxOf CX0 P w K mg base nLName "_law_name" (defScope sLName) f cdv A outer s H E).nox (defBody sLName) (tLName K) :=
    (pss_cons (ps_set (i := 1) scLName.nd rfl (by first | exact Or.inl rfl | exact Or.inr rfl) pe_str)
    (pss_cons (ps_set (i := 2) scLName.nd rfl (by first | exact Or.inl rfl | exact Or.inr rfl) (pe_op op_add_str (pv 1) pe_str))
    (pss_cons (ps_set (i := 3) scLName.nd rfl (by first | exact Or.inl rfl | exact Or.inr rfl) (pe_kp hLTake hr (by decide) (by rfl) (pa_cons (pv 0) (pa_cons pe_int pa_nil))))
    (pss_cons (ps_if (pt_cmpR op_eq (pv 3) pe_int (nomark _))
    (pss_one (ps_ret (pe_ix ix_str (pv 1) (pe_kp hLTake hr (by decide) (by rfl) (pa_cons (pv 0) (pa_cons pe_int pa_nil))) (fun _ _ => rfl))))
    pss_nil)
    (pss_cons (ps_if (pt_cmpR op_eq (pv 3) pe_int (nomark _))
    (pss_one (ps_ret (pe_op op_add_str (pe_ix ix_str pe_str (pe_kp hLTake hr (by decide) (by rfl) (pa_cons (pv 0) (pa_cons pe_int pa_nil))) (fun _ _ => rfl)) (pe_ix ix_str pe_str (pe_kp hLTake hr (by decide) (by rfl) (pa_cons (pv 0) (pa_cons pe_int pa_nil))) (fun _ _ => rfl)))))
    pss_nil)
    (pss_cons (ps_if (pt_cmpR op_eq (pv 3) pe_int (nomark _))
    (pss_one (ps_ret (pe_kp hLOne hr (by decide) (by rfl) (pa_cons (pv 0) (pa_cons (pe_lst (pa_cons pe_str (pa_cons pe_str (pa_cons pe_str (pa_cons pe_str (pa_cons pe_str (pa_cons pe_str (pa_cons pe_str (pa_cons pe_str (pa_cons pe_str (pa_cons pe_str (pa_cons pe_str (pa_cons pe_str (pa_cons pe_str (pa_cons pe_str (pa_cons pe_str (pa_cons pe_str (pa_cons pe_str (pa_cons pe_str (pa_cons pe_str (pa_cons pe_str (pa_cons pe_str (pa_cons pe_str (pa_cons pe_str (pa_cons pe_str pa_nil))))))))))))))))))))))))) pa_nil)))))
    pss_nil)
    (pss_cons (ps_if (pt_cmpR op_eq (pv 3) pe_int (nomark _))
    (pss_cons (ps_set (i := 4) scLName.nd rfl (by first | exact Or.inl rfl | exact Or.inr rfl) (pe_kp hLRange hr (by decide) (by rfl) (pa_cons (pv 0) (pa_cons pe_int (pa_cons pe_int pa_nil)))))
    (pss_cons (ps_set (i := 5) scLName.nd rfl (by first | exact Or.inl rfl | exact Or.inr rfl) (pe_kp hLTake hr (by decide) (by rfl) (pa_cons (pv 0) (pa_cons (pv 4) pa_nil))))
    (pss_cons (ps_set (i := 6) scLName.nd rfl (by first | exact Or.inl rfl | exact Or.inr rfl) (pe_ix ix_str (pv 1) (pe_kp hLTake hr (by decide) (by rfl) (pa_cons (pv 0) (pa_cons pe_int pa_nil))) (fun _ _ => rfl)))
    (pss_cons (ps_if (pt_cmpR op_gt (pv 5) pe_int (nomark _))
    (pss_one (ps_set (i := 6) scLName.nd rfl (by first | exact Or.inl rfl | exact Or.inr rfl) (pe_ix ix_str (pv 2) (pe_kp hLTake hr (by decide) (by rfl) (pa_cons (pv 0) (pa_cons pe_int pa_nil))) (fun _ _ => rfl))))
    pss_nil)
    (pss_one (ps_ret (pe_op op_add_str (pe_op op_add_str (pe_slice sl_str pe_str po_none (po_some (pv 5))) (pv 6)) (pe_slice sl_str pe_str po_none (po_some (pe_op op_sub (pe_op op_sub (pv 4) pe_int) (pv 5)))))))))))
    pss_nil)
    (pss_cons (ps_set (i := 4) scLName.nd rfl (by first | exact Or.inl rfl | exact Or.inr rfl) pe_int)
    (pss_cons (ps_if (pt_cmpR op_eq (pv 3) pe_int (nomark _))
    (pss_one (ps_set (i := 4) scLName.nd rfl (by first | exact Or.inl rfl | exact Or.inr rfl) (pe_kp hLRange hr (by decide) (by rfl) (pa_cons (pv 0) (pa_cons pe_int (pa_cons pe_int pa_nil))))))
    pss_nil)
    (pss_cons (ps_set (i := 7) scLName.nd rfl (by first | exact Or.inl rfl | exact Or.inr rfl) (pe_ix ix_str (pv 1) (pe_kp hLTake hr (by decide) (by rfl) (pa_cons (pv 0) (pa_cons pe_int pa_nil))) (fun _ _ => rfl)))
    (pss_cons (ps_for PassesOwn.never rfl (pi_range1 (by rfl) hB.range_ (pa_cons (pe_op op_sub (pv 4) pe_int) pa_nil)) (pg_name (i := 8) scLName.nd rfl (by first | exact Or.inl rfl | exact Or.inr rfl))
    (pss_one (ps_set (i := 7) scLName.nd rfl (by first | exact Or.inl rfl | exact Or.inr rfl) (pe_op op_add_str (pv 7) (pe_ix ix_str (pv 2) (pe_kp hLTake hr (by decide) (by rfl) (pa_cons (pv 0) (pa_cons pe_int pa_nil))) (fun _ _ => rfl))))))
    (pss_one (ps_ret (pv 7))))))))))))))
theorem scLLoadRow : FnScope nLLoadRow ["_law_piece_here"] (defScope sLLoadRow) := ⟨rfl, rfl, rfl, by decide +kernel, rfl, by decide +kernel, by decide +kernel⟩
theorem derLLoadRow (hB : Blt mg) (hLLinks : Kp P w K mg base 2 "_law_links" ["_law_world"] (spLLinks K)) {cdv : Value} {f : Addr} {A : Around} {outer : List Env} {s : Shared} {H : Hp} {E : XK} (hr : Room 2 (A.deeper (envOfC "_law_load_row" (defScope sLLoadRow) s.heap.objs.size f cdv))) :
    PSs (cxOf CX0 P w K mg base nLLoadRow "_law_load_row" (defScope sLLoadRow) f cdv A outer s H E).nox (defBody sLLoadRow) (tLLoadRow K) :=
    (pss_one (ps_ret (pe_callTy call_tuple_of (by rfl) hB.tuple_ (by decide +kernel) (pa_cons (pe_lc (own := [("_law_spot", 1)]) rfl scLLoadRow.nd (pi_tup (pe_ix ix_tup (pv 0) pe_int (fun _ _ => rfl))) (blkOk_by (N := nLLoadRow) (sc := defScope sLLoadRow) (by decide +kernel)) (fun _ _ _ _ _ => (pg_name (i := 1) scLLoadRow.nd rfl (by first | exact Or.inl rfl | exact Or.inr rfl))) (fun _ _ _ _ _ => pts_nil) (fun _ _ _ _ _ => (pe_callB call_len_seq (by rfl) hB.len_ PySem.boot_len (pa_cons (pe_lc (own := [("_law_row", 2)]) rfl scLLoadRow.nd (pi_list (pe_kp hLLinks hr (by decide) (by rfl) (pa_cons (pe_ix ix_tup (pv 0) pe_int (fun _ _ => rfl)) pa_nil))) (blkOk_by (by kernel_rfl)) (fun _ _ _ _ _ => (pg_name (i := 2) scLLoadRow.nd rfl (by first | exact Or.inl rfl | exact Or.inr rfl))) (fun _ _ _ _ _ => (pts_one (pt_cmpR op_eq (pe_ix ix_tup (pv 2) pe_int (fun _ _ => rfl)) (pv 1) (nomark _)))) (fun _ _ _ _ _ => (pv 2))) pa_nil)))) pa_nil))))
theorem scLFlooded : FnScope nLFlooded ["_law_piece_here", "_law_lit"] (defScope sLFlooded) := ⟨rfl, rfl, rfl, by decide +kernel, rfl, by decide +kernel, by decide +kernel⟩
theorem derLFlooded (hB : Blt mg) (hLCounts : Kp P w K mg base 1 "_law_counts" ["_law_world"] (spLCounts K)) (hLCome : Kp P w K mg base 2 "_law_come" ["_law_world", "_law_origins"] (spLCome K)) {cdv : Value} {f : Addr} {A : Around} {outer : List Env} {s : Shared} {H : Hp} {E : XK} (hr : Room 2 (A.deeper (envOfC "_law_flooded" (defScope sLFlooded) s.heap.objs.size f cdv))) :
    PSs (cxOf CX0 P w K mg base nLFlooded "_law_flooded" (defScope sLFlooded) f cdv A outer s H E).nox (defBody sLFlooded) (tLFlooded K) :=
    (pss_cons (ps_set (i := 2) scLFlooded.nd rfl (by first | exact Or.inl rfl | exact Or.inr rfl) (pe_kp hLCounts hr (by decide) (by rfl) (pa_cons (pe_ix ix_tup (pv 0) pe_int (fun _ _ => rfl)) pa_nil)))
    (pss_cons (ps_set (i := 3) scLFlooded.nd rfl (by first | exact Or.inl rfl | exact Or.inr rfl) (pe_ix ix_tup (pe_ix ix_tup (pe_ix ix_tup (pv 0) pe_int (fun _ _ => rfl)) pe_int (fun _ _ => rfl)) pe_int (fun _ _ => rfl)))
    (pss_one (ps_ret (pe_kp hLCome hr (by decide) (by rfl) (pa_cons (pe_ix ix_tup (pv 0) pe_int (fun _ _ => rfl)) (pa_cons (pe_op op_cat (pe_lc (own := [("_law_k", 4)]) rfl scLFlooded.nd (pi_list (pv 1)) (blkOk_by (N := nLFlooded) (sc := defScope sLFlooded) (by decide +kernel)) (fun _ _ _ _ _ => (pg_name (i := 4) scLFlooded.nd rfl (by first | exact Or.inl rfl | exact Or.inr rfl))) (fun _ _ _ _ _ => pts_nil) (fun _ _ _ _ _ => (pe_ix ix_tup (pe_ix ix_tup (pv 0) pe_int (fun _ _ => rfl)) (pv 4) (fun _ _ => rfl)))) (pe_lc (own := [("_law_k", 4)]) rfl scLFlooded.nd (pi_range1 (by rfl) hB.range_ (pa_cons (pe_callB call_len_seq (by rfl) hB.len_ PySem.boot_len (pa_cons (pv 3) pa_nil)) pa_nil)) (blkOk_by (N := nLFlooded) (sc := defScope sLFlooded) (by decide +kernel)) (fun _ _ _ _ _ => (pg_name (i := 4) scLFlooded.nd rfl (by first | exact Or.inl rfl | exact Or.inr rfl))) (fun _ _ _ _ _ => (pts_one (pt_cmpR op_gt (pe_ix ix_list (pv 2) (pv 4) (fun _ _ => rfl)) pe_int (nomark _)))) (fun _ _ _ _ _ => (pe_ix ix_tup (pv 3) (pv 4) (fun _ _ => rfl))))) pa_nil)))))))
theorem scLLifted : FnScope nLLifted ["_law_piece_here", "_law_k"] (defScope sLLifted) := ⟨rfl, rfl, rfl, by decide +kernel, rfl, by decide +kernel, by decide +kernel⟩
theorem derLLifted (hB : Blt mg) (hLLinks : Kp P w K mg base 2 "_law_links" ["_law_world"] (spLLinks K)) (hLPlain : Kp P w K mg base 1 "_law_plain" ["_law_world"] (spLPlain K)) (hLBuild : Kp P w K mg base 1 "_law_build" ["_law_spots", "_law_links_here", "_law_plain_here", "_law_homes"] (spLBuild K)) {cdv : Value} {f : Addr} {A : Around} {outer : List Env} {s : Shared} {H : Hp} {E : XK} (hr : Room 2 (A.deeper (envOfC "_law_lifted" (defScope sLLifted) s.heap.objs.size f cdv))) :
    PSs (cxOf CX0 P w K mg base nLLifted "_law_lifted" (defScope sLLifted) f cdv A outer s H E).nox (defBody sLLifted) (tLLifted K) :=
    (pss_cons (ps_set (i := 2) scLLifted.nd rfl (by first | exact Or.inl rfl | exact Or.inr rfl) (pe_kp hLLinks hr (by decide) (by rfl) (pa_cons (pe_ix ix_tup (pv 0) pe_int (fun _ _ => rfl)) pa_nil)))
    (pss_cons (ps_expr (pe_bm PySem.F.plainAttrs_list PySem.F.slot_list_pop PySem.F.type_list_pop mt_popAt (pv 2) (pa_cons (pv 1) pa_nil)))
    (pss_one (ps_ret (pe_tup (pa_cons (pe_kp hLBuild hr (by decide) (by rfl) (pa_cons (pe_ix ix_tup (pe_ix ix_tup (pe_ix ix_tup (pv 0) pe_int (fun _ _ => rfl)) pe_int (fun _ _ => rfl)) pe_int (fun _ _ => rfl)) (pa_cons (pv 2) (pa_cons (pe_kp hLPlain hr (by decide) (by rfl) (pa_cons (pe_ix ix_tup (pv 0) pe_int (fun _ _ => rfl)) pa_nil)) (pa_cons (pe_lst pa_nil) pa_nil))))) (pa_cons (pe_ix ix_tup (pv 0) pe_int (fun _ _ => rfl)) pa_nil)))))))
theorem scBehaviour : FnScope nBehaviour ["piece"] (defScope sBehaviour) := ⟨rfl, rfl, rfl, by decide +kernel, rfl, by decide +kernel, by decide +kernel⟩
theorem derBehaviour (hB : Blt mg) (hLitSets : Kp P w K mg base 1 "lit_sets" ["many"] (spLitSets K)) (hShifts : Kp P w K mg base 3 "shifts" ["piece", "lit"] (spShifts K)) {cdv : Value} {f : Addr} {A : Around} {outer : List Env} {s : Shared} {H : Hp} {E : XK} (hr : Room 3 (A.deeper (envOfC "behaviour" (defScope sBehaviour) s.heap.objs.size f cdv))) :
    PSs (cxOf CX0 P w K mg base nBehaviour "behaviour" (defScope sBehaviour) f cdv A outer s H E).nox (defBody sBehaviour) (tBehaviour K) :=
    (pss_one (ps_ret (pe_callTy call_tuple_of (by rfl) hB.tuple_ (by decide +kernel) (pa_cons (pe_lc (own := [("lit", 1)]) rfl scBehaviour.nd (pi_list (pe_kp hLitSets hr (by decide) (by rfl) (pa_cons (pe_callB call_len_seq (by rfl) hB.len_ PySem.boot_len (pa_cons (pe_ix ix_tup (pv 0) pe_int (fun _ _ => rfl)) pa_nil)) pa_nil))) (blkOk_by (N := nBehaviour) (sc := defScope sBehaviour) (by decide +kernel)) (fun _ _ _ _ _ => (pg_name (i := 1) scBehaviour.nd rfl (by first | exact Or.inl rfl | exact Or.inr rfl))) (fun _ _ _ _ _ => pts_nil) (fun _ _ _ _ _ => (pe_kp hShifts hr (by decide) (by rfl) (pa_cons (pv 0) (pa_cons (pv 1) pa_nil))))) pa_nil))))
theorem scLNewName : FnScope nLNewName ["_law_store_here", "_law_taken"] (defScope sLNewName) := ⟨rfl, rfl, rfl, by decide +kernel, rfl, by decide +kernel, by decide +kernel⟩
theorem derLNewName (hB : Blt mg) (hLName : Kp P w K mg base 3 "_law_name" ["_law_store_here"] (spLName K)) {cdv : Value} {f : Addr} {A : Around} {outer : List Env} {s : Shared} {H : Hp} {E : XK} (hr : Room 3 (A.deeper (envOfC "_law_new_name" (defScope sLNewName) s.heap.objs.size f cdv))) :
    PSs (cxOf CX0 P w K mg base nLNewName "_law_new_name" (defScope sLNewName) f cdv A outer s H E).nox (defBody sLNewName) (tLNewName K) :=
    (pss_cons (ps_set (i := 2) scLNewName.nd rfl (by first | exact Or.inl rfl | exact Or.inr rfl) pe_str)
    (pss_cons (ps_set (i := 3) scLNewName.nd rfl (by first | exact Or.inl rfl | exact Or.inr rfl) (pe_kp hLName hr (by decide) (by rfl) (pa_cons (pv 0) pa_nil)))
    (pss_cons (ps_set (i := 4) scLNewName.nd rfl (by first | exact Or.inl rfl | exact Or.inr rfl) (pe_slice sl_str (pv 3) po_none (po_some pe_int)))
    (pss_cons (ps_for PassesOwn.never rfl (pi_range1 (by rfl) hB.range_ (pa_cons (pe_op op_add (pe_callB call_len_seq (by rfl) hB.len_ PySem.boot_len (pa_cons (pv 1) pa_nil)) pe_int) pa_nil)) (pg_name (i := 5) scLNewName.nd rfl (by first | exact Or.inl rfl | exact Or.inr rfl))
    (pss_cons (ps_if (pt_cmpR op_notIn_seq (pv 3) (pv 1) (by rfl))
    (pss_one (ps_ret (pv 3)))
    pss_nil)
    (pss_one (ps_set (i := 3) scLNewName.nd rfl (by first | exact Or.inl rfl | exact Or.inr rfl) (pe_op op_add_str (pe_op op_add_str (pv 4) (pe_ix ix_str (pv 2) (pe_op op_modN (pe_callTy call_int1 (by rfl) hB.int_ (by decide +kernel) (pa_cons (pe_op op_fdivN (pv 5) pe_int) pa_nil)) pe_int) (fun _ _ => rfl))) (pe_ix ix_str (pv 2) (pe_op op_modN (pe_callTy call_int1 (by rfl) hB.int_ (by decide +kernel) (pa_cons (pv 5) pa_nil)) pe_int) (fun _ _ => rfl)))))))
    (pss_one (ps_ret (pv 3)))))))
theorem scLShiftRows : FnScope nLShiftRows ["_law_piece_here", "_law_lit"] (defScope sLShiftRows) := ⟨rfl, rfl, rfl, by decide +kernel, rfl, by decide +kernel, by decide +kernel⟩
theorem derLShiftRows (hB : Blt mg) (hLFlooded : Kp P w K mg base 3 "_law_flooded" ["_law_piece_here", "_law_lit"] (spLFlooded K)) (hLDueRow : Kp P w K mg base 2 "_law_due_row" ["_law_world"] (spLDueRow K)) (hLLoadRow : Kp P w K mg base 3 "_law_load_row" ["_law_piece_here"] (spLLoadRow K)) (hLLinks : Kp P w K mg base 2 "_law_links" ["_law_world"] (spLLinks K)) {cdv : Value} {f : Addr} {A : Around} {outer : List Env} {s : Shared} {H : Hp} {E : XK} (hr : Room 3 (A.deeper (envOfC "_law_shift_rows" (defScope sLShiftRows) s.heap.objs.size f cdv))) :
    PSs (cxOf CX0 P w K mg base nLShiftRows "_law_shift_rows" (defScope sLShiftRows) f cdv A outer s H E).nox (defBody sLShiftRows) (tLShiftRows K) :=
    (pss_cons (ps_set (i := 2) scLShiftRows.nd rfl (by first | exact Or.inl rfl | exact Or.inr rfl) (pe_ix ix_tup (pv 0) pe_int (fun _ _ => rfl)))
    (pss_cons (ps_set (i := 3) scLShiftRows.nd rfl (by first | exact Or.inl rfl | exact Or.inr rfl) (pe_kp hLFlooded hr (by decide) (by rfl) (pa_cons (pv 0) (pa_cons (pv 1) pa_nil))))
    (pss_cons (ps_setLc (i := 4) (own := [("_law_k", 6)]) rfl scLShiftRows.nd rfl rfl (sw_true rfl rfl rfl (by decide +kernel)) (pi_range1 (by rfl) hB.range_ (pa_cons (pe_callB call_len_seq (by rfl) hB.len_ PySem.boot_len (pa_cons (pe_ix ix_tup (pv 2) pe_int (fun _ _ => rfl)) pa_nil)) pa_nil)) (blkOk_by (N := nLShiftRows) (sc := defScope sLShiftRows) (by decide +kernel)) (fun _ _ _ _ _ => (pg_name (i := 6) scLShiftRows.nd rfl (by first | exact Or.inl rfl | exact Or.inr rfl))) (fun _ _ _ _ _ => (pts_one (PW.pt (pw_and (pt_cmpR op_in_seq (pe_ix ix_tup (pe_ix ix_tup (pe_ix ix_tup (pe_ix ix_tup (pv 2) pe_int (fun _ _ => rfl)) pe_int (fun _ _ => rfl)) (pv 6) (fun _ _ => rfl)) pe_int (fun _ _ => rfl)) (pv 3) (by rfl)) (pw_and1 (pt_cmpR op_in_seq (pe_ix ix_tup (pe_ix ix_tup (pe_ix ix_tup (pe_ix ix_tup (pv 2) pe_int (fun _ _ => rfl)) pe_int (fun _ _ => rfl)) (pv 6) (fun _ _ => rfl)) pe_int (fun _ _ => rfl)) (pv 3) (by rfl))))))) (fun _ _ _ _ _ => (pv 6)))
    (pss_cons (ps_set (i := 5) scLShiftRows.nd rfl (by first | exact Or.inl rfl | exact Or.inr rfl) pe_int)
    (pss_cons (ps_for PassesOwn.never rfl (pi_list (pv 4)) (pg_name (i := 6) scLShiftRows.nd rfl (by first | exact Or.inl rfl | exact Or.inr rfl))
    (pss_one (ps_set (i := 5) scLShiftRows.nd rfl (by first | exact Or.inl rfl | exact Or.inr rfl) (pe_op op_mul (pv 5) pe_int))))
    (pss_cons (ps_set (i := 7) scLShiftRows.nd rfl (by first | exact Or.inl rfl | exact Or.inr rfl) (pe_kp hLDueRow hr (by decide) (by rfl) (pa_cons (pv 2) pa_nil)))
    (pss_cons (ps_set (i := 8) scLShiftRows.nd rfl (by first | exact Or.inl rfl | exact Or.inr rfl) (pe_kp hLLoadRow hr (by decide) (by rfl) (pa_cons (pv 0) pa_nil)))
    (pss_cons (ps_set (i := 9) scLShiftRows.nd rfl (by first | exact Or.inl rfl | exact Or.inr rfl) (pe_lst pa_nil))
    (pss_cons (ps_for PassesOwn.never rfl (pi_range1 (by rfl) hB.range_ (pa_cons (pv 5) pa_nil)) (pg_name (i := 10) scLShiftRows.nd rfl (by first | exact Or.inl rfl | exact Or.inr rfl))
    (pss_cons (ps_set (i := 11) scLShiftRows.nd rfl (by first | exact Or.inl rfl | exact Or.inr rfl) (pe_callTy call_list_of (by rfl) hB.list_ (by decide +kernel) (pa_cons (pe_ix ix_tup (pv 2) pe_int (fun _ _ => rfl)) pa_nil)))
    (pss_cons (ps_set (i := 12) scLShiftRows.nd rfl (by first | exact Or.inl rfl | exact Or.inr rfl) (pv 10))
    (pss_cons (ps_for PassesOwn.never rfl (pi_list (pv 4)) (pg_name (i := 6) scLShiftRows.nd rfl (by first | exact Or.inl rfl | exact Or.inr rfl))
    (pss_cons (ps_asg (pe_ix ix_tup (pe_ix ix_tup (pe_ix ix_tup (pe_ix ix_tup (pv 2) pe_int (fun _ _ => rfl)) pe_int (fun _ _ => rfl)) (pv 6) (fun _ _ => rfl)) (pe_op op_add pe_int (pe_op op_modN (pe_callTy call_int1 (by rfl) hB.int_ (by decide +kernel) (pa_cons (pv 12) pa_nil)) pe_int)) (fun _ _ => rfl)) (pg_sub (pv 11) (pv 6) set_list))
    (pss_one (ps_set (i := 12) scLShiftRows.nd rfl (by first | exact Or.inl rfl | exact Or.inr rfl) (pe_op op_fdivN (pv 12) pe_int)))))
    (pss_cons (ps_set (i := 13) scLShiftRows.nd rfl (by first | exact Or.inl rfl | exact Or.inr rfl) (pe_lc (own := [("_law_row", 15)]) rfl scLShiftRows.nd (pi_list (pe_kp hLLinks hr (by decide) (by rfl) (pa_cons (pe_tup (pa_cons (pe_ix ix_tup (pv 2) pe_int (fun _ _ => rfl)) (pa_cons (pv 11) (pa_cons (pe_ix ix_tup (pv 2) pe_int (fun _ _ => rfl)) pa_nil)))) pa_nil))) (blkOk_by (N := nLShiftRows) (sc := defScope sLShiftRows) (by decide +kernel)) (fun _ _ _ _ _ => (pg_name (i := 15) scLShiftRows.nd rfl (by first | exact Or.inl rfl | exact Or.inr rfl))) (fun _ _ _ _ _ => pts_nil) (fun _ _ _ _ _ => (pe_ix ix_tup (pv 15) pe_int (fun _ _ => rfl)))))
    (pss_cons (ps_set (i := 14) scLShiftRows.nd rfl (by first | exact Or.inl rfl | exact Or.inr rfl) pe_bl)
    (pss_cons (ps_for PassesOwn.never rfl (pi_range1 (by rfl) hB.range_ (pa_cons (pe_callB call_len_seq (by rfl) hB.len_ PySem.boot_len (pa_cons (pv 7) pa_nil)) pa_nil)) (pg_name (i := 6) scLShiftRows.nd rfl (by first | exact Or.inl rfl | exact Or.inr rfl))
    (pss_one (ps_if (PW.pt (pw_and (pt_cmpR op_notIn_seq (pe_ix ix_tup (pe_ix ix_tup (pe_ix ix_tup (pv 2) pe_int (fun _ _ => rfl)) pe_int (fun _ _ => rfl)) (pv 6) (fun _ _ => rfl)) (pe_ix ix_tup (pv 0) pe_int (fun _ _ => rfl)) (by rfl)) (pw_and1 (pt_cmpR op_lt (pe_bm PySem.F.plainAttrs_list PySem.F.slot_list_count PySem.F.type_list_count mt_lcountS (pv 13) (pa_cons (pe_ix ix_tup (pe_ix ix_tup (pe_ix ix_tup (pv 2) pe_int (fun _ _ => rfl)) pe_int (fun _ _ => rfl)) (pv 6) (fun _ _ => rfl)) pa_nil)) (pe_ix ix_tup (pv 7) (pv 6) (fun _ _ => rfl)) (nomark _)))))
    (pss_one (ps_set (i := 14) scLShiftRows.nd rfl (by first | exact Or.inl rfl | exact Or.inr rfl) pe_bl))
    pss_nil)))
    (pss_cons (ps_set (i := 15) scLShiftRows.nd rfl (by first | exact Or.inl rfl | exact Or.inr rfl) (pe_callTy call_tuple_of (by rfl) hB.tuple_ (by decide +kernel) (pa_cons (pe_lc (own := [("_law_k", 6)]) rfl scLShiftRows.nd (pi_range1 (by rfl) hB.range_ (pa_cons (pe_callB call_len_seq (by rfl) hB.len_ PySem.boot_len (pa_cons (pv 8) pa_nil)) pa_nil)) (blkOk_by (N := nLShiftRows) (sc := defScope sLShiftRows) (by decide +kernel)) (fun _ _ _ _ _ => (pg_name (i := 6) scLShiftRows.nd rfl (by first | exact Or.inl rfl | exact Or.inr rfl))) (fun _ _ _ _ _ => pts_nil) (fun _ _ _ _ _ => (pe_op op_sub (pe_bm PySem.F.plainAttrs_list PySem.F.slot_list_count PySem.F.type_list_count mt_lcountS (pv 13) (pa_cons (pe_ix ix_tup (pe_ix ix_tup (pv 0) pe_int (fun _ _ => rfl)) (pv 6) (fun _ _ => rfl)) pa_nil)) (pe_ix ix_tup (pv 8) (pv 6) (fun _ _ => rfl))))) pa_nil)))
    (pss_one (ps_if (PW.pt (pw_and (pt_val (pv 14)) (pw_and1 (pt_cmpR (op_notInD (rm hr)) (pv 15) (pv 9) (by rfl)))))
    (pss_one (ps_expr (pe_bm PySem.F.plainAttrs_list PySem.F.slot_list_append PySem.F.type_list_append mt_append (pv 9) (pa_cons (pv 15) pa_nil))))
    pss_nil))))))))))
    (pss_one (ps_ret (pe_callTy call_tuple_of (by rfl) hB.tuple_ (by decide +kernel) (pa_cons (pe_callB (cr_sortedD (rm hr)) (by rfl) hB.sorted_ (by decide +kernel) (pa_cons (pv 9) pa_nil)) pa_nil)))))))))))))
theorem scAreAlike : FnScope nAreAlike ["one", "other"] (defScope sAreAlike) := ⟨rfl, rfl, rfl, by decide +kernel, rfl, by decide +kernel, by decide +kernel⟩
theorem derAreAlike (hB : Blt mg) (hCheckBorders : Kp P w K mg base 1 "check_borders" ["one", "other"] (spCheckBorders K)) (hBehaviour : Kp P w K mg base 4 "behaviour" ["piece"] (spBehaviour K)) {cdv : Value} {f : Addr} {A : Around} {outer : List Env} {s : Shared} {H : Hp} {E : XK} (hr : Room 4 (A.deeper (envOfC "are_alike" (defScope sAreAlike) s.heap.objs.size f cdv))) :
    PSs (cxOf CX0 P w K mg base nAreAlike "are_alike" (defScope sAreAlike) f cdv A outer s H E).nox (defBody sAreAlike) (tAreAlike K) :=
    (pss_cons (ps_expr (pe_kp hCheckBorders hr (by decide) (by rfl) (pa_cons (pv 0) (pa_cons (pv 1) pa_nil))))
    (pss_one (ps_ret (pe_cmpR (op_eqD hr.units) (pe_kp hBehaviour hr (by decide) (by rfl) (pa_cons (pv 0) pa_nil)) (pe_kp hBehaviour hr (by decide) (by rfl) (pa_cons (pv 1) pa_nil)) (nomark _)))))
theorem scNeedlessWay : FnScope nNeedlessWay ["piece"] (defScope sNeedlessWay) := ⟨rfl, rfl, rfl, by decide +kernel, rfl, by decide +kernel, by decide +kernel⟩
theorem derNeedlessWay (hB : Blt mg) (hBehaviour : Kp P w K mg base 4 "behaviour" ["piece"] (spBehaviour K)) (hLiftWay : Kp P w K mg base 1 "lift_way" ["piece", "way"] (spLiftWay K)) {cdv : Value} {f : Addr} {A : Around} {outer : List Env} {s : Shared} {H : Hp} {E : XK} (hr : Room 4 (A.deeper (envOfC "needless_way" (defScope sNeedlessWay) s.heap.objs.size f cdv))) :
    PSs (cxOf CX0 P w K mg base nNeedlessWay "needless_way" (defScope sNeedlessWay) f cdv A outer s H E).nox (defBody sNeedlessWay) (tNeedlessWay K) :=
    (pss_cons (ps_set (i := 1) scNeedlessWay.nd rfl (by first | exact Or.inl rfl | exact Or.inr rfl) (pe_kp hBehaviour hr (by decide) (by rfl) (pa_cons (pv 0) pa_nil)))
    (pss_cons (ps_for PassesOwn.never rfl (pi_tup (pe_ix ix_tup (pe_ix ix_tup (pe_ix ix_tup (pv 0) pe_int (fun _ _ => rfl)) pe_int (fun _ _ => rfl)) pe_int (fun _ _ => rfl))) (pg_tup rfl (pgs_cons (pg_name (i := 2) scNeedlessWay.nd rfl (by first | exact Or.inl rfl | exact Or.inr rfl)) (pgs_cons (pg_name (i := 3) scNeedlessWay.nd rfl (by first | exact Or.inl rfl | exact Or.inr rfl)) (pgs_cons (pg_name (i := 4) scNeedlessWay.nd rfl (by first | exact Or.inl rfl | exact Or.inr rfl)) pgs_nil))))
    (pss_one (ps_if (pt_cmpR (op_eqD hr.units) (pe_kp hBehaviour hr (by decide) (by rfl) (pa_cons (pe_kp hLiftWay hr (by decide) (by rfl) (pa_cons (pv 0) (pa_cons (pv 2) pa_nil))) pa_nil)) (pv 1) (nomark _))
    (pss_one (ps_ret (pv 2)))
    pss_nil)))
    (pss_one (ps_ret pe_non))))
theorem scLWeb : FnScope nLWeb ["_law_store_here", "_law_sizes"] (defScope sLWeb) := ⟨rfl, rfl, rfl, by decide +kernel, rfl, by decide +kernel, by decide +kernel⟩
theorem derLWeb (hB : Blt mg) (hLUpto : Kp P w K mg base 3 "_law_upto" ["_law_store_here", "_law_low", "_law_high"] (spLUpto K)) (hLNewName : Kp P w K mg base 4 "_law_new_name" ["_law_store_here", "_law_taken"] (spLNewName K)) (hLTake : Kp P w K mg base 1 "_law_take" ["_law_store_here", "_law_many"] (spLTake K)) {cdv : Value} {f : Addr} {A : Around} {outer : List Env} {s : Shared} {H : Hp} {E : XK} (hr : Room 4 (A.deeper (envOfC "_law_web" (defScope sLWeb) s.heap.objs.size f cdv))) :
    PSs (cxOf CX0 P w K mg base nLWeb "_law_web" (defScope sLWeb) f cdv A outer s H E).nox (defBody sLWeb) (tLWeb K) :=
    (pss_cons (ps_set (i := 2) scLWeb.nd rfl (by first | exact Or.inl rfl | exact Or.inr rfl) (pe_lst pa_nil))
    (pss_cons (ps_for PassesOwn.never rfl (pi_range1 (by rfl) hB.range_ (pa_cons (pe_kp hLUpto hr (by decide) (by rfl) (pa_cons (pv 0) (pa_cons pe_int (pa_cons (pe_ix ix_tup (pv 1) pe_int (fun _ _ => rfl)) pa_nil)))) pa_nil)) (pg_name (i := 3) scLWeb.nd rfl (by first | exact Or.inl rfl | exact Or.inr rfl))
    (pss_one (ps_expr (pe_bm PySem.F.plainAttrs_list PySem.F.slot_list_append PySem.F.type_list_append mt_append (pv 2) (pa_cons (pe_kp hLNewName hr (by decide) (by rfl) (pa_cons (pv 0) (pa_cons (pv 2) pa_nil))) pa_nil)))))
    (pss_cons (ps_set (i := 2) scLWeb.nd rfl (by first | exact Or.inl rfl | exact Or.inr rfl) (pe_callB (cr_sortedD (rm hr)) (by rfl) hB.sorted_ (by decide +kernel) (pa_cons (pv 2) pa_nil)))
    (pss_cons (ps_set (i := 4) scLWeb.nd rfl (by first | exact Or.inl rfl | exact Or.inr rfl) (pe_kp hLTake hr (by decide) (by rfl) (pa_cons (pv 0) (pa_cons pe_int pa_nil))))
    (pss_cons (ps_set (i := 5) scLWeb.nd rfl (by first | exact Or.inl rfl | exact Or.inr rfl) (pe_lst pa_nil))
    (pss_cons (ps_set (i := 6) scLWeb.nd rfl (by first | exact Or.inl rfl | exact Or.inr rfl) (pe_lst pa_nil))
    (pss_cons (ps_for PassesOwn.never rfl (pi_range1 (by rfl) hB.range_ (pa_cons (pe_kp hLUpto hr (by decide) (by rfl) (pa_cons (pv 0) (pa_cons pe_int (pa_cons (pe_ix ix_tup (pv 1) pe_int (fun _ _ => rfl)) pa_nil)))) pa_nil)) (pg_name (i := 3) scLWeb.nd rfl (by first | exact Or.inl rfl | exact Or.inr rfl))
    (pss_cons (ps_set (i := 7) scLWeb.nd rfl (by first | exact Or.inl rfl | exact Or.inr rfl) (pe_kp hLNewName hr (by decide) (by rfl) (pa_cons (pv 0) (pa_cons (pv 5) pa_nil))))
    (pss_cons (ps_expr (pe_bm PySem.F.plainAttrs_list PySem.F.slot_list_append PySem.F.type_list_append mt_append (pv 5) (pa_cons (pv 7) pa_nil)))
    (pss_cons (ps_set (i := 8) scLWeb.nd rfl (by first | exact Or.inl rfl | exact Or.inr rfl) pe_int)
    (pss_cons (ps_set (i := 9) scLWeb.nd rfl (by first | exact Or.inl rfl | exact Or.inr rfl) pe_int)
    (pss_cons (ps_if (pt_cmpR op_eq (pv 4) pe_int (nomark _))
    (pss_one (ps_set (i := 8) scLWeb.nd rfl (by first | exact Or.inl rfl | exact Or.inr rfl) (pe_op op_modN (pe_callTy call_int1 (by rfl) hB.int_ (by decide +kernel) (pa_cons (pv 3) pa_nil)) (pe_callB call_len_seq (by rfl) hB.len_ PySem.boot_len (pa_cons (pv 2) pa_nil)))))
    pss_nil)
    (pss_cons (ps_if (pt_cmpR op_gt (pv 4) pe_int (nomark _))
    (pss_one (ps_set (i := 8) scLWeb.nd rfl (by first | exact Or.inl rfl | exact Or.inr rfl) (pe_kp hLTake hr (by decide) (by rfl) (pa_cons (pv 0) (pa_cons (pe_callB call_len_seq (by rfl) hB.len_ PySem.boot_len (pa_cons (pv 2) pa_nil)) pa_nil)))))
    pss_nil)
    (pss_cons (ps_if (pt_cmpR op_gt (pv 4) pe_int (nomark _))
    (pss_one (ps_set (i := 9) scLWeb.nd rfl (by first | exact Or.inl rfl | exact Or.inr rfl) (pe_op op_add pe_int (pe_kp hLTake hr (by decide) (by rfl) (pa_cons (pv 0) (pa_cons (pe_op op_sub (pe_callB call_len_seq (by rfl) hB.len_ PySem.boot_len (pa_cons (pv 2) pa_nil)) pe_int) pa_nil))))))
    pss_nil)
    (pss_cons (ps_set (i := 10) scLWeb.nd rfl (by first | exact Or.inl rfl | exact Or.inr rfl) (pe_callB (cr_sortedD (rm hr)) (by rfl) hB.sorted_ (by decide +kernel) (pa_cons (pe_lst (pa_cons (pe_ix ix_list (pv 2) (pv 8) (fun _ _ => rfl)) (pa_cons (pe_ix ix_list (pv 2) (pe_op op_modN (pe_callTy call_int1 (by rfl) hB.int_ (by decide +kernel) (pa_cons (pe_op op_add (pv 8) (pv 9)) pa_nil)) (pe_callB call_len_seq (by rfl) hB.len_ PySem.boot_len (pa_cons (pv 2) pa_nil))) (fun _ _ => rfl)) pa_nil))) pa_nil)))
    (pss_one (ps_expr (pe_bm PySem.F.plainAttrs_list PySem.F.slot_list_append PySem.F.type_list_append mt_append (pv 6) (pa_cons (pe_tup (pa_cons (pv 7) (pa_cons (pe_ix ix_list (pv 10) pe_int (fun _ _ => rfl)) (pa_cons (pe_ix ix_list (pv 10) pe_int (fun _ _ => rfl)) pa_nil)))) pa_nil)))))))))))))
    (pss_one (ps_ret (pe_tup (pa_cons (pe_callTy call_tuple_of (by rfl) hB.tuple_ (by decide +kernel) (pa_cons (pv 2) pa_nil)) (pa_cons (pe_callTy call_tuple_of (by rfl) hB.tuple_ (by decide +kernel) (pa_cons (pe_callB (cr_sortedD (rm hr)) (by rfl) hB.sorted_ (by decide +kernel) (pa_cons (pv 6) pa_nil)) pa_nil)) pa_nil))))))))))))
theorem scLBehaviourRow : FnScope nLBehaviourRow ["_law_piece_here"] (defScope sLBehaviourRow) := ⟨rfl, rfl, rfl, by decide +kernel, rfl, by decide +kernel, by decide +kernel⟩
theorem derLBehaviourRow (hB : Blt mg) (hLShiftRows : Kp P w K mg base 4 "_law_shift_rows" ["_law_piece_here", "_law_lit"] (spLShiftRows K)) {cdv : Value} {f : Addr} {A : Around} {outer : List Env} {s : Shared} {H : Hp} {E : XK} (hr : Room 4 (A.deeper (envOfC "_law_behaviour_row" (defScope sLBehaviourRow) s.heap.objs.size f cdv))) :
    PSs (cxOf CX0 P w K mg base nLBehaviourRow "_law_behaviour_row" (defScope sLBehaviourRow) f cdv A outer s H E).nox (defBody sLBehaviourRow) (tLBehaviourRow K) :=
    (pss_cons (ps_set (i := 1) scLBehaviourRow.nd rfl (by first | exact Or.inl rfl | exact Or.inr rfl) (pe_lst pa_nil))
    (pss_cons (ps_for PassesOwn.never rfl (pi_range1 (by rfl) hB.range_ (pa_cons (pe_ix ix_list (pe_lst (pa_cons pe_int (pa_cons pe_int (pa_cons pe_int pa_nil)))) (pe_op op_sub (pe_callB call_len_seq (by rfl) hB.len_ PySem.boot_len (pa_cons (pe_ix ix_tup (pv 0) pe_int (fun _ _ => rfl)) pa_nil)) pe_int) (fun _ _ => rfl)) pa_nil)) (pg_name (i := 2) scLBehaviourRow.nd rfl (by first | exact Or.inl rfl | exact Or.inr rfl))
    (pss_cons (ps_setLc (i := 3) (own := [("_law_k", 4)]) rfl scLBehaviourRow.nd rfl rfl (sw_true rfl rfl rfl (by decide +kernel)) (pi_range1 (by rfl) hB.range_ (pa_cons (pe_callB call_len_seq (by rfl) hB.len_ PySem.boot_len (pa_cons (pe_ix ix_tup (pv 0) pe_int (fun _ _ => rfl)) pa_nil)) pa_nil)) (blkOk_by (N := nLBehaviourRow) (sc := defScope sLBehaviourRow) (by decide +kernel)) (fun _ _ _ _ _ => (pg_name (i := 4) scLBehaviourRow.nd rfl (by first | exact Or.inl rfl | exact Or.inr rfl))) (fun _ _ _ _ _ => (pts_one (pt_cmpR op_eq (pe_op op_modN (pe_callTy call_int1 (by rfl) hB.int_ (by decide +kernel) (pa_cons (pe_op op_fdivN (pv 2) (pe_ix ix_list (pe_lst (pa_cons pe_int (pa_cons pe_int (pa_cons pe_int pa_nil)))) (pv 4) (fun _ _ => rfl))) pa_nil)) pe_int) pe_int (nomark _)))) (fun _ _ _ _ _ => (pv 4)))
    (pss_one (ps_expr (pe_bm PySem.F.plainAttrs_list PySem.F.slot_list_append PySem.F.type_list_append mt_append (pv 1) (pa_cons (pe_kp hLShiftRows hr (by decide) (by rfl) (pa_cons (pv 0) (pa_cons (pv 3) pa_nil))) pa_nil))))))
    (pss_one (ps_ret (pe_callTy call_tuple_of (by rfl) hB.tuple_ (by decide +kernel) (pa_cons (pv 1) pa_nil))))))
theorem scTrim : FnScope nTrim ["piece"] (defScope sTrim) := ⟨rfl, rfl, rfl, by decide +kernel, rfl, by decide +kernel, by decide +kernel⟩
theorem derTrim (hB : Blt mg) (hNeedlessWay : Kp P w K mg base 5 "needless_way" ["piece"] (spNeedlessWay K)) (hLiftWay : Kp P w K mg base 1 "lift_way" ["piece", "way"] (spLiftWay K)) {cdv : Value} {f : Addr} {A : Around} {outer : List Env} {s : Shared} {H : Hp} {E : XK} (hr : Room 5 (A.deeper (envOfC "trim" (defScope sTrim) s.heap.objs.size f cdv))) :
    PSs (cxOf CX0 P w K mg base nTrim "trim" (defScope sTrim) f cdv A outer s H E).nox (defBody sTrim) (tTrim K) :=
    (pss_cons (ps_set (i := 1) scTrim.nd rfl (by first | exact Or.inl rfl | exact Or.inr rfl) (pv 0))
    (pss_cons (ps_set (i := 2) scTrim.nd rfl (by first | exact Or.inl rfl | exact Or.inr rfl) (pe_kp hNeedlessWay hr (by decide) (by rfl) (pa_cons (pv 1) pa_nil)))
    (pss_cons (ps_while PassesOwn.never (pt_cmpR op_notN (pv 2) pe_non (nomark _))
    (pss_cons (ps_set (i := 1) scTrim.nd rfl (by first | exact Or.inl rfl | exact Or.inr rfl) (pe_kp hLiftWay hr (by decide) (by rfl) (pa_cons (pv 1) (pa_cons (pv 2) pa_nil))))
    (pss_one (ps_set (i := 2) scTrim.nd rfl (by first | exact Or.inl rfl | exact Or.inr rfl) (pe_kp hNeedlessWay hr (by decide) (by rfl) (pa_cons (pv 1) pa_nil))))))
    (pss_one (ps_ret (pv 1))))))
theorem scLPiece : FnScope nLPiece ["_law_store_here", "_law_many", "_law_sizes"] (defScope sLPiece) := ⟨rfl, rfl, rfl, by decide +kernel, rfl, by decide +kernel, by decide +kernel⟩
theorem derLPiece (hB : Blt mg) (hLWeb : Kp P w K mg base 5 "_law_web" ["_law_store_here", "_law_sizes"] (spLWeb K)) (hLNewName : Kp P w K mg base 4 "_law_new_name" ["_law_store_here", "_law_taken"] (spLNewName K)) (hLSome : Kp P w K mg base 2 "_law_some" ["_law_store_here", "_law_row", "_law_many"] (spLSome K)) (hLUpto : Kp P w K mg base 3 "_law_upto" ["_law_store_here", "_law_low", "_law_high"] (spLUpto K)) (hLOne : Kp P w K mg base 2 "_law_one" ["_law_store_here", "_law_row"] (spLOne K)) (hLHeads : Kp P w K mg base 2 "_law_heads" ["_law_store_here", "_law_web_here"] (spLHeads K)) (hLLinks : Kp P w K mg base 2 "_law_links" ["_law_world"] (spLLinks K)) (hLBuild : Kp P w K mg base 1 "_law_build" ["_law_spots", "_law_links_here", "_law_plain_here", "_law_homes"] (spLBuild K)) {cdv : Value} {f : Addr} {A : Around} {outer : List Env} {s : Shared} {H : Hp} {E : XK} (hr : Room 5 (A.deeper (envOfC "_law_piece" (defScope sLPiece) s.heap.objs.size f cdv))) :
    PSs (cxOf CX0 P w K mg base nLPiece "_law_piece" (defScope sLPiece) f cdv A outer s H E).nox (defBody sLPiece) (tLPiece K) :=
    (pss_cons (ps_set (i := 3) scLPiece.nd rfl (by first | exact Or.inl rfl | exact Or.inr rfl) (pe_kp hLWeb hr (by decide) (by rfl) (pa_cons (pv 0) (pa_cons (pe_tup (pa_cons (pe_callB (call_max2 rfl) (by rfl) hB.max_ (by decide +kernel) (pa_cons pe_int (pa_cons (pe_ix ix_tup (pv 2) pe_int (fun _ _ => rfl)) pa_nil))) (pa_cons (pe_callB (call_min2 rfl) (by rfl) hB.min_ (by decide +kernel) (pa_cons pe_int (pa_cons (pe_ix ix_tup (pv 2) pe_int (fun _ _ => rfl)) pa_nil))) pa_nil))) pa_nil))))
    (pss_cons (ps_set (i := 4) scLPiece.nd rfl (by first | exact Or.inl rfl | exact Or.inr rfl) (pe_callTy call_list_of (by rfl) hB.list_ (by decide +kernel) (pa_cons (pe_ix ix_tup (pv 3) pe_int (fun _ _ => rfl)) pa_nil)))
    (pss_cons (ps_for PassesOwn.never rfl (pi_range1 (by rfl) hB.range_ (pa_cons (pe_op op_sub (pv 1) (pe_callB call_len_seq (by rfl) hB.len_ PySem.boot_len (pa_cons (pe_ix ix_tup (pv 3) pe_int (fun _ _ => rfl)) pa_nil))) pa_nil)) (pg_name (i := 5) scLPiece.nd rfl (by first | exact Or.inl rfl | exact Or.inr rfl))
    (pss_one (ps_expr (pe_bm PySem.F.plainAttrs_list PySem.F.slot_list_append PySem.F.type_list_append mt_append (pv 4) (pa_cons (pe_kp hLNewName hr (by decide) (by rfl) (pa_cons (pv 0) (pa_cons (pv 4) pa_nil))) pa_nil)))))
    (pss_cons (ps_set (i := 3) scLPiece.nd rfl (by first | exact Or.inl rfl | exact Or.inr rfl) (pe_tup (pa_cons (pe_callTy call_tuple_of (by rfl) hB.tuple_ (by decide +kernel) (pa_cons (pe_callB (cr_sortedD (rm hr)) (by rfl) hB.sorted_ (by decide +kernel) (pa_cons (pv 4) pa_nil)) pa_nil)) (pa_cons (pe_ix ix_tup (pv 3) pe_int (fun _ _ => rfl)) pa_nil))))
    (pss_cons (ps_set (i := 6) scLPiece.nd rfl (by first | exact Or.inl rfl | exact Or.inr rfl) (pe_kp hLSome hr (by decide) (by rfl) (pa_cons (pv 0) (pa_cons (pe_ix ix_tup (pv 3) pe_int (fun _ _ => rfl)) (pa_cons (pv 1) pa_nil)))))
    (pss_cons (ps_setLc (i := 7) (own := [("_law_spot", 11)]) rfl scLPiece.nd rfl rfl (sw_true rfl rfl rfl (by decide +kernel)) (pi_tup (pe_ix ix_tup (pv 3) pe_int (fun _ _ => rfl))) (blkOk_by (N := nLPiece) (sc := defScope sLPiece) (by decide +kernel)) (fun _ _ _ _ _ => (pg_name (i := 11) scLPiece.nd rfl (by first | exact Or.inl rfl | exact Or.inr rfl))) (fun _ _ _ _ _ => (pts_one (pt_cmpR op_notIn_seq (pv 11) (pv 6) (by rfl)))) (fun _ _ _ _ _ => (pv 11)))
    (pss_cons (ps_set (i := 8) scLPiece.nd rfl (by first | exact Or.inl rfl | exact Or.inr rfl) (pe_lst pa_nil))
    (pss_cons (ps_for PassesOwn.never rfl (pi_range1 (by rfl) hB.range_ (pa_cons (pe_kp hLUpto hr (by decide) (by rfl) (pa_cons (pv 0) (pa_cons pe_int (pa_cons (pe_ix ix_tup (pv 2) pe_int (fun _ _ => rfl)) pa_nil)))) pa_nil)) (pg_name (i := 5) scLPiece.nd rfl (by first | exact Or.inl rfl | exact Or.inr rfl))
    (pss_one (ps_if (pt_cmpR op_gt (pe_callB call_len_seq (by rfl) hB.len_ PySem.boot_len (pa_cons (pv 7) pa_nil)) pe_int (nomark _))
    (pss_one (ps_expr (pe_bm PySem.F.plainAttrs_list PySem.F.slot_list_append PySem.F.type_list_append mt_append (pv 8) (pa_cons (pe_tup (pa_cons (pe_kp hLOne hr (by decide) (by rfl) (pa_cons (pv 0) (pa_cons (pv 7) pa_nil))) (pa_cons pe_int pa_nil))) pa_nil))))
    pss_nil)))
    (pss_cons (ps_set (i := 9) scLPiece.nd rfl (by first | exact Or.inl rfl | exact Or.inr rfl) (pe_kp hLHeads hr (by decide) (by rfl) (pa_cons (pv 0) (pa_cons (pv 3) pa_nil))))
    (pss_cons (ps_set (i := 10) scLPiece.nd rfl (by first | exact Or.inl rfl | exact Or.inr rfl) (pe_kp hLLinks hr (by decide) (by rfl) (pa_cons (pe_tup (pa_cons (pv 3) (pa_cons (pv 9) (pa_cons (pe_tup pa_nil) pa_nil)))) pa_nil)))
    (pss_one (ps_ret (pe_tup (pa_cons (pe_kp hLBuild hr (by decide) (by rfl) (pa_cons (pv 4) (pa_cons (pv 10) (pa_cons (pv 8) (pa_cons (pe_lst pa_nil) pa_nil))))) (pa_cons (pe_callTy call_tuple_of (by rfl) hB.tuple_ (by decide +kernel) (pa_cons (pv 6) pa_nil)) pa_nil)))))))))))))))
theorem scLIdleWay : FnScope nLIdleWay ["_law_piece_here", "_law_row"] (defScope sLIdleWay) := ⟨rfl, rfl, rfl, by decide +kernel, rfl, by decide +kernel, by decide +kernel⟩
theorem derLIdleWay (hB : Blt mg) (hLLifted : Kp P w K mg base 3 "_law_lifted" ["_law_piece_here", "_law_k"] (spLLifted K)) (hLBehaviourRow : Kp P w K mg base 5 "_law_behaviour_row" ["_law_piece_here"] (spLBehaviourRow K)) {cdv : Value} {f : Addr} {A : Around} {outer : List Env} {s : Shared} {H : Hp} {E : XK} (hr : Room 5 (A.deeper (envOfC "_law_idle_way" (defScope sLIdleWay) s.heap.objs.size f cdv))) :
    PSs (cxOf CX0 P w K mg base nLIdleWay "_law_idle_way" (defScope sLIdleWay) f cdv A outer s H E).nox (defBody sLIdleWay) (tLIdleWay K) :=
    (pss_cons (ps_for PassesOwn.never rfl (pi_range1 (by rfl) hB.range_ (pa_cons (pe_callB call_len_seq (by rfl) hB.len_ PySem.boot_len (pa_cons (pe_ix ix_tup (pe_ix ix_tup (pv 0) pe_int (fun _ _ => rfl)) pe_int (fun _ _ => rfl)) pa_nil)) pa_nil)) (pg_name (i := 2) scLIdleWay.nd rfl (by first | exact Or.inl rfl | exact Or.inr rfl))
    (pss_one (ps_if (pt_cmpR (op_eqD hr.units) (pe_kp hLBehaviourRow hr (by decide) (by rfl) (pa_cons (pe_kp hLLifted hr (by decide) (by rfl) (pa_cons (pv 0) (pa_cons (pv 2) pa_nil))) pa_nil)) (pv 1) (nomark _))
    (pss_one (ps_ret (pv 2)))
    pss_nil)))
    (pss_one (ps_ret pe_non)))
theorem scLTrimmed : FnScope nLTrimmed ["_law_piece_here"] (defScope sLTrimmed) := ⟨rfl, rfl, rfl, by decide +kernel, rfl, by decide +kernel, by decide +kernel⟩
theorem derLTrimmed (hB : Blt mg) (hLBehaviourRow : Kp P w K mg base 5 "_law_behaviour_row" ["_law_piece_here"] (spLBehaviourRow K)) (hLIdleWay : Kp P w K mg base 6 "_law_idle_way" ["_law_piece_here", "_law_row"] (spLIdleWay K)) (hLLifted : Kp P w K mg base 3 "_law_lifted" ["_law_piece_here", "_law_k"] (spLLifted K)) {cdv : Value} {f : Addr} {A : Around} {outer : List Env} {s : Shared} {H : Hp} {E : XK} (hr : Room 6 (A.deeper (envOfC "_law_trimmed" (defScope sLTrimmed) s.heap.objs.size f cdv))) :
    PSs (cxOf CX0 P w K mg base nLTrimmed "_law_trimmed" (defScope sLTrimmed) f cdv A outer s H E).nox (defBody sLTrimmed) (tLTrimmed K) :=
    (pss_cons (ps_set (i := 1) scLTrimmed.nd rfl (by first | exact Or.inl rfl | exact Or.inr rfl) (pe_kp hLBehaviourRow hr (by decide) (by rfl) (pa_cons (pv 0) pa_nil)))
    (pss_cons (ps_for PassesOwn.never rfl (pi_range1 (by rfl) hB.range_ (pa_cons pe_int pa_nil)) (pg_name (i := 2) scLTrimmed.nd rfl (by first | exact Or.inl rfl | exact Or.inr rfl))
    (pss_cons (ps_set (i := 3) scLTrimmed.nd rfl (by first | exact Or.inl rfl | exact Or.inr rfl) (pe_kp hLIdleWay hr (by decide) (by rfl) (pa_cons (pv 0) (pa_cons (pv 1) pa_nil))))
    (pss_cons (ps_if (pt_cmpR op_isN (pv 3) pe_non (nomark _))
    (pss_one ps_break)
    pss_nil)
    (pss_one (ps_set (i := 0) scLTrimmed.nd rfl (by first | exact Or.inl rfl | exact Or.inr rfl) (pe_kp hLLifted hr (by decide) (by rfl) (pa_cons (pv 0) (pa_cons (pv 3) pa_nil))))))))
    (pss_one (ps_ret (pv 0)))))
theorem scLaw : FnScope nLaw ["_law_script"] (defScope sLaw) := ⟨rfl, rfl, rfl, by decide +kernel, rfl, by decide +kernel, by decide +kernel⟩
theorem derLaw (hB : Blt mg) (hLStore : Kp P w K mg base 1 "_law_store" ["_law_script"] (spLStore K)) (hLRange : Kp P w K mg base 2 "_law_range" ["_law_store_here", "_law_low", "_law_high"] (spLRange K)) (hLSeldom : Kp P w K mg base 2 "_law_seldom" ["_law_store_here", "_law_many"] (spLSeldom K)) (hLPiece : Kp P w K mg base 6 "_law_piece" ["_law_store_here", "_law_many", "_law_sizes"] (spLPiece K)) (hLTrimmed : Kp P w K mg base 7 "_law_trimmed" ["_law_piece_here"] (spLTrimmed K)) (hTrim : Kp P w K mg base 6 "trim" ["piece"] (spTrim K)) (hLEqual : Kp P w K mg base 1 "_law_equal" ["_law_told", "_law_right"] (spLEqual K)) (hAreAlike : Kp P w K mg base 5 "are_alike" ["one", "other"] (spAreAlike K)) (hLLifted : Kp P w K mg base 3 "_law_lifted" ["_law_piece_here", "_law_k"] (spLLifted K)) (hLiftWay : Kp P w K mg base 1 "lift_way" ["piece", "way"] (spLiftWay K)) (hLTake : Kp P w K mg base 1 "_law_take" ["_law_store_here", "_law_many"] (spLTake K)) (hLBehaviourRow : Kp P w K mg base 5 "_law_behaviour_row" ["_law_piece_here"] (spLBehaviourRow K)) (hLName : Kp P w K mg base 3 "_law_name" ["_law_store_here"] (spLName K)) (hLOne : Kp P w K mg base 2 "_law_one" ["_law_store_here", "_law_row"] (spLOne K)) (hLRefused : Kp P w K mg base 6 "_law_refused" ["_law_piece_here", "_law_way"] (spLRefused K)) {cdv : Value} {f : Addr} {A : Around} {outer : List Env} {s : Shared} {H : Hp} {E : XK} (hr : Room 7 (A.deeper (envOfC "law" (defScope sLaw) s.heap.objs.size f cdv))) :
    PSs (cxOf CX0 P w K mg base nLaw "law" (defScope sLaw) f cdv A outer s H E).nox (defBody sLaw) (tLaw K) :=
    (pss_cons (ps_set (i := 1) scLaw.nd rfl (by first | exact Or.inl rfl | exact Or.inr rfl) (pe_kp hLStore hr (by decide) (by rfl) (pa_cons (pv 0) pa_nil)))
    (pss_cons (ps_set (i := 2) scLaw.nd rfl (by first | exact Or.inl rfl | exact Or.inr rfl) (pe_kp hLRange hr (by decide) (by rfl) (pa_cons (pv 1) (pa_cons pe_int (pa_cons pe_int pa_nil)))))
    (pss_cons (ps_set (i := 3) scLaw.nd rfl (by first | exact Or.inl rfl | exact Or.inr rfl) (pe_tup (pa_cons pe_int (pa_cons (pe_op op_sub pe_int (pv 2)) (pa_cons pe_int pa_nil)))))
    (pss_cons (ps_if (pt_val (pe_kp hLSeldom hr (by decide) (by rfl) (pa_cons (pv 1) (pa_cons pe_int pa_nil))))
    (pss_cons (ps_set (i := 2) scLaw.nd rfl (by first | exact Or.inl rfl | exact Or.inr rfl) pe_int)
    (pss_one (ps_set (i := 3) scLaw.nd rfl (by first | exact Or.inl rfl | exact Or.inr rfl) (pe_tup (pa_cons pe_int (pa_cons pe_int (pa_cons pe_int pa_nil)))))))
    pss_nil)
    (pss_cons (ps_set (i := 4) scLaw.nd rfl (by first | exact Or.inl rfl | exact Or.inr rfl) (pe_kp hLPiece hr (by decide) (by rfl) (pa_cons (pv 1) (pa_cons (pv 2) (pa_cons (pv 3) pa_nil)))))
    (pss_cons (ps_set (i := 5) scLaw.nd rfl (by first | exact Or.inl rfl | exact Or.inr rfl) (pe_kp hLTrimmed hr (by decide) (by rfl) (pa_cons (pv 4) pa_nil)))
    (pss_cons (ps_if (PW.pt (pw_or (pt_not (pt_val (pe_kp hLEqual hr (by decide) (by rfl) (pa_cons (pe_kp hTrim hr (by decide) (by rfl) (pa_cons (pv 4) pa_nil)) (pa_cons (pv 5) pa_nil))))) (pw_or1 (pt_not (pt_val (pe_kp hLEqual hr (by decide) (by rfl) (pa_cons (pe_kp hAreAlike hr (by decide) (by rfl) (pa_cons (pv 5) (pa_cons (pv 4) pa_nil))) (pa_cons pe_bl pa_nil))))))))
    (pss_one (ps_ret pe_bl))
    pss_nil)
    (pss_cons (ps_for PassesOwn.never rfl (pi_range1 (by rfl) hB.range_ (pa_cons (pe_callB call_len_seq (by rfl) hB.len_ PySem.boot_len (pa_cons (pe_ix ix_tup (pe_ix ix_tup (pv 5) pe_int (fun _ _ => rfl)) pe_int (fun _ _ => rfl)) pa_nil)) pa_nil)) (pg_name (i := 6) scLaw.nd rfl (by first | exact Or.inl rfl | exact Or.inr rfl))
    (pss_cons (ps_set (i := 7) scLaw.nd rfl (by first | exact Or.inl rfl | exact Or.inr rfl) (pe_kp hLLifted hr (by decide) (by rfl) (pa_cons (pv 5) (pa_cons (pv 6) pa_nil))))
    (pss_one (ps_if (PW.pt (pw_or (pt_not (pt_val (pe_kp hLEqual hr (by decide) (by rfl) (pa_cons (pe_kp hLiftWay hr (by decide) (by rfl) (pa_cons (pv 5) (pa_cons (pe_ix ix_tup (pe_ix ix_tup (pe_ix ix_tup (pe_ix ix_tup (pe_ix ix_tup (pv 5) pe_int (fun _ _ => rfl)) pe_int (fun _ _ => rfl)) pe_int (fun _ _ => rfl)) (pv 6) (fun _ _ => rfl)) pe_int (fun _ _ => rfl)) pa_nil))) (pa_cons (pv 7) pa_nil))))) (pw_or1 (pt_not (pt_val (pe_kp hLEqual hr (by decide) (by rfl) (pa_cons (pe_kp hAreAlike hr (by decide) (by rfl) (pa_cons (pv 7) (pa_cons (pv 5) pa_nil))) (pa_cons pe_bl pa_nil))))))))
    (pss_one (ps_ret pe_bl))
    pss_nil))))
    (pss_cons (ps_if (pt_cmpR op_gt (pe_callB call_len_seq (by rfl) hB.len_ PySem.boot_len (pa_cons (pe_ix ix_tup (pe_ix ix_tup (pv 4) pe_int (fun _ _ => rfl)) pe_int (fun _ _ => rfl)) pa_nil)) pe_int (nomark _))
    (pss_cons (ps_set (i := 6) scLaw.nd rfl (by first | exact Or.inl rfl | exact Or.inr rfl) (pe_kp hLTake hr (by decide) (by rfl) (pa_cons (pv 1) (pa_cons (pe_callB call_len_seq (by rfl) hB.len_ PySem.boot_len (pa_cons (pe_ix ix_tup (pe_ix ix_tup (pv 4) pe_int (fun _ _ => rfl)) pe_int (fun _ _ => rfl)) pa_nil)) pa_nil))))
    (pss_cons (ps_set (i := 7) scLaw.nd rfl (by first | exact Or.inl rfl | exact Or.inr rfl) (pe_kp hLLifted hr (by decide) (by rfl) (pa_cons (pv 4) (pa_cons (pv 6) pa_nil))))
    (pss_cons (ps_if (pt_not (pt_val (pe_kp hLEqual hr (by decide) (by rfl) (pa_cons (pe_kp hLiftWay hr (by decide) (by rfl) (pa_cons (pv 4) (pa_cons (pe_ix ix_tup (pe_ix ix_tup (pe_ix ix_tup (pe_ix ix_tup (pe_ix ix_tup (pv 4) pe_int (fun _ _ => rfl)) pe_int (fun _ _ => rfl)) pe_int (fun _ _ => rfl)) (pv 6) (fun _ _ => rfl)) pe_int (fun _ _ => rfl)) pa_nil))) (pa_cons (pv 7) pa_nil)))))
    (pss_one (ps_ret pe_bl))
    pss_nil)
    (pss_one (ps_if (pt_not (pt_val (pe_kp hLEqual hr (by decide) (by rfl) (pa_cons (pe_kp hAreAlike hr (by decide) (by rfl) (pa_cons (pv 4) (pa_cons (pv 7) pa_nil))) (pa_cons (pe_cmpR (op_eqD hr.units) (pe_kp hLBehaviourRow hr (by decide) (by rfl) (pa_cons (pv 4) pa_nil)) (pe_kp hLBehaviourRow hr (by decide) (by rfl) (pa_cons (pv 7) pa_nil)) (nomark _)) pa_nil)))))
    (pss_one (ps_ret pe_bl))
    pss_nil)))))
    pss_nil)
    (pss_cons (ps_set (i := 8) scLaw.nd rfl (by first | exact Or.inl rfl | exact Or.inr rfl) (pe_kp hLOne hr (by decide) (by rfl) (pa_cons (pv 1) (pa_cons (pe_lst (pa_cons (pe_kp hLName hr (by decide) (by rfl) (pa_cons (pv 1) pa_nil)) (pa_cons pe_str (pa_cons pe_str (pa_cons (pe_ix ix_tup (pe_ix ix_tup (pv 4) pe_int (fun _ _ => rfl)) pe_int (fun _ _ => rfl)) pa_nil))))) pa_nil))))
    (pss_cons (ps_if (pt_cmpR op_notIn_seq (pv 8) (pe_lc (own := [("_law_row", 9)]) rfl scLaw.nd (pi_tup (pe_ix ix_tup (pe_ix ix_tup (pe_ix ix_tup (pv 4) pe_int (fun _ _ => rfl)) pe_int (fun _ _ => rfl)) pe_int (fun _ _ => rfl))) (blkOk_by (N := nLaw) (sc := defScope sLaw) (by decide +kernel)) (fun _ _ _ _ _ => (pg_name (i := 9) scLaw.nd rfl (by first | exact Or.inl rfl | exact Or.inr rfl))) (fun _ _ _ _ _ => pts_nil) (fun _ _ _ _ _ => (pe_ix ix_tup (pv 9) pe_int (fun _ _ => rfl)))) (by rfl))
    (pss_one (ps_if (pt_not (pt_val (pe_kp hLEqual hr (by decide) (by rfl) (pa_cons (pe_kp hLRefused hr (by decide) (by rfl) (pa_cons (pv 4) (pa_cons (pv 8) pa_nil))) (pa_cons (pe_tup (pa_cons pe_str (pa_cons pe_str (pa_cons (pv 8) pa_nil)))) pa_nil)))))
    (pss_one (ps_ret pe_bl))
    pss_nil))
    pss_nil)
    (pss_one (ps_ret (pe_and (pe_kp hLEqual hr (by decide) (by rfl) (pa_cons (pe_kp hTrim hr (by decide) (by rfl) (pa_cons (pv 5) pa_nil)) (pa_cons (pv 5) pa_nil))) (pe_one (pe_kp hLEqual hr (by decide) (by rfl) (pa_cons (pe_kp hTrim hr (by decide) (by rfl) (pa_cons (pv 4) pa_nil)) (pa_cons (pv 5) pa_nil))))))))))))))))))
end
end Tb
set_option Elab.async false
set_option linter.all false
set_option maxRecDepth 100000
set_option maxHeartbeats 4000000
/-! Each def keeps its promise, printed by gen.py. -/
namespace Tb
open PySem PySem.Spec PyProof.Rows L2
section
variable {P : Program} {w : World} {K : PySem.W.Frag} {mg : Str → Option Value} {base : Heap}
theorem okCheckNumber (hB : Blt mg)  (g : Gd K mg "check_number" "check_number" sCheckNumber) : Kp P w K mg base 1 "check_number" ["number", "low", "high"] (spCheckNumber K) :=
  kp_of g scCheckNumber (fun _ _ _ _ _ _ us hl => match us, hl with | [_, _, _], _ => rfl) (fun vs H Q E h => lenCheckNumber h) fun cdv f A outer s H vs Q E hr h => ⟨tCheckNumber K, derCheckNumber hB  hr, readCheckNumber h⟩
theorem okArrowsReaches (hB : Blt mg)  (g : Gd K mg "arrows_reaches" "arrows" sArrowsReaches) : Kp P w K mg base 1 "arrows_reaches" ["world"] (spArrowsReaches K) :=
  kp_of g scArrowsReaches (fun _ _ _ _ _ _ us hl => match us, hl with | [_], _ => rfl) (fun vs H Q E h => lenArrowsReaches h) fun cdv f A outer s H vs Q E hr h => ⟨tArrowsReaches K, derArrowsReaches hB  hr, readArrowsReaches h⟩
theorem okManyAt (hB : Blt mg)  (g : Gd K mg "many_at" "many_at" sManyAt) : Kp P w K mg base 1 "many_at" ["world"] (spManyAt K) :=
  kp_of g scManyAt (fun _ _ _ _ _ _ us hl => match us, hl with | [_], _ => rfl) (fun vs H Q E h => lenManyAt h) fun cdv f A outer s H vs Q E hr h => ⟨tManyAt K, derManyAt hB  hr, readManyAt h⟩
theorem okArrowsShapes (hB : Blt mg)  (g : Gd K mg "arrows_shapes" "arrows" sArrowsShapes) : Kp P w K mg base 1 "arrows_shapes" ["world"] (spArrowsShapes K) :=
  kp_of g scArrowsShapes (fun _ _ _ _ _ _ us hl => match us, hl with | [_], _ => rfl) (fun vs H Q E h => lenArrowsShapes h) fun cdv f A outer s H vs Q E hr h => ⟨tArrowsShapes K, derArrowsShapes hB  hr, readArrowsShapes h⟩
theorem okWalkerCounts (hB : Blt mg)  (g : Gd K mg "walker_counts" "walker_counts" sWalkerCounts) : Kp P w K mg base 1 "walker_counts" ["world"] (spWalkerCounts K) :=
  kp_of g scWalkerCounts (fun _ _ _ _ _ _ us hl => match us, hl with | [_], _ => rfl) (fun vs H Q E h => lenWalkerCounts h) fun cdv f A outer s H vs Q E hr h => ⟨tWalkerCounts K, derWalkerCounts hB  hr, readWalkerCounts h⟩
theorem okWaysOut (hB : Blt mg)  (g : Gd K mg "ways_out" "ways_out" sWaysOut) : Kp P w K mg base 1 "ways_out" ["web", "heads"] (spWaysOut K) :=
  kp_of g scWaysOut (fun _ _ _ _ _ _ us hl => match us, hl with | [_, _], _ => rfl) (fun vs H Q E h => lenWaysOut h) fun cdv f A outer s H vs Q E hr h => ⟨tWaysOut K, derWaysOut hB  hr, readWaysOut h⟩
theorem okPointings (hB : Blt mg)  (g : Gd K mg "pointings" "pointings" sPointings) : Kp P w K mg base 1 "pointings" ["world", "free"] (spPointings K) :=
  kp_of g scPointings (fun _ _ _ _ _ _ us hl => match us, hl with | [_, _], _ => rfl) (fun vs H Q E h => lenPointings h) fun cdv f A outer s H vs Q E hr h => ⟨tPointings K, derPointings hB  hr, readPointings h⟩
theorem okLitSets (hB : Blt mg)  (g : Gd K mg "lit_sets" "lit_sets" sLitSets) : Kp P w K mg base 1 "lit_sets" ["many"] (spLitSets K) :=
  kp_of g scLitSets (fun _ _ _ _ _ _ us hl => match us, hl with | [_], _ => rfl) (fun vs H Q E h => lenLitSets h) fun cdv f A outer s H vs Q E hr h => ⟨tLitSets K, derLitSets hB  hr, readLitSets h⟩
theorem okCheckBorders (hB : Blt mg)  (g : Gd K mg "check_borders" "check_borders" sCheckBorders) : Kp P w K mg base 1 "check_borders" ["one", "other"] (spCheckBorders K) :=
  kp_of g scCheckBorders (fun _ _ _ _ _ _ us hl => match us, hl with | [_, _], _ => rfl) (fun vs H Q E h => lenCheckBorders h) fun cdv f A outer s H vs Q E hr h => ⟨tCheckBorders K, derCheckBorders hB  hr, readCheckBorders h⟩
theorem okLiftWay (hB : Blt mg)  (g : Gd K mg "lift_way" "lift_way" sLiftWay) : Kp P w K mg base 1 "lift_way" ["piece", "way"] (spLiftWay K) :=
  kp_of g scLiftWay (fun _ _ _ _ _ _ us hl => match us, hl with | [_, _], _ => rfl) (fun vs H Q E h => lenLiftWay h) fun cdv f A outer s H vs Q E hr h => ⟨tLiftWay K, derLiftWay hB  hr, readLiftWay h⟩
theorem okLStore (hB : Blt mg)  (g : Gd K mg "_law_store" "_law_store" sLStore) : Kp P w K mg base 1 "_law_store" ["_law_script"] (spLStore K) :=
  kp_of g scLStore (fun _ _ _ _ _ _ us hl => match us, hl with | [_], _ => rfl) (fun vs H Q E h => lenLStore h) fun cdv f A outer s H vs Q E hr h => ⟨tLStore K, derLStore hB  hr, readLStore h⟩
theorem okLTake (hB : Blt mg)  (g : Gd K mg "_law_take" "_law_take" sLTake) : Kp P w K mg base 1 "_law_take" ["_law_store_here", "_law_many"] (spLTake K) :=
  kp_of g scLTake (fun _ _ _ _ _ _ us hl => match us, hl with | [_, _], _ => rfl) (fun vs H Q E h => lenLTake h) fun cdv f A outer s H vs Q E hr h => ⟨tLTake K, derLTake hB  hr, readLTake h⟩
theorem okLBuild (hB : Blt mg)  (g : Gd K mg "_law_build" "_law_build" sLBuild) : Kp P w K mg base 1 "_law_build" ["_law_spots", "_law_links_here", "_law_plain_here", "_law_homes"] (spLBuild K) :=
  kp_of g scLBuild (fun _ _ _ _ _ _ us hl => match us, hl with | [_, _, _, _], _ => rfl) (fun vs H Q E h => lenLBuild h) fun cdv f A outer s H vs Q E hr h => ⟨tLBuild K, derLBuild hB  hr, readLBuild h⟩
theorem okLTail (hB : Blt mg)  (g : Gd K mg "_law_tail" "_law_tail" sLTail) : Kp P w K mg base 1 "_law_tail" ["_law_world", "_law_k"] (spLTail K) :=
  kp_of g scLTail (fun _ _ _ _ _ _ us hl => match us, hl with | [_, _], _ => rfl) (fun vs H Q E h => lenLTail h) fun cdv f A outer s H vs Q E hr h => ⟨tLTail K, derLTail hB  hr, readLTail h⟩
theorem okLPlain (hB : Blt mg)  (g : Gd K mg "_law_plain" "_law_plain" sLPlain) : Kp P w K mg base 1 "_law_plain" ["_law_world"] (spLPlain K) :=
  kp_of g scLPlain (fun _ _ _ _ _ _ us hl => match us, hl with | [_], _ => rfl) (fun vs H Q E h => lenLPlain h) fun cdv f A outer s H vs Q E hr h => ⟨tLPlain K, derLPlain hB  hr, readLPlain h⟩
theorem okLCounts (hB : Blt mg)  (g : Gd K mg "_law_counts" "_law_counts" sLCounts) : Kp P w K mg base 1 "_law_counts" ["_law_world"] (spLCounts K) :=
  kp_of g scLCounts (fun _ _ _ _ _ _ us hl => match us, hl with | [_], _ => rfl) (fun vs H Q E h => lenLCounts h) fun cdv f A outer s H vs Q E hr h => ⟨tLCounts K, derLCounts hB  hr, readLCounts h⟩
theorem okLEqual (hB : Blt mg)  (g : Gd K mg "_law_equal" "_law_equal" sLEqual) : Kp P w K mg base 1 "_law_equal" ["_law_told", "_law_right"] (spLEqual K) :=
  kp_of g scLEqual (fun _ _ _ _ _ _ us hl => match us, hl with | [_, _], _ => rfl) (fun vs H Q E h => lenLEqual h) fun cdv f A outer s H vs Q E hr h => ⟨tLEqual K, derLEqual hB  hr, readLEqual h⟩
theorem okDues (hB : Blt mg) (hArrowsReaches : Kp P w K mg base 1 "arrows_reaches" ["world"] (spArrowsReaches K)) (hManyAt : Kp P w K mg base 1 "many_at" ["world"] (spManyAt K)) (g : Gd K mg "dues" "dues" sDues) : Kp P w K mg base 2 "dues" ["world"] (spDues K) :=
  kp_of g scDues (fun _ _ _ _ _ _ us hl => match us, hl with | [_], _ => rfl) (fun vs H Q E h => lenDues h) fun cdv f A outer s H vs Q E hr h => ⟨tDues K, derDues hB hArrowsReaches hManyAt hr, readDues h⟩
theorem okCheckLit (hB : Blt mg) (hCheckNumber : Kp P w K mg base 1 "check_number" ["number", "low", "high"] (spCheckNumber K)) (g : Gd K mg "check_lit" "check_lit" sCheckLit) : Kp P w K mg base 2 "check_lit" ["piece", "lit"] (spCheckLit K) :=
  kp_of g scCheckLit (fun _ _ _ _ _ _ us hl => match us, hl with | [_, _], _ => rfl) (fun vs H Q E h => lenCheckLit h) fun cdv f A outer s H vs Q E hr h => ⟨tCheckLit K, derCheckLit hB hCheckNumber hr, readCheckLit h⟩
theorem okLitReach (hB : Blt mg) (hWalkerCounts : Kp P w K mg base 1 "walker_counts" ["world"] (spWalkerCounts K)) (hArrowsShapes : Kp P w K mg base 1 "arrows_shapes" ["world"] (spArrowsShapes K)) (g : Gd K mg "lit_reach" "lit_reach" sLitReach) : Kp P w K mg base 2 "lit_reach" ["piece", "lit"] (spLitReach K) :=
  kp_of g scLitReach (fun _ _ _ _ _ _ us hl => match us, hl with | [_, _], _ => rfl) (fun vs H Q E h => lenLitReach h) fun cdv f A outer s H vs Q E hr h => ⟨tLitReach K, derLitReach hB hWalkerCounts hArrowsShapes hr, readLitReach h⟩
theorem okLRange (hB : Blt mg) (hLTake : Kp P w K mg base 1 "_law_take" ["_law_store_here", "_law_many"] (spLTake K)) (g : Gd K mg "_law_range" "_law_range" sLRange) : Kp P w K mg base 2 "_law_range" ["_law_store_here", "_law_low", "_law_high"] (spLRange K) :=
  kp_of g scLRange (fun _ _ _ _ _ _ us hl => match us, hl with | [_, _, _], _ => rfl) (fun vs H Q E h => lenLRange h) fun cdv f A outer s H vs Q E hr h => ⟨tLRange K, derLRange hB hLTake hr, readLRange h⟩
theorem okLSeldom (hB : Blt mg) (hLTake : Kp P w K mg base 1 "_law_take" ["_law_store_here", "_law_many"] (spLTake K)) (g : Gd K mg "_law_seldom" "_law_seldom" sLSeldom) : Kp P w K mg base 2 "_law_seldom" ["_law_store_here", "_law_many"] (spLSeldom K) :=
  kp_of g scLSeldom (fun _ _ _ _ _ _ us hl => match us, hl with | [_, _], _ => rfl) (fun vs H Q E h => lenLSeldom h) fun cdv f A outer s H vs Q E hr h => ⟨tLSeldom K, derLSeldom hB hLTake hr, readLSeldom h⟩
theorem okLOne (hB : Blt mg) (hLTake : Kp P w K mg base 1 "_law_take" ["_law_store_here", "_law_many"] (spLTake K)) (g : Gd K mg "_law_one" "_law_one" sLOne) : Kp P w K mg base 2 "_law_one" ["_law_store_here", "_law_row"] (spLOne K) :=
  kp_of g scLOne (fun _ _ _ _ _ _ us hl => match us, hl with | [_, _], _ => rfl) (fun vs H Q E h => lenLOne h) fun cdv f A outer s H vs Q E hr h => ⟨tLOne K, derLOne hB hLTake hr, readLOne h⟩
theorem okLSome (hB : Blt mg) (hLTake : Kp P w K mg base 1 "_law_take" ["_law_store_here", "_law_many"] (spLTake K)) (g : Gd K mg "_law_some" "_law_some" sLSome) : Kp P w K mg base 2 "_law_some" ["_law_store_here", "_law_row", "_law_many"] (spLSome K) :=
  kp_of g scLSome (fun _ _ _ _ _ _ us hl => match us, hl with | [_, _, _], _ => rfl) (fun vs H Q E h => lenLSome h) fun cdv f A outer s H vs Q E hr h => ⟨tLSome K, derLSome hB hLTake hr, readLSome h⟩
theorem okLHeads (hB : Blt mg) (hLTake : Kp P w K mg base 1 "_law_take" ["_law_store_here", "_law_many"] (spLTake K)) (g : Gd K mg "_law_heads" "_law_heads" sLHeads) : Kp P w K mg base 2 "_law_heads" ["_law_store_here", "_law_web_here"] (spLHeads K) :=
  kp_of g scLHeads (fun _ _ _ _ _ _ us hl => match us, hl with | [_, _], _ => rfl) (fun vs H Q E h => lenLHeads h) fun cdv f A outer s H vs Q E hr h => ⟨tLHeads K, derLHeads hB hLTake hr, readLHeads h⟩
theorem okLLinks (hB : Blt mg) (hLTail : Kp P w K mg base 1 "_law_tail" ["_law_world", "_law_k"] (spLTail K)) (g : Gd K mg "_law_links" "_law_links" sLLinks) : Kp P w K mg base 2 "_law_links" ["_law_world"] (spLLinks K) :=
  kp_of g scLLinks (fun _ _ _ _ _ _ us hl => match us, hl with | [_], _ => rfl) (fun vs H Q E h => lenLLinks h) fun cdv f A outer s H vs Q E hr h => ⟨tLLinks K, derLLinks hB hLTail hr, readLLinks h⟩
theorem okLDueRow (hB : Blt mg) (hLCounts : Kp P w K mg base 1 "_law_counts" ["_law_world"] (spLCounts K)) (hLTail : Kp P w K mg base 1 "_law_tail" ["_law_world", "_law_k"] (spLTail K)) (g : Gd K mg "_law_due_row" "_law_due_row" sLDueRow) : Kp P w K mg base 2 "_law_due_row" ["_law_world"] (spLDueRow K) :=
  kp_of g scLDueRow (fun _ _ _ _ _ _ us hl => match us, hl with | [_], _ => rfl) (fun vs H Q E h => lenLDueRow h) fun cdv f A outer s H vs Q E hr h => ⟨tLDueRow K, derLDueRow hB hLCounts hLTail hr, readLDueRow h⟩
theorem okLCome (hB : Blt mg) (hLTail : Kp P w K mg base 1 "_law_tail" ["_law_world", "_law_k"] (spLTail K)) (g : Gd K mg "_law_come" "_law_come" sLCome) : Kp P w K mg base 2 "_law_come" ["_law_world", "_law_origins"] (spLCome K) :=
  kp_of g scLCome (fun _ _ _ _ _ _ us hl => match us, hl with | [_, _], _ => rfl) (fun vs H Q E h => lenLCome h) fun cdv f A outer s H vs Q E hr h => ⟨tLCome K, derLCome hB hLTail hr, readLCome h⟩
theorem okShifts (hB : Blt mg) (hCheckLit : Kp P w K mg base 2 "check_lit" ["piece", "lit"] (spCheckLit K)) (hLitReach : Kp P w K mg base 2 "lit_reach" ["piece", "lit"] (spLitReach K)) (hDues : Kp P w K mg base 2 "dues" ["world"] (spDues K)) (hWaysOut : Kp P w K mg base 1 "ways_out" ["web", "heads"] (spWaysOut K)) (hPointings : Kp P w K mg base 1 "pointings" ["world", "free"] (spPointings K)) (g : Gd K mg "shifts" "shifts" sShifts) : Kp P w K mg base 3 "shifts" ["piece", "lit"] (spShifts K) :=
  kp_of g scShifts (fun _ _ _ _ _ _ us hl => match us, hl with | [_, _], _ => rfl) (fun vs H Q E h => lenShifts h) fun cdv f A outer s H vs Q E hr h => ⟨tShifts P w K, derShifts hB hCheckLit hLitReach hDues hWaysOut hPointings hr, readShifts h⟩
theorem okLUpto (hB : Blt mg) (hLTake : Kp P w K mg base 1 "_law_take" ["_law_store_here", "_law_many"] (spLTake K)) (hLRange : Kp P w K mg base 2 "_law_range" ["_law_store_here", "_law_low", "_law_high"] (spLRange K)) (g : Gd K mg "_law_upto" "_law_upto" sLUpto) : Kp P w K mg base 3 "_law_upto" ["_law_store_here", "_law_low", "_law_high"] (spLUpto K) :=
  kp_of g scLUpto (fun _ _ _ _ _ _ us hl => match us, hl with | [_, _, _], _ => rfl) (fun vs H Q E h => lenLUpto h) fun cdv f A outer s H vs Q E hr h => ⟨tLUpto K, derLUpto hB hLTake hLRange hr, readLUpto h⟩
theorem okLName (hB : Blt mg) (hLTake : Kp P w K mg base 1 "_law_take" ["_law_store_here", "_law_many"] (spLTake K)) (hLOne : Kp P w K mg base 2 "_law_one" ["_law_store_here", "_law_row"] (spLOne K)) (hLRange : Kp P w K mg base 2 "_law_range" ["_law_store_here", "_law_low", "_law_high"] (spLRange K)) (g : Gd K mg "_law_name" "_law_name" sLName) : Kp P w K mg base 3 "_law_name" ["_law_store_here"] (spLName K) :=
  kp_of g scLName (fun _ _ _ _ _ _ us hl => match us, hl with | [_], _ => rfl) (fun vs H Q E h => lenLName h) fun cdv f A outer s H vs Q E hr h => ⟨tLName K, derLName hB hLTake hLOne hLRange hr, readLName h⟩
theorem okLLoadRow (hB : Blt mg) (hLLinks : Kp P w K mg base 2 "_law_links" ["_law_world"] (spLLinks K)) (g : Gd K mg "_law_load_row" "_law_load_row" sLLoadRow) : Kp P w K mg base 3 "_law_load_row" ["_law_piece_here"] (spLLoadRow K) :=
  kp_of g scLLoadRow (fun _ _ _ _ _ _ us hl => match us, hl with | [_], _ => rfl) (fun vs H Q E h => lenLLoadRow h) fun cdv f A outer s H vs Q E hr h => ⟨tLLoadRow K, derLLoadRow hB hLLinks hr, readLLoadRow h⟩
theorem okLFlooded (hB : Blt mg) (hLCounts : Kp P w K mg base 1 "_law_counts" ["_law_world"] (spLCounts K)) (hLCome : Kp P w K mg base 2 "_law_come" ["_law_world", "_law_origins"] (spLCome K)) (g : Gd K mg "_law_flooded" "_law_flooded" sLFlooded) : Kp P w K mg base 3 "_law_flooded" ["_law_piece_here", "_law_lit"] (spLFlooded K) :=
  kp_of g scLFlooded (fun _ _ _ _ _ _ us hl => match us, hl with | [_, _], _ => rfl) (fun vs H Q E h => lenLFlooded h) fun cdv f A outer s H vs Q E hr h => ⟨tLFlooded K, derLFlooded hB hLCounts hLCome hr, readLFlooded h⟩
theorem okLLifted (hB : Blt mg) (hLLinks : Kp P w K mg base 2 "_law_links" ["_law_world"] (spLLinks K)) (hLPlain : Kp P w K mg base 1 "_law_plain" ["_law_world"] (spLPlain K)) (hLBuild : Kp P w K mg base 1 "_law_build" ["_law_spots", "_law_links_here", "_law_plain_here", "_law_homes"] (spLBuild K)) (g : Gd K mg "_law_lifted" "_law_lifted" sLLifted) : Kp P w K mg base 3 "_law_lifted" ["_law_piece_here", "_law_k"] (spLLifted K) :=
  kp_of g scLLifted (fun _ _ _ _ _ _ us hl => match us, hl with | [_, _], _ => rfl) (fun vs H Q E h => lenLLifted h) fun cdv f A outer s H vs Q E hr h => ⟨tLLifted K, derLLifted hB hLLinks hLPlain hLBuild hr, readLLifted h⟩
theorem okBehaviour (hB : Blt mg) (hLitSets : Kp P w K mg base 1 "lit_sets" ["many"] (spLitSets K)) (hShifts : Kp P w K mg base 3 "shifts" ["piece", "lit"] (spShifts K)) (g : Gd K mg "behaviour" "behaviour" sBehaviour) : Kp P w K mg base 4 "behaviour" ["piece"] (spBehaviour K) :=
  kp_of g scBehaviour (fun _ _ _ _ _ _ us hl => match us, hl with | [_], _ => rfl) (fun vs H Q E h => lenBehaviour h) fun cdv f A outer s H vs Q E hr h => ⟨tBehaviour K, derBehaviour hB hLitSets hShifts hr, readBehaviour h⟩
theorem okLNewName (hB : Blt mg) (hLName : Kp P w K mg base 3 "_law_name" ["_law_store_here"] (spLName K)) (g : Gd K mg "_law_new_name" "_law_new_name" sLNewName) : Kp P w K mg base 4 "_law_new_name" ["_law_store_here", "_law_taken"] (spLNewName K) :=
  kp_of g scLNewName (fun _ _ _ _ _ _ us hl => match us, hl with | [_, _], _ => rfl) (fun vs H Q E h => lenLNewName h) fun cdv f A outer s H vs Q E hr h => ⟨tLNewName K, derLNewName hB hLName hr, readLNewName h⟩
theorem okLShiftRows (hB : Blt mg) (hLFlooded : Kp P w K mg base 3 "_law_flooded" ["_law_piece_here", "_law_lit"] (spLFlooded K)) (hLDueRow : Kp P w K mg base 2 "_law_due_row" ["_law_world"] (spLDueRow K)) (hLLoadRow : Kp P w K mg base 3 "_law_load_row" ["_law_piece_here"] (spLLoadRow K)) (hLLinks : Kp P w K mg base 2 "_law_links" ["_law_world"] (spLLinks K)) (g : Gd K mg "_law_shift_rows" "_law_shift_rows" sLShiftRows) : Kp P w K mg base 4 "_law_shift_rows" ["_law_piece_here", "_law_lit"] (spLShiftRows K) :=
  kp_of g scLShiftRows (fun _ _ _ _ _ _ us hl => match us, hl with | [_, _], _ => rfl) (fun vs H Q E h => lenLShiftRows h) fun cdv f A outer s H vs Q E hr h => ⟨tLShiftRows K, derLShiftRows hB hLFlooded hLDueRow hLLoadRow hLLinks hr, readLShiftRows h⟩
theorem okAreAlike (hB : Blt mg) (hCheckBorders : Kp P w K mg base 1 "check_borders" ["one", "other"] (spCheckBorders K)) (hBehaviour : Kp P w K mg base 4 "behaviour" ["piece"] (spBehaviour K)) (g : Gd K mg "are_alike" "are_alike" sAreAlike) : Kp P w K mg base 5 "are_alike" ["one", "other"] (spAreAlike K) :=
  kp_of g scAreAlike (fun _ _ _ _ _ _ us hl => match us, hl with | [_, _], _ => rfl) (fun vs H Q E h => lenAreAlike h) fun cdv f A outer s H vs Q E hr h => ⟨tAreAlike K, derAreAlike hB hCheckBorders hBehaviour hr, readAreAlike h⟩
theorem okNeedlessWay (hB : Blt mg) (hBehaviour : Kp P w K mg base 4 "behaviour" ["piece"] (spBehaviour K)) (hLiftWay : Kp P w K mg base 1 "lift_way" ["piece", "way"] (spLiftWay K)) (g : Gd K mg "needless_way" "needless_way" sNeedlessWay) : Kp P w K mg base 5 "needless_way" ["piece"] (spNeedlessWay K) :=
  kp_of g scNeedlessWay (fun _ _ _ _ _ _ us hl => match us, hl with | [_], _ => rfl) (fun vs H Q E h => lenNeedlessWay h) fun cdv f A outer s H vs Q E hr h => ⟨tNeedlessWay K, derNeedlessWay hB hBehaviour hLiftWay hr, readNeedlessWay h⟩
theorem okLWeb (hB : Blt mg) (hLUpto : Kp P w K mg base 3 "_law_upto" ["_law_store_here", "_law_low", "_law_high"] (spLUpto K)) (hLNewName : Kp P w K mg base 4 "_law_new_name" ["_law_store_here", "_law_taken"] (spLNewName K)) (hLTake : Kp P w K mg base 1 "_law_take" ["_law_store_here", "_law_many"] (spLTake K)) (g : Gd K mg "_law_web" "_law_web" sLWeb) : Kp P w K mg base 5 "_law_web" ["_law_store_here", "_law_sizes"] (spLWeb K) :=
  kp_of g scLWeb (fun _ _ _ _ _ _ us hl => match us, hl with | [_, _], _ => rfl) (fun vs H Q E h => lenLWeb h) fun cdv f A outer s H vs Q E hr h => ⟨tLWeb K, derLWeb hB hLUpto hLNewName hLTake hr, readLWeb h⟩
theorem okLBehaviourRow (hB : Blt mg) (hLShiftRows : Kp P w K mg base 4 "_law_shift_rows" ["_law_piece_here", "_law_lit"] (spLShiftRows K)) (g : Gd K mg "_law_behaviour_row" "_law_behaviour_row" sLBehaviourRow) : Kp P w K mg base 5 "_law_behaviour_row" ["_law_piece_here"] (spLBehaviourRow K) :=
  kp_of g scLBehaviourRow (fun _ _ _ _ _ _ us hl => match us, hl with | [_], _ => rfl) (fun vs H Q E h => lenLBehaviourRow h) fun cdv f A outer s H vs Q E hr h => ⟨tLBehaviourRow K, derLBehaviourRow hB hLShiftRows hr, readLBehaviourRow h⟩
theorem okTrim (hB : Blt mg) (hNeedlessWay : Kp P w K mg base 5 "needless_way" ["piece"] (spNeedlessWay K)) (hLiftWay : Kp P w K mg base 1 "lift_way" ["piece", "way"] (spLiftWay K)) (g : Gd K mg "trim" "trim" sTrim) : Kp P w K mg base 6 "trim" ["piece"] (spTrim K) :=
  kp_of g scTrim (fun _ _ _ _ _ _ us hl => match us, hl with | [_], _ => rfl) (fun vs H Q E h => lenTrim h) fun cdv f A outer s H vs Q E hr h => ⟨tTrim K, derTrim hB hNeedlessWay hLiftWay hr, readTrim h⟩
theorem okLPiece (hB : Blt mg) (hLWeb : Kp P w K mg base 5 "_law_web" ["_law_store_here", "_law_sizes"] (spLWeb K)) (hLNewName : Kp P w K mg base 4 "_law_new_name" ["_law_store_here", "_law_taken"] (spLNewName K)) (hLSome : Kp P w K mg base 2 "_law_some" ["_law_store_here", "_law_row", "_law_many"] (spLSome K)) (hLUpto : Kp P w K mg base 3 "_law_upto" ["_law_store_here", "_law_low", "_law_high"] (spLUpto K)) (hLOne : Kp P w K mg base 2 "_law_one" ["_law_store_here", "_law_row"] (spLOne K)) (hLHeads : Kp P w K mg base 2 "_law_heads" ["_law_store_here", "_law_web_here"] (spLHeads K)) (hLLinks : Kp P w K mg base 2 "_law_links" ["_law_world"] (spLLinks K)) (hLBuild : Kp P w K mg base 1 "_law_build" ["_law_spots", "_law_links_here", "_law_plain_here", "_law_homes"] (spLBuild K)) (g : Gd K mg "_law_piece" "_law_piece" sLPiece) : Kp P w K mg base 6 "_law_piece" ["_law_store_here", "_law_many", "_law_sizes"] (spLPiece K) :=
  kp_of g scLPiece (fun _ _ _ _ _ _ us hl => match us, hl with | [_, _, _], _ => rfl) (fun vs H Q E h => lenLPiece h) fun cdv f A outer s H vs Q E hr h => ⟨tLPiece K, derLPiece hB hLWeb hLNewName hLSome hLUpto hLOne hLHeads hLLinks hLBuild hr, readLPiece h⟩
theorem okLIdleWay (hB : Blt mg) (hLLifted : Kp P w K mg base 3 "_law_lifted" ["_law_piece_here", "_law_k"] (spLLifted K)) (hLBehaviourRow : Kp P w K mg base 5 "_law_behaviour_row" ["_law_piece_here"] (spLBehaviourRow K)) (g : Gd K mg "_law_idle_way" "_law_idle_way" sLIdleWay) : Kp P w K mg base 6 "_law_idle_way" ["_law_piece_here", "_law_row"] (spLIdleWay K) :=
  kp_of g scLIdleWay (fun _ _ _ _ _ _ us hl => match us, hl with | [_, _], _ => rfl) (fun vs H Q E h => lenLIdleWay h) fun cdv f A outer s H vs Q E hr h => ⟨tLIdleWay K, derLIdleWay hB hLLifted hLBehaviourRow hr, readLIdleWay h⟩
theorem okLTrimmed (hB : Blt mg) (hLBehaviourRow : Kp P w K mg base 5 "_law_behaviour_row" ["_law_piece_here"] (spLBehaviourRow K)) (hLIdleWay : Kp P w K mg base 6 "_law_idle_way" ["_law_piece_here", "_law_row"] (spLIdleWay K)) (hLLifted : Kp P w K mg base 3 "_law_lifted" ["_law_piece_here", "_law_k"] (spLLifted K)) (g : Gd K mg "_law_trimmed" "_law_trimmed" sLTrimmed) : Kp P w K mg base 7 "_law_trimmed" ["_law_piece_here"] (spLTrimmed K) :=
  kp_of g scLTrimmed (fun _ _ _ _ _ _ us hl => match us, hl with | [_], _ => rfl) (fun vs H Q E h => lenLTrimmed h) fun cdv f A outer s H vs Q E hr h => ⟨tLTrimmed K, derLTrimmed hB hLBehaviourRow hLIdleWay hLLifted hr, readLTrimmed h⟩
theorem okLaw (hB : Blt mg) (hLStore : Kp P w K mg base 1 "_law_store" ["_law_script"] (spLStore K)) (hLRange : Kp P w K mg base 2 "_law_range" ["_law_store_here", "_law_low", "_law_high"] (spLRange K)) (hLSeldom : Kp P w K mg base 2 "_law_seldom" ["_law_store_here", "_law_many"] (spLSeldom K)) (hLPiece : Kp P w K mg base 6 "_law_piece" ["_law_store_here", "_law_many", "_law_sizes"] (spLPiece K)) (hLTrimmed : Kp P w K mg base 7 "_law_trimmed" ["_law_piece_here"] (spLTrimmed K)) (hTrim : Kp P w K mg base 6 "trim" ["piece"] (spTrim K)) (hLEqual : Kp P w K mg base 1 "_law_equal" ["_law_told", "_law_right"] (spLEqual K)) (hAreAlike : Kp P w K mg base 5 "are_alike" ["one", "other"] (spAreAlike K)) (hLLifted : Kp P w K mg base 3 "_law_lifted" ["_law_piece_here", "_law_k"] (spLLifted K)) (hLiftWay : Kp P w K mg base 1 "lift_way" ["piece", "way"] (spLiftWay K)) (hLTake : Kp P w K mg base 1 "_law_take" ["_law_store_here", "_law_many"] (spLTake K)) (hLBehaviourRow : Kp P w K mg base 5 "_law_behaviour_row" ["_law_piece_here"] (spLBehaviourRow K)) (hLName : Kp P w K mg base 3 "_law_name" ["_law_store_here"] (spLName K)) (hLOne : Kp P w K mg base 2 "_law_one" ["_law_store_here", "_law_row"] (spLOne K)) (hLRefused : Kp P w K mg base 6 "_law_refused" ["_law_piece_here", "_law_way"] (spLRefused K)) (g : Gd K mg "law" "law" sLaw) : Kp P w K mg base 8 "law" ["_law_script"] (spLaw K) :=
  kp_of g scLaw (fun _ _ _ _ _ _ us hl => match us, hl with | [_], _ => rfl) (fun vs H Q E h => lenLaw h) fun cdv f A outer s H vs Q E hr h => ⟨tLaw K, derLaw hB hLStore hLRange hLSeldom hLPiece hLTrimmed hTrim hLEqual hAreAlike hLLifted hLiftWay hLTake hLBehaviourRow hLName hLOne hLRefused hr, readLaw h⟩
end
end Tb
set_option Elab.async false
set_option linter.all false
set_option maxRecDepth 100000
set_option maxHeartbeats 4000000
/-! The refusal: an exception with fields, raised, caught, told. -/
namespace Tb
open PySem PySem.Spec PyProof.Rows L2 Evl
def clsB : Stmt → List Stmt
  | .ClassDef (body := b) .. => b
  | _ => []
abbrev sUInit : Stmt := (clsB (top 6)).getD 0 (.Pass ⟨0, 0, 0, 0⟩)
abbrev nUInit : List Str := ["self", "what", "name"]
/-- the names of the exception classes -/
abbrev excNs : List Str := ["TurnError", "BadName", "BadNumber", "BadSize", "Repeated", "Unknown", "BadEnd", "NoWalker", "Occupied", "Unlike", "Named", "TooLarge", "NoDeed", "BadText", "NoRun", "NothingLeft", "BadClaim", "BadRow"]
/-- what the written part says of Unknown (at U), TurnError (at TE), Unknown.__init__ (at fI) -/
structure XF (K : PySem.W.Frag) (mg : Str → Option Value) (U TE fI : Addr) : Prop where
  gU : mg "Unknown" = some (.ref U)
  gT : mg "TurnError" = some (.ref TE)
  oex : OexC K U
  xfc : XfC K U
  exc : ExcC K U
  noW : PySem.W.findIn K (.ref U) "what" = some none
  noN : PySem.W.findIn K (.ref U) "name" = some none
  iC : PySem.W.findIn K (.ref U) "__init__" = some (some (.ref fI))
  tI : PySem.W.typeIn K (.ref fI) = some (.type "function")
  fd : ∃ fd, FunD K "__init__" "Unknown.__init__" (defArgs sUInit) (defBody sUInit) (defScope sUInit) [] [] fI fd
  exm : PySem.W.exmOne K (.ref U) (.ref TE) = some true
  is_ : ∀ n ∈ excNs, ∃ C, mg n = some (.ref C) ∧ PySem.W.kitOne K (.ref U) (.ref C) = some (decide (n = "Unknown" ∨ n = "TurnError"))
  isV : PySem.W.kitOne K (.ref U) (.type "ValueError") = some true
  vE : mg "ValueError" = none
/-! ### Unknown.__init__ -/
def tUInit (K : PySem.W.Frag) : TS := tSeq (tOst K "what" (tVar 0) (tVar 1)) (tOst K "name" (tVar 0) (tVar 2))
def spUInit (K : PySem.W.Frag) (U : Addr) : Sp := fun vs H Q _ => ∃ (a : Addr) (y z : V), vs = [.ref a, y, z] ∧ OexC K U ∧ PySem.W.findIn K (.ref U) "what" = some none ∧ PySem.W.findIn K (.ref U) "name" = some none ∧ H a = some (exo a U none) ∧
  ∀ dx H', H dx = none → dx ≠ a → (∀ b o, b ≠ a → H b = some o → H' b = some o) → H' a = some (exo a U (some dx)) → H' dx = some (exd dx [("name", z), ("what", y)]) → Q .non H'
section
variable {P : Program} {w : World} {K : PySem.W.Frag} {mg : Str → Option Value} {base : Heap}
theorem scUInit : FnScope nUInit ["self", "what", "name"] (defScope sUInit) := ⟨rfl, rfl, rfl, by decide +kernel, rfl, by decide +kernel, by decide +kernel⟩
theorem okUInit {U fI : Addr} {fd : FuncData} (F : FunD K "__init__" "Unknown.__init__" (defArgs sUInit) (defBody sUInit) (defScope sUInit) [] [] fI fd) : FnOk P w K mg base CX0 1 fI fd ["self", "what", "name"] (spUInit K U) := by
  refine F.ok scUInit (fun vs H Q E h => ?_) fun cdv A outer s H vs Q E hr h => ⟨tUInit K, PSs.nox (pss_cons (ps_ost (pv 0) (pv 1)) (pss_one (ps_ost (pv 0) (pv 2)))), ?_⟩
  · obtain ⟨_, _, _, rfl, _⟩ := h
    rfl
  obtain ⟨a, y, z, rfl, T, nW, nN, ha, q⟩ := h
  show tSeq _ _ _ [some (.ref a), some y, some z] H
  refine ⟨y, rfl, .ref a, rfl, a, U, rfl, T, nW, .inl ⟨ha, fun dx hx ne => ?_⟩⟩
  have hd : upd (upd H dx (exd dx [("what", y)])) a (exo a U (some dx)) dx = some (exd dx [("what", y)]) := by rw [upd_ne ne, upd_same]
  refine ⟨z, rfl, .ref a, rfl, a, U, rfl, T, nN, .inr ⟨dx, _, upd_same, hd, by simp, q dx _ hx ne (fun b o hb ho => ?_) ?_ upd_same⟩⟩
  · have hbx : b ≠ dx := fun e => by
      rw [e, hx] at ho
      cases ho
    rw [upd_ne hbx, upd_ne hb, upd_ne hbx]
    exact ho
  · rw [upd_ne ne.symm, upd_same]
/-! ### lift_way, refusing -/
def tLiftWayX (K : PySem.W.Frag) (U : Addr) (E : XK) : TS :=
    (tSeq (tAsg (tVar 0) (gTup K 2 (gCons (gTup K 3 (gCons (gTup K 2 (gCons (gName 2) (gCons (gName 3) gNil))) (gCons (gName 4) (gCons (gName 5) gNil)))) (gCons (gName 6) gNil))))
    (tSeq (tIfS (tTest (tOp (rIn K true) (tVar 1) (tLc (iTup K (tVar 3)) (gName 9) tYes (tOp (rIxT K) (tVar 9) (tC (.int 0))) [9])))
    (fun _ σ H => tMkO U (spUInit K U) [] (tCons (tC (.str "way")) (tCons (tVar 1) tNil)) σ H fun cls d H' => E cls d H')
    tNext)
    (tSeq (tAsg (tLc (RZ.iZipA K (tCons (tVar 3) (tCons (tVar 4) tNil))) (gTup K 2 (gCons (gName 9) (gCons (gName 10) gNil))) (tTest (tOp rNe (tOp (rIxT K) (tVar 9) (tC (.int 0))) (tVar 1))) (tTup (tCons (tVar 9) (tCons (tVar 10) tNil))) [9, 10]) (gName 7))
    (tSeq (tAsg (tTup (tCons (tVar 2) (tCons (tCB (rTupOf K) (tCons (tLc (iList K (tVar 7)) (gTup K 2 (gCons (gName 9) (gCons (gName 10) gNil))) tYes (tVar 9) [9, 10]) tNil)) tNil))) (gName 8))
    (tRet (tTup (tCons (tTup (tCons (tVar 8) (tCons (tCB (rTupOf K) (tCons (tLc (iList K (tVar 7)) (gTup K 2 (gCons (gName 9) (gCons (gName 10) gNil))) tYes (tVar 10) [9, 10]) tNil)) (tCons (tVar 5) tNil)))) (tCons (tVar 6) tNil))))))))
def spLiftWayX (K : PySem.W.Frag) (U : Addr) : Sp := fun vs H Q E => ∃ (p : Pc) (x : Nm), DpAll K H vs [pieceD p, .str x] ∧ x ∉ p.w.ways.map (·.1) ∧ p.w.ways.length ≤ 6 ∧ ∀ d H', Ex H H' → H' d = some (.xd [("name", .str x), ("what", .str "way")]) → E (.ref U) (some d) H'
theorem derLiftWayX (hB : Blt mg) {U TE fI : Addr} (x : XF K mg U TE fI) (FI : FnOk P w K mg base CX0 1 fI x.fd.choose ["self", "what", "name"] (spUInit K U)) {cdv : Value} {f : Addr} {A : Around} {outer : List Env} {s : Shared} {H : Hp} {E : XK} (hr : Room 2 (A.deeper (envOfC "lift_way" (defScope sLiftWay) s.heap.objs.size f cdv))) :
    PSs (cxOf (CX P w) P w K mg base nLiftWay "lift_way" (defScope sLiftWay) f cdv A outer s H E) (defBody sLiftWay) (tLiftWayX K U E) :=
    (pss_cons (ps_asg (pv 0) (pg_tup rfl (pgs_cons (pg_tup rfl (pgs_cons (pg_tup rfl (pgs_cons (pg_name (i := 2) scLiftWay.nd rfl (by first | exact Or.inl rfl | exact Or.inr rfl)) (pgs_cons (pg_name (i := 3) scLiftWay.nd rfl (by first | exact Or.inl rfl | exact Or.inr rfl)) pgs_nil))) (pgs_cons (pg_name (i := 4) scLiftWay.nd rfl (by first | exact Or.inl rfl | exact Or.inr rfl)) (pgs_cons (pg_name (i := 5) scLiftWay.nd rfl (by first | exact Or.inl rfl | exact Or.inr rfl)) pgs_nil)))) (pgs_cons (pg_name (i := 6) scLiftWay.nd rfl (by first | exact Or.inl rfl | exact Or.inr rfl)) pgs_nil))))
    (pss_cons (ps_if (pt_cmpR op_notIn_seq (pv 1) (pe_lc (own := [("row", 9)]) rfl scLiftWay.nd (pi_tup (pv 3)) (blkOk_by (N := nLiftWay) (sc := defScope sLiftWay) (by decide +kernel)) (fun _ _ _ _ _ => (pg_name (i := 9) scLiftWay.nd rfl (by first | exact Or.inl rfl | exact Or.inr rfl))) (fun _ _ _ _ _ => pts_nil) (fun _ _ _ _ _ => (pe_ix ix_tup (pv 9) pe_int (fun _ _ => rfl)))) (by rfl))
    (pss_one (ps_raise rfl (takes_of rfl rfl rfl rfl) (pmk_oex x.oex x.iC x.tI FI hr (FunD.bindsN x.fd.choose_spec (fun _ _ _ _ _ _ us hl => match us, hl with | [_, _, _], _ => rfl)) .nil pass0 (by rfl) x.gU (pa_cons pe_str (pa_cons (pv 1) pa_nil)))))
    pss_nil)
    (pss_cons (ps_setLc (i := 7) (own := [("row", 9), ("head", 10)]) rfl scLiftWay.nd rfl rfl (sw_true rfl rfl rfl (by decide +kernel)) (RZ.pi_zipA (by rfl) hB.zip_ (pa_cons (pv 3) (pa_cons (pv 4) pa_nil))) (blkOk_by (N := nLiftWay) (sc := defScope sLiftWay) (by decide +kernel)) (fun _ _ _ _ _ => (pg_tup rfl (pgs_cons (pg_name (i := 9) scLiftWay.nd rfl (by first | exact Or.inl rfl | exact Or.inr rfl)) (pgs_cons (pg_name (i := 10) scLiftWay.nd rfl (by first | exact Or.inl rfl | exact Or.inr rfl)) pgs_nil)))) (fun _ _ _ _ _ => (pts_one (pt_cmpR op_ne (pe_ix ix_tup (pv 9) pe_int (fun _ _ => rfl)) (pv 1) (nomark _)))) (fun _ _ _ _ _ => (pe_tup (pa_cons (pv 9) (pa_cons (pv 10) pa_nil)))))
    (pss_cons (ps_set (i := 8) scLiftWay.nd rfl (by first | exact Or.inl rfl | exact Or.inr rfl) (pe_tup (pa_cons (pv 2) (pa_cons (pe_callTy call_tuple_of (by rfl) hB.tuple_ (by decide +kernel) (pa_cons (pe_lc (own := [("row", 9), ("head", 10)]) rfl scLiftWay.nd (pi_list (pv 7)) (blkOk_by (N := nLiftWay) (sc := defScope sLiftWay) (by decide +kernel)) (fun _ _ _ _ _ => (pg_tup rfl (pgs_cons (pg_name (i := 9) scLiftWay.nd rfl (by first | exact Or.inl rfl | exact Or.inr rfl)) (pgs_cons (pg_name (i := 10) scLiftWay.nd rfl (by first | exact Or.inl rfl | exact Or.inr rfl)) pgs_nil)))) (fun _ _ _ _ _ => pts_nil) (fun _ _ _ _ _ => (pv 9))) pa_nil)) pa_nil))))
    (pss_one (ps_ret (pe_tup (pa_cons (pe_tup (pa_cons (pv 8) (pa_cons (pe_callTy call_tuple_of (by rfl) hB.tuple_ (by decide +kernel) (pa_cons (pe_lc (own := [("row", 9), ("head", 10)]) rfl scLiftWay.nd (pi_list (pv 7)) (blkOk_by (N := nLiftWay) (sc := defScope sLiftWay) (by decide +kernel)) (fun _ _ _ _ _ => (pg_tup rfl (pgs_cons (pg_name (i := 9) scLiftWay.nd rfl (by first | exact Or.inl rfl | exact Or.inr rfl)) (pgs_cons (pg_name (i := 10) scLiftWay.nd rfl (by first | exact Or.inl rfl | exact Or.inr rfl)) pgs_nil)))) (fun _ _ _ _ _ => pts_nil) (fun _ _ _ _ _ => (pv 10))) pa_nil)) (pa_cons (pv 5) pa_nil)))) (pa_cons (pv 6) pa_nil)))))))))
end
end Tb
set_option Elab.async false
set_option linter.all false
set_option maxRecDepth 100000
set_option maxHeartbeats 4000000
namespace Tb
open PySem PySem.Spec PyProof.Rows L2 Evl
/-- what a refusing def is for its callers -/
def KpX (P : Program) (w : World) (K : PySem.W.Frag) (mg : Str → Option Value) (base : Heap) (k : Nat) (x : Str) (ps : List Str) (sp : Sp) : Prop :=
  ∃ f fd, mg x = some (.ref f) ∧ PySem.W.keepIn K (.ref f) = true ∧ Binds K fd ps [] ∧ FnOk P w K mg base (CX P w) k f fd ps sp
section
variable {P : Program} {w : World} {K : PySem.W.Frag} {mg : Str → Option Value} {base : Heap} {U T0 fI : Addr}
theorem readLiftWayX (xf : XF K mg U T0 fI) {vs : List V} {H : Hp} {Q : VK} {E : XK} (h : spLiftWayX K U vs H Q E) : tLiftWayX K U E { nx := fun _ H' => Q .non H', rt := Q } (start nLiftWay vs) H := by
  obtain ⟨p, nm, hd, hin, hz, q⟩ := h
  obtain ⟨x, y, rfl, hx, hy⟩ := dp2 hd
  rw [dp_str hy]
  show tSeq _ _ _ [some x, some (.str nm), none, none, none, none, none, none, none, none, none] H
  refine q_unpD (ep_var rfl hx).toD rfl fun xs H1 a1 h1 => ?_
  obtain ⟨vw, vb, rfl, hw, hb⟩ := dp2 h1
  refine ⟨_, _, rfl, g_tup hw rfl fun ys hys => ?_⟩
  obtain ⟨vweb, vh, vc, rfl, hweb, hh, hc⟩ := dp3 hys
  refine ⟨_, _, rfl, g_tup hweb rfl fun zs hzs => ?_⟩
  obtain ⟨vp, vy, rfl, hp, hy'⟩ := dp2 hzs
  refine ⟨_, _, rfl, _, _, rfl, rfl, _, _, rfl, _, _, rfl, rfl, _, _, rfl, rfl, ?_⟩
  show tSeq _ _ _ [some x, some (.str nm), some vp, some vy, some vh, some vc, some vb, none, none, none, none] H1
  have nms : EvN K (tLc (iTup K (tVar 3)) (gName 9) tYes (tOp (rIxT K) (tVar 9) (tC (.int 0))) [9]) [some x, some (.str nm), some vp, some vy, some vh, some vc, some vb, none, none, none, none] H1 ((p.w.ways.map (·.1)).map .str) := by
    rw [List.map_map]
    exact en_lcN0 p.w.ways wayD (fun w => .str w.1) (iv_tup (ep_var rfl hy')).toD (by omega) (by decide) (fun _ _ => rfl) fun w x' H2 hw a2 hx' => ed_i0 (ed_var rfl hx')
  refine q_when (b := true) (et_is (et_niL (ed_vs rfl) nms.toD) (decide_eq_true hin)) (fun _ H2 a2 => ?_) fun z => (nomatch z)
  refine ⟨_, rfl, by simp, fun a ha => ⟨a, .str "way", .str nm, rfl, xf.oex, xf.noW, xf.noN, upd_same, fun dx H' hdx ne keep h1 h2 => ⟨rfl, dx, _, h1, h2, by rw [upd_ne ne] at hdx; exact hdx, q dx _ (fun b o hb => ?_) upd_same⟩⟩⟩
  have hb2 := (a1.trans a2) b o hb
  have nb : b ≠ a := fun e => by
    rw [e, ha] at hb2
    cases hb2
  have nd : b ≠ dx := fun e => by
    rw [upd_ne ne, ← e, hb2] at hdx
    cases hdx
  rw [upd_ne nd, del_ne nb]
  exact keep b o nb (by rw [upd_ne nb]; exact hb2)
theorem okLiftWayX (hB : Blt mg) (xf : XF K mg U T0 fI) (g : Gd K mg "lift_way" "lift_way" sLiftWay) : KpX P w K mg base 3 "lift_way" ["piece", "way"] (spLiftWayX K U) := by
  obtain ⟨f, fd, hm, F⟩ := g
  refine ⟨f, fd, hm, F.kp, F.bindsN (fun _ _ _ _ _ _ us hl => match us, hl with | [_, _], _ => rfl), F.ok scLiftWay (fun vs H Q E h => ?_) fun cdv A outer s H vs Q E hr h => ⟨tLiftWayX K U E, derLiftWayX hB xf (okUInit xf.fd.choose_spec) hr, readLiftWayX xf h⟩⟩
  obtain ⟨_, _, hd, _⟩ := h
  exact dp_len hd
/-! ### defs that are told a caught exception -/
structure FnP (P : Program) (w : World) (K : PySem.W.Frag) (mg : Str → Option Value) (base : Heap) (k : Nat) (f : Addr) (fd : FuncData) (ps : List Str) (sp : Addr → Value → Option Addr → Sp) : Prop where
  len : ∀ a c d vs H Q E, sp a c d vs H Q E → vs.length = ps.length
  run : ∀ (A : Around) (outer : List Env) (s : Shared) (H : Hp) (args : Args) (us : List Value) (vs : List V) (Q : VK) (E : XK) (a : Addr) (oe : Obj) (c : Value) (d : Option Addr), L2H.RoomH k A → Zc c d oe → (∃ vs, oe.data = .fields vs) → L2H.PinOk outer H s (a, oe) → Env0 P w K mg base A outer s H → BindsTo s fd args (ps.zip us) → Vals vs us → sp a c d vs H Q E →
    codeAny (model P w) A (.call (.ref f) args) (CR CX0 outer P w H s Q E) s
theorem fn_ofP {x q : Str} {st : Stmt} {f : Addr} {fd : FuncData} {N ps : List Str} {k : Nat} {sp : Addr → Value → Option Addr → Sp} (F : FunD K x q (defArgs st) (defBody st) (defScope st) [] [] f fd) (S : FnScope N ps (defScope st))
    (len : ∀ a c d vs H Q E, sp a c d vs H Q E → vs.length = ps.length)
    (hbody : ∀ (cdv : Value) (A : Around) (outer : List Env) (s : Shared) (H : Hp) (vs : List V) (Q : VK) (E : XK) (a : Addr) (oe : Obj) (c : Value) (d : Option Addr), Zc c d oe → (∃ vs, oe.data = .fields vs) → L2H.RoomH k (A.deeper (envOfC q (defScope st) s.heap.objs.size f cdv)) → sp a c d vs H Q E →
      ∃ t, PSs (L2H.cxH CX0 P w K mg base N q (defScope st) f cdv A outer s H E (a, oe)) (defBody st) t ∧ t { nx := fun _ H' => Q .non H', rt := Q } (L2.start N vs) H) : FnP P w K mg base (k + 1) f fd ps sp := by
  obtain ⟨oc, od, dV, kV, doc, pm, an, cdv, ct, osl, rfl, lk, hcd, _, _⟩ := F.ex
  refine ⟨len, fun A outer s H args us vs Q E a oe c d hr hz hf hpin e0 hb r hsp => ?_⟩
  have hl := len _ _ _ _ _ _ _ hsp
  have KX : K.In s.heap := e0.mod.kin.keeps fun b o e => (e0.bs b o e).1
  have lim : s.heap.NoLimit := e0.mod.nolimit.keeps fun b o e => (e0.bs b o e).1
  have hkind : ∀ y ∈ ps.zip us, (defScope st).names.lookup y.1 = some .local ∨ ((defScope st).names.lookup y.1 = some .cell ∧ ((cellsFrom (s.heap.objs.size + 1) (defScope st).names []).lookup y.1).isSome = true) := fun ⟨n, v⟩ hy => by
    rcases S.par n (List.of_mem_zip hy).1 with q | q
    · exact .inl q
    · exact .inr ⟨q, PySem.W.cellsFrom_some _ _ _ (.inl q)⟩
  refine codeAny_call_function hr.depth (KX _ _ lk) rfl S.co S.gen rfl (PySem.W.codeRec_of KX hcd) (hb _ _ _ _ ?_)
  refine wpAny_newFunctionEnv_cells S.kind hkind fun env he s1 x => ?_
  subst he
  refine ⟨lim.keeps x.toInCall.keep, codeAny_func ?_⟩
  obtain ⟨t, ht, hq⟩ := hbody cdv A outer s H vs Q E a oe c d hz hf (hr.deeper _) hsp
  have I : Inv (L2H.cxH CX0 P w K mg base N q (defScope st) f cdv A outer s H E (a, oe)) [] (L2.start N vs) H s1 := L2H.inv_startH S hpin e0 hl r x
  refine wpAny_mono (ht.run [] s1 (L2.start N vs) H _ I hq) (fun fl s' hs => ?_) fun e s' hs => hs
  have fin : ∀ {σ' : L2.St} {H' : Hp} {v : V} {u : Value}, Inv (L2H.cxH CX0 P w K mg base N q (defScope st) f cdv A outer s H E (a, oe)) [] σ' H' s' → RelV v u → Q v H' → CE outer P w H s Q u s' :=
    fun {σ' H' v u} J rv q => ⟨v, H', J.os, J.bare, J.base, J.hok, rv, q⟩
  cases fl with
  | ret u =>
    obtain ⟨v, σ', H', J, rv, q⟩ := hs
    exact fin J rv q
  | next =>
    obtain ⟨σ', H', J, q⟩ := hs
    exact fin (v := V.non) (u := Value.none) J rfl q
  | brk =>
    obtain ⟨_, _, _, q⟩ := hs
    exact False.elim q
  | cont =>
    obtain ⟨_, _, _, q⟩ := hs
    exact False.elim q
section
variable {X : Cx} {k : Nat} {f a : Addr} {oe : Obj} {c : Value} {d : Option Addr} {fd : FuncData} {ps : List Str} {sp : Addr → Value → Option Addr → Sp} {x m : Str} {q pos : Pos} {e : Expr} {es : List Expr} {t : TA}
theorem pe_callP (F : FnP X.prog X.w X.K X.mg X.base k f fd ps sp) (hr : L2H.RoomH k X.A) (hz : Zc c d oe) (hf : ∃ vs, oe.data = .fields vs) (hp : (a, oe) ∈ X.pn) (hg : Gl X x) (hm : X.mg x = some (.ref f)) (hk : PySem.W.keepIn X.K (.ref f) = true) (hb : Binds X.K fd ps [])
    (ha : PA X (e :: es) t) (hdb : (x == ("__debug__" : Str)) = false := by decide) (he : starEach (e :: es) X.env = (false, eval e X.env) :: starEach es X.env := by rfl) (hpl : (backTo pos (starEach es X.env)).any (·.1) = false := by rfl) :
    PE X (.Call (.Name x q) (e :: es) [] pos) (tCall (sp a c d) [] E0 t) := by
  refine ⟨fun pins s σ H Q I h => ?_⟩
  refine wpAny_Call_Name_kw (ld_glob I hg hm ?_ hdb)
  refine PySem.W.callWith_K (h₀ := X.base) I.ok.mod.kin hk (thn (ha.run pos pins s σ H _ I h) fun us s1 ⟨vs, H1, I1, r, q⟩ => ⟨I1.kIn, ?_⟩) he hpl
  have q : sp a c d (vs ++ []) H1 Q E0 := q
  rw [List.append_nil] at q
  have hl : us.length = ps.length := by rw [← r.length]; exact F.len _ _ _ _ _ _ _ q
  have b := hb s1 us I1.kIn (by rw [List.append_nil]; exact hl)
  rw [List.append_nil] at b
  have P1 := I1.pin (a, oe) (List.mem_append_left _ hp)
  have hpin : L2H.PinOk X.stack H1 s1 (a, oe) := ⟨P1.1, P1.2.1, fun hm => (List.mem_cons.mp (I1.stkSub a hm)).elim P1.2.2.1 P1.2.2.2.1, P1.2.2.2.2⟩
  refine wpAny_call (codeAny_mono (F.run X.A X.stack s1 H1 ⟨us, []⟩ us vs Q E0 a oe c d hr hz hf hpin I1.env0 b r q) fun r s' hq => ?_)
  cases r with
  | error e => exact False.elim hq
  | ok fl =>
    cases fl with
    | ret u => exact I1.after hq
    | next => exact False.elim hq
    | brk => exact False.elim hq
    | cont => exact False.elim hq
/-- isinstance(e, c), e the caught exception with its dict at dd -/
def rIsEd (K : PySem.W.Frag) (D a dd : Addr) : List V → Hp → VK → Prop := fun xs H Q => ∃ (c : V) (cv : Value) (b : Bool) (fs : List (Str × V)), xs = [.ref a, c] ∧ (∀ u, RelV c u → u = cv) ∧ PySem.W.kitOne K (.ref D) cv = some b ∧ H dd = some (.xd fs) ∧ Q (.bl b) H
theorem inst_at {pins : List (Addr × Obj)} {σ : L2.St} {H : Hp} {s : Shared} {D dd : Addr} {fs : List (Str × V)} (I : Inv X pins σ H s) (hz : Zc (.ref D) (some dd) oe) (hf : ∃ vs, oe.data = .fields vs) (hp : (a, oe) ∈ X.pn) (hx : H dd = some (.xd fs)) : ∃ od, PySem.W.InstAt s.heap a oe D (some od) := by
  obtain ⟨ha, _⟩ := I.pin (a, oe) (List.mem_append_left _ hp)
  obtain ⟨vs, hd⟩ := hf
  have hx' : ObjOk X.prog X.w H s.heap dd (.xd fs) := I.hok dd _ hx
  obtain ⟨mA, hns, hr⟩ := hx'
  obtain ⟨od, ho, hl⟩ := lookIn_ns hns
  exact ⟨od, ha, hz.1, by unfold PySem.W.notCls; rw [hd] <;> rfl, by rw [hz.2]; exact ho⟩
theorem call_isEd {D dd : Addr} (C : ExcC X.K D) (hz : Zc (.ref D) (some dd) oe) (hf : ∃ vs, oe.data = .fields vs) (hp : (a, oe) ∈ X.pn) : CallR X (.builtin "isinstance") (rIsEd X.K D a dd) := by
  intro pins s σ H xs us Q I r h
  obtain ⟨c, cv, b, fs, rfl, hcv, e, hx, q⟩ := h
  cases r with
  | cons rx rr =>
    cases rr with
    | cons rt rr =>
      cases rr
      cases rx
      have ec := hcv _ rt
      subst ec
      obtain ⟨od, J⟩ := inst_at I hz hf hp hx
      have hcl : (PySem.W.clsIn X.K D).isSome = true := by
        obtain ⟨cd, hc, _⟩ := PySem.W.any_some C.hd
        rw [hc]
        rfl
      exact PySem.W.kia_one (PySem.W.kitx_exc hcl C.hg C.hk C.hs C.ha C.hn C.ht C.hm) I.kIn J e (fun z => nomatch z) fun tk => ⟨.bl b, H, I.kept (t' := tk) fun _ _ z => z, rfl, q⟩
/-- e.f of such an exception -/
def tXfd (a dd : Addr) (f : Str) (te : TE) : TE := fun σ H Q => te σ H fun x H1 => x = .ref a ∧ ∃ (fs : List (Str × V)) (v : V), H1 dd = some (.xd fs) ∧ fs.lookup f = some v ∧ Q v H1
theorem pe_xfd {D dd : Addr} {n : Str} {te : TE} (T : XfC X.K D) (hno : PySem.W.findIn X.K (.ref D) n = some none) (hz : Zc (.ref D) (some dd) oe) (hf : ∃ vs, oe.data = .fields vs) (hp : (a, oe) ∈ X.pn) (he : PE X e te) (hb : attributeBase e n X.env (eval e X.env) = eval e X.env := by rfl) :
    PE X (.Attribute e n pos) (tXfd a dd n te) := by
  refine ⟨fun pins s σ H Q I h => ?_⟩
  refine attr_of hb (thn (he.run pins s σ H _ I h) fun u s1 hh => ?_)
  obtain ⟨x, H1, I1, rx, ex, fs, v, ea, l, q⟩ := hh
  subst ex
  obtain rfl : u = Value.ref a := rx
  obtain ⟨ha, _⟩ := I1.pin (a, oe) (List.mem_append_left _ hp)
  obtain ⟨vs, hd⟩ := hf
  have hx : ObjOk X.prog X.w H1 s1.heap dd (.xd fs) := I1.hok dd _ ea
  obtain ⟨mA, hns, hr⟩ := hx
  obtain ⟨od, ho, hl⟩ := lookIn_ns hns
  obtain ⟨u, hu, ru⟩ := RelO.some_of (v := v) (o := mA n) (by rw [← l]; exact hr n)
  have J : PySem.W.InstAt s1.heap a oe D (some od) := ⟨ha, hz.1, by unfold PySem.W.notCls; rw [hd] <;> rfl, by rw [hz.2]; exact ho⟩
  exact HandSPX.exc_get I1.kIn J T.ga T.gg T.exC (PySem.W.findObj_own T.hdC hno rfl (by rw [hl, hu])) (handed_of ru) ⟨v, H1, I1.tok _, ru, q⟩
end
end
end Tb
set_option Elab.async false
set_option linter.all false
set_option maxRecDepth 100000
set_option maxHeartbeats 4000000
/-! Telling the caught exception, printed by gen_x3.py. -/
namespace Tb
open PySem PySem.Spec PyProof.Rows L2 Evl
abbrev nLError : List Str := ["_law_e", "_law_found"]
abbrev nLErrorMore : List Str := ["_law_e", "_law_found"]
abbrev nLRefused : List Str := ["_law_piece_here", "_law_way", "_law_e"]
/-- the address of the class n -/
def adr (mg : Str → Option Value) (n : Str) : Addr := match mg n with
  | some (.ref a) => a
  | _ => 0
theorem XF.adr_ok {K : PySem.W.Frag} {mg : Str → Option Value} {U T0 fI : Addr} (x : XF K mg U T0 fI) {n : Str} (h : n ∈ excNs) : mg n = some (.ref (adr mg n)) ∧ PySem.W.kitOne K (.ref U) (.ref (adr mg n)) = some (decide (n = "Unknown" ∨ n = "TurnError")) := by
  obtain ⟨C, h1, h2⟩ := x.is_ n h
  have e : adr mg n = C := by unfold adr; rw [h1]
  rw [e]
  exact ⟨h1, h2⟩
/-- isinstance(_law_e, n) -/
def tIsN (K : PySem.W.Frag) (mg : Str → Option Value) (U a dd : Addr) (n : Str) : TT := tB (tCB (rIsEd K U a dd) (tCons (tVar 0) (tCons (tC (.ref (adr mg n))) tNil)))
def tIsV (K : PySem.W.Frag) (U a dd : Addr) : TT := tB (tCB (rIsEd K U a dd) (tCons (tVar 0) (tCons (tC (.ty "ValueError")) tNil)))
def spLErrorMore (K : PySem.W.Frag) (U a : Addr) (c : Value) (d : Option Addr) : Sp := fun vs H Q _ => ∃ (dd l : Addr) (fs : List (Str × V)) (v : V) (e : PyData), c = .ref U ∧ d = some dd ∧ vs = [.ref a, .ref l] ∧ H dd = some (.xd fs) ∧ H l = some (.lst [v]) ∧ Dp K H v e ∧ RetD K e H Q
def spLError (K : PySem.W.Frag) (U a : Addr) (c : Value) (d : Option Addr) : Sp := fun vs H Q _ => ∃ (dd : Addr) (x : Str), c = .ref U ∧ d = some dd ∧ vs = [.ref a] ∧ H dd = some (.xd [("name", .str x), ("what", .str "way")]) ∧ RetD K (.tuple [.str "Unknown", .str "way", .str x]) H Q
def tLErrorMore (K : PySem.W.Frag) (mg : Str → Option Value) (U a dd : Addr) : TS :=
    (tSeq (tIfS (tIsN K mg U a dd "BadText") tNever tNext)
    (tSeq (tIfS (tIsN K mg U a dd "NoRun") tNever tNext)
    (tSeq (tIfS (tIsN K mg U a dd "NothingLeft") tNever tNext)
    (tSeq (tIfS (tIsN K mg U a dd "BadClaim") tNever tNext)
    (tSeq (tIfS (tIsN K mg U a dd "BadRow") tNever tNext)
    (tSeq (tIfS (tOr (tTest (tOp rNe (tCB (rLenS K) (tCons (tVar 1) tNil)) (tC (.int 1)))) (tOr (tNot (tIsN K mg U a dd "TurnError")) (tNot (tIsV K U a dd)))) tNever tNext)
    (tRet (tOp (rIxL K) (tVar 1) (tC (.int 0))))))))))
def tLError (K : PySem.W.Frag) (mg : Str → Option Value) (U a dd : Addr) : TS :=
    (tSeq (tAsg (tLst tNil) (gName 1))
    (tSeq (tIfS (tIsN K mg U a dd "BadName") tNever tNext)
    (tSeq (tIfS (tIsN K mg U a dd "BadNumber") tNever tNext)
    (tSeq (tIfS (tIsN K mg U a dd "BadSize") tNever tNext)
    (tSeq (tIfS (tIsN K mg U a dd "Repeated") tNever tNext)
    (tSeq (tIfS (tIsN K mg U a dd "Unknown") (tDrop (tBM K "list" rAppend (tVar 1) (tCons (tTup (tCons (tC (.str "Unknown")) (tCons (tXfd a dd "what" (tVar 0)) (tCons (tXfd a dd "name" (tVar 0)) tNil)))) tNil))) tNext)
    (tSeq (tIfS (tIsN K mg U a dd "BadEnd") tNever tNext)
    (tSeq (tIfS (tIsN K mg U a dd "NoWalker") tNever tNext)
    (tSeq (tIfS (tIsN K mg U a dd "Occupied") tNever tNext)
    (tSeq (tIfS (tIsN K mg U a dd "Unlike") tNever tNext)
    (tSeq (tIfS (tIsN K mg U a dd "Named") tNever tNext)
    (tSeq (tIfS (tIsN K mg U a dd "TooLarge") tNever tNext)
    (tSeq (tIfS (tIsN K mg U a dd "NoDeed") tNever tNext)
    (tRet (tCall (spLErrorMore K U a (.ref U) (some dd)) [] E0 (tCons (tVar 0) (tCons (tVar 1) tNil)))))))))))))))))
def tLRefused (K : PySem.W.Frag) (U T0 : Addr) : TS :=
    (tSeq (fun D σ H => tDrop (tCallS (spLiftWayX K U) (WE (wAs K (.ref T0) 2 (fun a c d => tRet (tCall (spLError K U a c d) [] E0 (tCons (tVar 2) tNil))) (fun _ _ _ _ => False) D)) (tCons (tVar 0) (tCons (tVar 1) tNil))) D σ H)
    (tRet (tC .non)))
/-! ### the derivations -/
section
variable {P : Program} {w : World} {K : PySem.W.Frag} {mg : Str → Option Value} {base : Heap} {U T0 fI : Addr}
theorem scLError : FnScope nLError ["_law_e"] (defScope sLError) := ⟨rfl, rfl, rfl, by decide +kernel, rfl, by decide +kernel, by decide +kernel⟩
theorem scLErrorMore : FnScope nLErrorMore ["_law_e", "_law_found"] (defScope sLErrorMore) := ⟨rfl, rfl, rfl, by decide +kernel, rfl, by decide +kernel, by decide +kernel⟩
theorem scLRefused : FnScope nLRefused ["_law_piece_here", "_law_way"] (defScope sLRefused) := ⟨rfl, rfl, rfl, by decide +kernel, rfl, by decide +kernel, by decide +kernel⟩
theorem pt_isN {X : Cx} {n en : Str} {p1 p2 p3 p4 : Pos} {a dd : Addr} {oe : Obj} (xf : XF X.K X.mg U T0 fI) (hB : Blt X.mg) (hz : Zc (.ref U) (some dd) oe) (hf : ∃ vs, oe.data = .fields vs) (hp : (a, oe) ∈ X.pn) (hn : n ∈ excNs) (hg : Gl X "isinstance") (hgn : Gl X n) (he : PE X (.Name en p1) (tVar 0))
    (hs : starEach [.Name en p1, .Name n p2] X.env = (false, eval (.Name en p1) X.env) :: starEach [.Name n p2] X.env := by rfl) (hs2 : (backTo p4 (starEach [.Name n p2] X.env)).any (·.1) = false := by rfl) (hs3 : starEach [.Name n p2] X.env = [(false, eval (.Name n p2) X.env)] := by rfl) (hdb : (n == ("__debug__" : Str)) = false := by decide)
    : PT X (.Call (.Name "isinstance" p3) [.Name en p1, .Name n p2] [] p4) (tIsN X.K X.mg U a dd n) :=
  pt_val (pe_callB (call_isEd xf.exc hz hf hp) hg hB.isinstance_ (by decide +kernel) (pa_cons he (pa_cons (pe_glob (v := .ref (adr X.mg n)) hgn (xf.adr_ok hn).1 rfl hdb) pa_nil)) (he := hs) (hpl := hs2))
theorem derLErrorMore (hB : Blt mg) (xf : XF K mg U T0 fI) {cdv : Value} {f a dd : Addr} {oe : Obj} {A : Around} {outer : List Env} {s : Shared} {H : Hp} {E : XK} (hz : Zc (.ref U) (some dd) oe) (hf : ∃ vs, oe.data = .fields vs)  :
    PSs (L2H.cxH CX0 P w K mg base nLErrorMore "_law_error_more" (defScope sLErrorMore) f cdv A outer s H E (a, oe)) (defBody sLErrorMore) (tLErrorMore K mg U a dd) :=
    (pss_cons (ps_if (pt_isN xf hB hz hf List.mem_cons_self (by decide) (by rfl) (by rfl) (pv 0)) pss_never pss_nil)
    (pss_cons (ps_if (pt_isN xf hB hz hf List.mem_cons_self (by decide) (by rfl) (by rfl) (pv 0)) pss_never pss_nil)
    (pss_cons (ps_if (pt_isN xf hB hz hf List.mem_cons_self (by decide) (by rfl) (by rfl) (pv 0)) pss_never pss_nil)
    (pss_cons (ps_if (pt_isN xf hB hz hf List.mem_cons_self (by decide) (by rfl) (by rfl) (pv 0)) pss_never pss_nil)
    (pss_cons (ps_if (pt_isN xf hB hz hf List.mem_cons_self (by decide) (by rfl) (by rfl) (pv 0)) pss_never pss_nil)
    (pss_cons (ps_if (PW.pt (pw_or (pt_cmpR op_ne (pe_callB call_len_seq (by rfl) hB.len_ PySem.boot_len (pa_cons (pv 1) pa_nil)) pe_int (nomark _)) (pw_or (pt_not (pt_isN xf hB hz hf List.mem_cons_self (by decide) (by rfl) (by rfl) (pv 0))) (pw_or1 (pt_not (pt_val (pe_callB (call_isEd xf.exc hz hf List.mem_cons_self) (by rfl) hB.isinstance_ (by decide +kernel) (pa_cons (pv 0) (pa_cons (pe_bltn (v := .ty "ValueError") (by rfl) xf.vE (by decide +kernel) rfl) pa_nil))))))))) pss_never pss_nil)
    (pss_one (ps_ret (pe_ix ix_list (pv 1) pe_int (fun _ _ => rfl))))))))))
theorem derLError (hB : Blt mg) (xf : XF K mg U T0 fI) {fm : Addr} {fd : FuncData} (FM : FnP P w K mg base 1 fm fd ["_law_e", "_law_found"] (spLErrorMore K U)) (hm : mg "_law_error_more" = some (.ref fm)) (hk : PySem.W.keepIn K (.ref fm) = true) (hb : Binds K fd ["_law_e", "_law_found"] []) {cdv : Value} {f a dd : Addr} {oe : Obj} {A : Around} {outer : List Env} {s : Shared} {H : Hp} {E : XK} (hz : Zc (.ref U) (some dd) oe) (hf : ∃ vs, oe.data = .fields vs) (hr : L2H.RoomH 1 (A.deeper (envOfC "_law_error" (defScope sLError) s.heap.objs.size f cdv))) :
    PSs (L2H.cxH CX0 P w K mg base nLError "_law_error" (defScope sLError) f cdv A outer s H E (a, oe)) (defBody sLError) (tLError K mg U a dd) :=
    (pss_cons (ps_set (i := 1) scLError.nd rfl (by first | exact Or.inl rfl | exact Or.inr rfl) (pe_lst pa_nil))
    (pss_cons (ps_if (pt_isN xf hB hz hf List.mem_cons_self (by decide) (by rfl) (by rfl) (pv 0)) pss_never pss_nil)
    (pss_cons (ps_if (pt_isN xf hB hz hf List.mem_cons_self (by decide) (by rfl) (by rfl) (pv 0)) pss_never pss_nil)
    (pss_cons (ps_if (pt_isN xf hB hz hf List.mem_cons_self (by decide) (by rfl) (by rfl) (pv 0)) pss_never pss_nil)
    (pss_cons (ps_if (pt_isN xf hB hz hf List.mem_cons_self (by decide) (by rfl) (by rfl) (pv 0)) pss_never pss_nil)
    (pss_cons (ps_if (pt_isN xf hB hz hf List.mem_cons_self (by decide) (by rfl) (by rfl) (pv 0)) (pss_one (ps_expr (pe_bm PySem.F.plainAttrs_list PySem.F.slot_list_append PySem.F.type_list_append mt_append (pv 1) (pa_cons (pe_tup (pa_cons pe_str (pa_cons (pe_xfd xf.xfc xf.noW hz hf List.mem_cons_self (pv 0)) (pa_cons (pe_xfd xf.xfc xf.noN hz hf List.mem_cons_self (pv 0)) pa_nil)))) pa_nil)))) pss_nil)
    (pss_cons (ps_if (pt_isN xf hB hz hf List.mem_cons_self (by decide) (by rfl) (by rfl) (pv 0)) pss_never pss_nil)
    (pss_cons (ps_if (pt_isN xf hB hz hf List.mem_cons_self (by decide) (by rfl) (by rfl) (pv 0)) pss_never pss_nil)
    (pss_cons (ps_if (pt_isN xf hB hz hf List.mem_cons_self (by decide) (by rfl) (by rfl) (pv 0)) pss_never pss_nil)
    (pss_cons (ps_if (pt_isN xf hB hz hf List.mem_cons_self (by decide) (by rfl) (by rfl) (pv 0)) pss_never pss_nil)
    (pss_cons (ps_if (pt_isN xf hB hz hf List.mem_cons_self (by decide) (by rfl) (by rfl) (pv 0)) pss_never pss_nil)
    (pss_cons (ps_if (pt_isN xf hB hz hf List.mem_cons_self (by decide) (by rfl) (by rfl) (pv 0)) pss_never pss_nil)
    (pss_cons (ps_if (pt_isN xf hB hz hf List.mem_cons_self (by decide) (by rfl) (by rfl) (pv 0)) pss_never pss_nil)
    (pss_one (ps_ret (pe_callP FM hr hz hf List.mem_cons_self (by rfl) hm hk hb (pa_cons (pv 0) (pa_cons (pv 1) pa_nil))))))))))))))))))
theorem derLRefused (hB : Blt mg) (xf : XF K mg U T0 fI) (hLift : KpX P w K mg base 3 "lift_way" ["piece", "way"] (spLiftWayX K U)) {fe : Addr} {fde : FuncData} (FE : FnP P w K mg base 2 fe fde ["_law_e"] (spLError K U)) (hme : mg "_law_error" = some (.ref fe)) (hke : PySem.W.keepIn K (.ref fe) = true) (hbe : Binds K fde ["_law_e"] [])
    {cdv : Value} {f : Addr} {A : Around} {outer : List Env} {s : Shared} {H : Hp} {E : XK} (hr : Room 3 (A.deeper (envOfC "_law_refused" (defScope sLRefused) s.heap.objs.size f cdv))) :
    PSs (cxOf CX0 P w K mg base nLRefused "_law_refused" (defScope sLRefused) f cdv A outer s H E).nox (defBody sLRefused) (tLRefused K U T0) := by
  obtain ⟨fl, fdl, hml, hkl, hbl, FL⟩ := hLift
  refine pss_cons (ps_try_as (n := "_law_e") (i := 2) (c := .ref T0) (ts := fun a c d => tRet (tCall (spLError K U a c d) [] E0 (tCons (tVar 2) tNil))) (Wout := fun _ _ _ _ => False) (tb := fun W => tDrop (tCallS (spLiftWayX K U) (WE W) (tCons (tVar 0) (tCons (tVar 1) tNil)))) rfl rfl scLRefused.nd rfl rfl ⟨by rfl, by decide, .inl xf.gT⟩ ?_ (fun W pn xe tkW ps => ?_) fun a oe cls d pn hz hf => ?_) (pss_one (ps_ret pe_non))
  · exact fun _ _ ⟨_, _, _, _, _, _, _, _, _, _, _, _, _, _, _, _, z⟩ => False.elim z
  · exact pss_one (ps_expr (pe_callS FL hr (by rfl) hml hkl hbl (passAt tkW) (pa_cons (pv 0) (pa_cons (pv 1) pa_nil))))
  · exact pss_one (ps_ret (pe_callP FE (show L2H.RoomH 2 _ from ⟨(hr.mono (by decide : 2 ≤ 3)).dp, (hr.mono (by decide : 2 ≤ 3)).un⟩) hz hf List.mem_cons_self (by rfl) hme hke hbe (pa_cons (pv 2) pa_nil)))
/-! ### the readings -/
theorem ev_isEd {σ : L2.St} {H : Hp} {a dd : Addr} {fs : List (Str × V)} {C : V} {cv : Value} {b : Bool} (h0 : σ[0]? = some (some (.ref a))) (hd : H dd = some (.xd fs)) (hc : ∀ u, RelV C u → u = cv) (hk : PySem.W.kitOne K (.ref U) cv = some b) :
    Ev (tCB (rIsEd K U a dd) (tCons (tVar 0) (tCons (tC C) tNil))) σ H (.bl b) := fun H1 e Q q =>
  ea_cons (ev_var h0) (ea_cons ev_c ea_nil) H1 e _ fun H2 e2 => ⟨C, cv, b, fs, rfl, hc, hk, (e.trans e2) _ _ hd, q H2 e2⟩
theorem et_isN {σ : L2.St} {H : Hp} {a dd : Addr} {fs : List (Str × V)} {n : Str} (xf : XF K mg U T0 fI) (h0 : σ[0]? = some (some (.ref a))) (hd : H dd = some (.xd fs)) (hn : n ∈ excNs) : EvT (tIsN K mg U a dd n) σ H (decide (n = "Unknown" ∨ n = "TurnError")) :=
  et_B (ev_isEd h0 hd (fun u r => r) (xf.adr_ok hn).2)
theorem ev_xfd {σ : L2.St} {H : Hp} {a dd : Addr} {fs : List (Str × V)} {n : Str} {v : V} (h0 : σ[0]? = some (some (.ref a))) (hd : H dd = some (.xd fs)) (hl : fs.lookup n = some v) : Ev (tXfd a dd n (tVar 0)) σ H v := fun H1 e Q q =>
  ev_var h0 H1 e _ fun H2 e2 => ⟨rfl, fs, v, (e.trans e2) _ _ hd, hl, q H2 e2⟩
theorem q_skipE {σ : L2.St} {H : Hp} {a dd : Addr} {fs : List (Str × V)} {n : Str} {u tz : TS} {D : Ends} (xf : XF K mg U T0 fI) (h0 : σ[0]? = some (some (.ref a))) (hd : H dd = some (.xd fs)) (hn : n ∈ excNs) (hne : decide (n = "Unknown" ∨ n = "TurnError") = false) (k : ∀ H1, Ex H H1 → tz D σ H1) :
    tSeq (tIfS (tIsN K mg U a dd n) u tNext) tz D σ H := q_when (b := false) (et_is (et_isN xf h0 hd hn) hne) (fun z => nomatch z) fun _ => k
theorem readLErrorMore (xf : XF K mg U T0 fI) {a dd l : Addr} {fs : List (Str × V)} {v : V} {e : PyData} {H : Hp} {Q : VK} (hd : H dd = some (.xd fs)) (hl : H l = some (.lst [v])) (hv : Dp K H v e) (q : RetD K e H Q) :
    tLErrorMore K mg U a dd { nx := fun _ H' => Q .non H', rt := Q } (L2.start nLErrorMore [.ref a, .ref l]) H := by
  show tSeq _ _ _ [some (.ref a), some (.ref l)] H
  refine q_skipE xf rfl hd (by decide) (by decide) fun H1 a1 => ?_
  replace hd := a1 _ _ hd
  replace hl := a1 _ _ hl
  replace hv := dp_ex a1 hv
  replace q := q.go a1
  clear a1
  refine q_skipE xf rfl hd (by decide) (by decide) fun H1 a1 => ?_
  replace hd := a1 _ _ hd
  replace hl := a1 _ _ hl
  replace hv := dp_ex a1 hv
  replace q := q.go a1
  clear a1
  refine q_skipE xf rfl hd (by decide) (by decide) fun H1 a1 => ?_
  replace hd := a1 _ _ hd
  replace hl := a1 _ _ hl
  replace hv := dp_ex a1 hv
  replace q := q.go a1
  clear a1
  refine q_skipE xf rfl hd (by decide) (by decide) fun H1 a1 => ?_
  replace hd := a1 _ _ hd
  replace hl := a1 _ _ hl
  replace hv := dp_ex a1 hv
  replace q := q.go a1
  clear a1
  refine q_skipE xf rfl hd (by decide) (by decide) fun H1 a1 => ?_
  replace hd := a1 _ _ hd
  replace hl := a1 _ _ hl
  replace hv := dp_ex a1 hv
  replace q := q.go a1
  clear a1
  have hp : Dp K H1 (.ref l) (.list [e]) := .lst (sq_of hl) (.cons hv .nil)
  have g1 : EvT (tTest (tOp rNe (tCB (rLenS K) (tCons (tVar 1) tNil)) (tC (V.int 1)))) [some (V.ref a), some (V.ref l)] H1 false := et_is (et_neI (ed_lenL (ed_var rfl hp)) ev_c) rfl
  have g2 : EvT (tIsN K mg U a dd "TurnError") [some (V.ref a), some (V.ref l)] H1 true := et_is (et_isN xf rfl hd (by decide)) (by decide)
  have g3 : EvT (tIsV K U a dd) [some (V.ref a), some (V.ref l)] H1 true := et_B (ev_isEd (cv := .type "ValueError") rfl hd (fun u r => r) xf.isV)
  refine q_when (b := false) (et_or g1 fun _ => et_or (et_not g2) fun _ => et_not g3) (fun z => nomatch z) fun _ H2 a1 => ?_
  exact s_retD (ed_ixL (k := 0) (ed_var rfl (dp_ex a1 hp)) ev_c rfl) (q.go a1)
theorem readLError (xf : XF K mg U T0 fI) {a dd : Addr} {x : Str} {H : Hp} {Q : VK} (hd : H dd = some (.xd [("name", .str x), ("what", .str "way")])) (q : RetD K (.tuple [.str "Unknown", .str "way", .str x]) H Q) :
    tLError K mg U a dd { nx := fun _ H' => Q .non H', rt := Q } (L2.start nLError [.ref a]) H := by
  show tSeq _ _ _ [some (.ref a), none] H
  refine q_newL (K := K) fun l H1 P => ?_
  show tSeq _ _ _ [some (.ref a), some (.ref l)] H1
  refine q_skipE xf rfl (P.2.1 _ _ hd) (by decide) (by decide) fun H2 a2 => ?_
  replace P := P.ex a2
  clear a2
  refine q_skipE xf rfl (P.2.1 _ _ hd) (by decide) (by decide) fun H2 a2 => ?_
  replace P := P.ex a2
  clear a2
  refine q_skipE xf rfl (P.2.1 _ _ hd) (by decide) (by decide) fun H2 a2 => ?_
  replace P := P.ex a2
  clear a2
  refine q_skipE xf rfl (P.2.1 _ _ hd) (by decide) (by decide) fun H2 a2 => ?_
  replace P := P.ex a2
  clear a2
  refine q_when (b := true) (et_is (et_isN xf rfl (P.2.1 _ _ hd) (by decide)) (by decide)) (fun _ H2 a2 => ?_) fun z => (nomatch z)
  replace P := P.ex a2
  refine s_acc P rfl (ed_tup (eds_cons (ed_str ev_c) (eds_cons (ed_str (ev_xfd rfl (P.2.1 _ _ hd) rfl)) (eds1 (ed_str (ev_xfd rfl (P.2.1 _ _ hd) rfl)))))) rfl rfl (by decide) fun H3 P3 _ _ => ?_
  clear P a2
  rename LcP _ _ _ _ _ => P
  rw [List.nil_append] at P
  show tSeq _ _ _ [some (.ref a), some (.ref l)] H3
  refine q_skipE xf rfl (P.2.1 _ _ hd) (by decide) (by decide) fun H2 a2 => ?_
  replace P := P.ex a2
  clear a2
  refine q_skipE xf rfl (P.2.1 _ _ hd) (by decide) (by decide) fun H2 a2 => ?_
  replace P := P.ex a2
  clear a2
  refine q_skipE xf rfl (P.2.1 _ _ hd) (by decide) (by decide) fun H2 a2 => ?_
  replace P := P.ex a2
  clear a2
  refine q_skipE xf rfl (P.2.1 _ _ hd) (by decide) (by decide) fun H2 a2 => ?_
  replace P := P.ex a2
  clear a2
  refine q_skipE xf rfl (P.2.1 _ _ hd) (by decide) (by decide) fun H2 a2 => ?_
  replace P := P.ex a2
  clear a2
  refine q_skipE xf rfl (P.2.1 _ _ hd) (by decide) (by decide) fun H2 a2 => ?_
  replace P := P.ex a2
  clear a2
  refine q_skipE xf rfl (P.2.1 _ _ hd) (by decide) (by decide) fun H2 a2 => ?_
  replace P := P.ex a2
  clear a2
  obtain ⟨_, b, vs, hl, hv⟩ := P
  obtain ⟨v, rfl, hw⟩ := dp1 hv
  have ev : EvA (tCons (tVar 0) (tCons (tVar 1) tNil)) [some (.ref a), some (.ref l)] H2 [.ref a, .ref l] := ea_cons (ev_var rfl) (ea1 (ev_var rfl))
  dsimp only [tRet, tCall]
  refine ev _ (Ex.refl _) _ fun H3 a2 => ?_
  exact ⟨dd, l, _, v, _, rfl, rfl, rfl, a2 _ _ (b _ _ hd), a2 _ _ hl, dp_ex a2 hw, q.go (b.trans a2)⟩
theorem readLRefused (xf : XF K mg U T0 fI) {vs : List V} {H : Hp} {Q : VK} {E : XK} (h : spLRefused K vs H Q E) : tLRefused K U T0 { nx := fun _ H' => Q .non H', rt := Q } (L2.start nLRefused vs) H := by
  obtain ⟨p, nm, hd, hin, hz, q⟩ := h
  obtain ⟨x, y, rfl, hx, hy⟩ := dp2 hd
  show tSeq _ _ _ [some x, some y, none] H
  have ev : EvA (tCons (tVar 0) (tCons (tVar 1) tNil)) [some x, some y, none] H [x, y] := ea_cons (ev_var rfl) (ea1 (ev_var rfl))
  dsimp only [tSeq, tDrop, tCallS]
  refine ev H (Ex.refl H) _ fun H1 a1 => ?_
  refine ⟨p, nm, dps_ex a1 hd, hin, hz, fun d H' ex hdd => ⟨true, xf.exm, fun _ a ha => ?_, fun z => nomatch z⟩⟩
  have ev2 : EvA (tCons (tVar 2) tNil) [some x, some y, some (.ref a)] H' [.ref a] := ea1 (ev_var rfl)
  dsimp only [tRet, tCall]
  exact ev2 H' (Ex.refl H') _ fun H2 a2 => ⟨d, nm, rfl, rfl, rfl, a2 _ _ hdd, q.go ((a1.trans ex).trans a2)⟩
/-! ### the promises -/
def KpE (P : Program) (w : World) (K : PySem.W.Frag) (mg : Str → Option Value) (base : Heap) (k : Nat) (x : Str) (ps : List Str) (sp : Addr → Value → Option Addr → Sp) : Prop :=
  ∃ f fd, mg x = some (.ref f) ∧ PySem.W.keepIn K (.ref f) = true ∧ Binds K fd ps [] ∧ FnP P w K mg base k f fd ps sp
theorem okLErrorMore (hB : Blt mg) (xf : XF K mg U T0 fI) (g : Gd K mg "_law_error_more" "_law_error_more" sLErrorMore) : KpE P w K mg base 1 "_law_error_more" ["_law_e", "_law_found"] (spLErrorMore K U) := by
  obtain ⟨f, fd, hm, F⟩ := g
  refine ⟨f, fd, hm, F.kp, F.bindsN (fun _ _ _ _ _ _ us hl => match us, hl with | [_, _], _ => rfl), fn_ofP F scLErrorMore (fun a c d vs H Q E h => ?_) fun cdv A outer s H vs Q E a oe c d hz hf hr h => ?_⟩
  · obtain ⟨_, _, _, _, _, _, _, rfl, _⟩ := h
    rfl
  · obtain ⟨dd, l, fs, v, e, rfl, rfl, rfl, h1, h2, h3, q⟩ := h
    exact ⟨tLErrorMore K mg U a dd, derLErrorMore hB xf hz hf, readLErrorMore xf h1 h2 h3 q⟩
theorem okLError (hB : Blt mg) (xf : XF K mg U T0 fI) (hMore : KpE P w K mg base 1 "_law_error_more" ["_law_e", "_law_found"] (spLErrorMore K U)) (g : Gd K mg "_law_error" "_law_error" sLError) : KpE P w K mg base 2 "_law_error" ["_law_e"] (spLError K U) := by
  obtain ⟨f, fd, hm, F⟩ := g
  obtain ⟨fm, fdm, hmm, hkm, hbm, FM⟩ := hMore
  refine ⟨f, fd, hm, F.kp, F.bindsN (fun _ _ _ _ _ _ us hl => match us, hl with | [_], _ => rfl), fn_ofP F scLError (fun a c d vs H Q E h => ?_) fun cdv A outer s H vs Q E a oe c d hz hf hr h => ?_⟩
  · obtain ⟨_, _, _, _, rfl, _⟩ := h
    rfl
  · obtain ⟨dd, x, rfl, rfl, rfl, h1, q⟩ := h
    exact ⟨tLError K mg U a dd, derLError hB xf FM hmm hkm hbm hz hf hr, readLError xf h1 q⟩
theorem okLRefused (hB : Blt mg) (xf : XF K mg U T0 fI) (hLift : KpX P w K mg base 3 "lift_way" ["piece", "way"] (spLiftWayX K U)) (hErr : KpE P w K mg base 2 "_law_error" ["_law_e"] (spLError K U)) (g : Gd K mg "_law_refused" "_law_refused" sLRefused) : Kp P w K mg base 6 "_law_refused" ["_law_piece_here", "_law_way"] (spLRefused K) := by
  obtain ⟨fe, fde, hme, hke, hbe, FE⟩ := hErr
  refine kp_of g scLRefused (fun _ _ _ _ _ _ us hl => match us, hl with | [_, _], _ => rfl) (fun vs H Q E h => ?_) fun cdv f A outer s H vs Q E hr h => ⟨tLRefused K U T0, derLRefused hB xf hLift FE hme hke hbe (hr.mono (by decide)), readLRefused xf h⟩
  obtain ⟨_, _, hd, _⟩ := h
  exact dp_len hd
end
end Tb
set_option Elab.async false
set_option linter.all false
set_option maxRecDepth 100000
set_option maxHeartbeats 4000000
/-! The head: what the module's top leaves, printed by gen_head2.py. -/
namespace Tb
open PySem PySem.Spec PyProof.Rows L2 Evl
def dCheckNumber : He.DefD := ⟨("check_number", none), "check_number", "check_number", defArgs sCheckNumber, defBody sCheckNumber, defScope sCheckNumber, [], []⟩
def dArrowsReaches : He.DefD := ⟨("arrows_reaches", none), "arrows", "arrows", defArgs sArrowsReaches, defBody sArrowsReaches, defScope sArrowsReaches, [], []⟩
def dManyAt : He.DefD := ⟨("many_at", none), "many_at", "many_at", defArgs sManyAt, defBody sManyAt, defScope sManyAt, [], []⟩
def dDues : He.DefD := ⟨("dues", none), "dues", "dues", defArgs sDues, defBody sDues, defScope sDues, [], []⟩
def dArrowsShapes : He.DefD := ⟨("arrows_shapes", none), "arrows", "arrows", defArgs sArrowsShapes, defBody sArrowsShapes, defScope sArrowsShapes, [], []⟩
def dWalkerCounts : He.DefD := ⟨("walker_counts", none), "walker_counts", "walker_counts", defArgs sWalkerCounts, defBody sWalkerCounts, defScope sWalkerCounts, [], []⟩
def dWaysOut : He.DefD := ⟨("ways_out", none), "ways_out", "ways_out", defArgs sWaysOut, defBody sWaysOut, defScope sWaysOut, [], []⟩
def dCheckLit : He.DefD := ⟨("check_lit", none), "check_lit", "check_lit", defArgs sCheckLit, defBody sCheckLit, defScope sCheckLit, [], []⟩
def dLitReach : He.DefD := ⟨("lit_reach", none), "lit_reach", "lit_reach", defArgs sLitReach, defBody sLitReach, defScope sLitReach, [], []⟩
def dPointings : He.DefD := ⟨("pointings", none), "pointings", "pointings", defArgs sPointings, defBody sPointings, defScope sPointings, [], []⟩
def dShifts : He.DefD := ⟨("shifts", none), "shifts", "shifts", defArgs sShifts, defBody sShifts, defScope sShifts, [], []⟩
def dLitSets : He.DefD := ⟨("lit_sets", none), "lit_sets", "lit_sets", defArgs sLitSets, defBody sLitSets, defScope sLitSets, [], []⟩
def dBehaviour : He.DefD := ⟨("behaviour", none), "behaviour", "behaviour", defArgs sBehaviour, defBody sBehaviour, defScope sBehaviour, [], []⟩
def dCheckBorders : He.DefD := ⟨("check_borders", none), "check_borders", "check_borders", defArgs sCheckBorders, defBody sCheckBorders, defScope sCheckBorders, [], []⟩
def dAreAlike : He.DefD := ⟨("are_alike", none), "are_alike", "are_alike", defArgs sAreAlike, defBody sAreAlike, defScope sAreAlike, [], []⟩
def dLiftWay : He.DefD := ⟨("lift_way", none), "lift_way", "lift_way", defArgs sLiftWay, defBody sLiftWay, defScope sLiftWay, [], []⟩
def dNeedlessWay : He.DefD := ⟨("needless_way", none), "needless_way", "needless_way", defArgs sNeedlessWay, defBody sNeedlessWay, defScope sNeedlessWay, [], []⟩
def dTrim : He.DefD := ⟨("trim", none), "trim", "trim", defArgs sTrim, defBody sTrim, defScope sTrim, [], []⟩
def dLStore : He.DefD := ⟨("_law_store", none), "_law_store", "_law_store", defArgs sLStore, defBody sLStore, defScope sLStore, [], []⟩
def dLTake : He.DefD := ⟨("_law_take", none), "_law_take", "_law_take", defArgs sLTake, defBody sLTake, defScope sLTake, [], []⟩
def dLRange : He.DefD := ⟨("_law_range", none), "_law_range", "_law_range", defArgs sLRange, defBody sLRange, defScope sLRange, [], []⟩
def dLUpto : He.DefD := ⟨("_law_upto", none), "_law_upto", "_law_upto", defArgs sLUpto, defBody sLUpto, defScope sLUpto, [], []⟩
def dLSeldom : He.DefD := ⟨("_law_seldom", none), "_law_seldom", "_law_seldom", defArgs sLSeldom, defBody sLSeldom, defScope sLSeldom, [], []⟩
def dLOne : He.DefD := ⟨("_law_one", none), "_law_one", "_law_one", defArgs sLOne, defBody sLOne, defScope sLOne, [], []⟩
def dLSome : He.DefD := ⟨("_law_some", none), "_law_some", "_law_some", defArgs sLSome, defBody sLSome, defScope sLSome, [], []⟩
def dLName : He.DefD := ⟨("_law_name", none), "_law_name", "_law_name", defArgs sLName, defBody sLName, defScope sLName, [], []⟩
def dLNewName : He.DefD := ⟨("_law_new_name", none), "_law_new_name", "_law_new_name", defArgs sLNewName, defBody sLNewName, defScope sLNewName, [], []⟩
def dLWeb : He.DefD := ⟨("_law_web", none), "_law_web", "_law_web", defArgs sLWeb, defBody sLWeb, defScope sLWeb, [], []⟩
def dLHeads : He.DefD := ⟨("_law_heads", none), "_law_heads", "_law_heads", defArgs sLHeads, defBody sLHeads, defScope sLHeads, [], []⟩
def dLBuild : He.DefD := ⟨("_law_build", none), "_law_build", "_law_build", defArgs sLBuild, defBody sLBuild, defScope sLBuild, [], []⟩
def dLTail : He.DefD := ⟨("_law_tail", none), "_law_tail", "_law_tail", defArgs sLTail, defBody sLTail, defScope sLTail, [], []⟩
def dLLinks : He.DefD := ⟨("_law_links", none), "_law_links", "_law_links", defArgs sLLinks, defBody sLLinks, defScope sLLinks, [], []⟩
def dLPlain : He.DefD := ⟨("_law_plain", none), "_law_plain", "_law_plain", defArgs sLPlain, defBody sLPlain, defScope sLPlain, [], []⟩
def dLCounts : He.DefD := ⟨("_law_counts", none), "_law_counts", "_law_counts", defArgs sLCounts, defBody sLCounts, defScope sLCounts, [], []⟩
def dLDueRow : He.DefD := ⟨("_law_due_row", none), "_law_due_row", "_law_due_row", defArgs sLDueRow, defBody sLDueRow, defScope sLDueRow, [], []⟩
def dLCome : He.DefD := ⟨("_law_come", none), "_law_come", "_law_come", defArgs sLCome, defBody sLCome, defScope sLCome, [], []⟩
def dLError : He.DefD := ⟨("_law_error", none), "_law_error", "_law_error", defArgs sLError, defBody sLError, defScope sLError, [], []⟩
def dLErrorMore : He.DefD := ⟨("_law_error_more", none), "_law_error_more", "_law_error_more", defArgs sLErrorMore, defBody sLErrorMore, defScope sLErrorMore, [], []⟩
def dLPiece : He.DefD := ⟨("_law_piece", none), "_law_piece", "_law_piece", defArgs sLPiece, defBody sLPiece, defScope sLPiece, [], []⟩
def dLLoadRow : He.DefD := ⟨("_law_load_row", none), "_law_load_row", "_law_load_row", defArgs sLLoadRow, defBody sLLoadRow, defScope sLLoadRow, [], []⟩
def dLFlooded : He.DefD := ⟨("_law_flooded", none), "_law_flooded", "_law_flooded", defArgs sLFlooded, defBody sLFlooded, defScope sLFlooded, [], []⟩
def dLShiftRows : He.DefD := ⟨("_law_shift_rows", none), "_law_shift_rows", "_law_shift_rows", defArgs sLShiftRows, defBody sLShiftRows, defScope sLShiftRows, [], []⟩
def dLEqual : He.DefD := ⟨("_law_equal", none), "_law_equal", "_law_equal", defArgs sLEqual, defBody sLEqual, defScope sLEqual, [], []⟩
def dLLifted : He.DefD := ⟨("_law_lifted", none), "_law_lifted", "_law_lifted", defArgs sLLifted, defBody sLLifted, defScope sLLifted, [], []⟩
def dLBehaviourRow : He.DefD := ⟨("_law_behaviour_row", none), "_law_behaviour_row", "_law_behaviour_row", defArgs sLBehaviourRow, defBody sLBehaviourRow, defScope sLBehaviourRow, [], []⟩
def dLIdleWay : He.DefD := ⟨("_law_idle_way", none), "_law_idle_way", "_law_idle_way", defArgs sLIdleWay, defBody sLIdleWay, defScope sLIdleWay, [], []⟩
def dLTrimmed : He.DefD := ⟨("_law_trimmed", none), "_law_trimmed", "_law_trimmed", defArgs sLTrimmed, defBody sLTrimmed, defScope sLTrimmed, [], []⟩
def dLRefused : He.DefD := ⟨("_law_refused", none), "_law_refused", "_law_refused", defArgs sLRefused, defBody sLRefused, defScope sLRefused, [], []⟩
def dLaw : He.DefD := ⟨("law", none), "law", "law", defArgs sLaw, defBody sLaw, defScope sLaw, [], []⟩
def dUInit : He.DefD := ⟨("Unknown", some "__init__"), "__init__", "Unknown.__init__", defArgs sUInit, defBody sUInit, defScope sUInit, [], []⟩
def fn : List He.DefD := [dCheckNumber, dArrowsReaches, dManyAt, dDues, dArrowsShapes, dWalkerCounts, dWaysOut, dCheckLit, dLitReach, dPointings, dShifts, dLitSets, dBehaviour, dCheckBorders, dAreAlike, dLiftWay, dNeedlessWay, dTrim, dLStore, dLTake, dLRange, dLUpto, dLSeldom, dLOne, dLSome, dLName, dLNewName, dLWeb, dLHeads, dLBuild, dLTail, dLLinks, dLPlain, dLCounts, dLDueRow, dLCome, dLError, dLErrorMore, dLPiece, dLLoadRow, dLFlooded, dLShiftRows, dLEqual, dLLifted, dLBehaviourRow, dLIdleWay, dLTrimmed, dLRefused, dLaw, dUInit]
def fa : List He.Fa := [.glo "check_number", .glo "arrows_reaches", .glo "many_at", .glo "dues", .glo "arrows_shapes", .glo "walker_counts", .glo "ways_out", .glo "check_lit", .glo "lit_reach", .glo "pointings", .glo "shifts", .glo "lit_sets", .glo "behaviour", .glo "check_borders", .glo "are_alike", .glo "lift_way", .glo "needless_way", .glo "trim", .glo "_law_store", .glo "_law_take", .glo "_law_range", .glo "_law_upto", .glo "_law_seldom", .glo "_law_one", .glo "_law_some", .glo "_law_name", .glo "_law_new_name", .glo "_law_web", .glo "_law_heads", .glo "_law_build", .glo "_law_tail", .glo "_law_links", .glo "_law_plain", .glo "_law_counts", .glo "_law_due_row", .glo "_law_come", .glo "_law_error", .glo "_law_error_more", .glo "_law_piece", .glo "_law_load_row", .glo "_law_flooded", .glo "_law_shift_rows", .glo "_law_equal", .glo "_law_lifted", .glo "_law_behaviour_row", .glo "_law_idle_way", .glo "_law_trimmed", .glo "_law_refused", .glo "law", .glo "TurnError", .glo "BadName", .glo "BadNumber", .glo "BadSize", .glo "Repeated", .glo "Unknown", .glo "BadEnd", .glo "NoWalker", .glo "Occupied", .glo "Unlike", .glo "Named", .glo "TooLarge", .glo "NoDeed", .glo "BadText", .glo "NoRun", .glo "NothingLeft", .glo "BadClaim", .glo "BadRow", .free "isinstance", .free "bool", .free "int", .free "zip", .free "len", .free "tuple", .free "list", .free "all", .free "sorted", .free "enumerate", .free "range", .free "max", .free "min", .free "sum", .free "str", .free "ValueError", .noat "Unknown" "what", .noat "Unknown" "name", .exm "Unknown" "TurnError" true]
/-- an own class of ValueError's, its instances made with own fields -/
def oexB (K : PySem.W.Frag) (C : Addr) : Bool := match K.lookup C with
  | some ⟨.type "type", _, .cls cd, sl⟩ => (match cd.mro, sl.toList with
    | .ref D :: bm, [_, _, _, _, some (.builtin n), _] => decide (D = C) && (decide (n = "ValueError.__new__") && (!cd.hasDel && (cd.hasDict && PySem.HandSPX.refsVE bm)))
    | _, _ => false)
  | _ => false
theorem oexB_ok {K : PySem.W.Frag} {C : Addr} (q : oexB K C = true) : ∃ nm qn N bs bm sn sub ab col dd k0 k1 k2 k3 k5, K.lookup C = some (excClassObj nm qn C N bs bm true sn sub ab col dd k0 k1 k2 k3 k5 "ValueError.__new__") ∧ PySem.HandSPX.refsVE bm = true := by
  unfold oexB at q
  split at q
  · rename_i x dd cd sl ho
    split at q
    · rename_i y z D bm k0 k1 k2 k3 n k5 em es
      obtain ⟨e1, q⟩ := He.ba q
      obtain ⟨e2, q⟩ := He.ba q
      obtain ⟨e3, q⟩ := He.ba q
      obtain ⟨e4, e5⟩ := He.ba q
      have h1 := of_decide_eq_true e1
      have h2 := of_decide_eq_true e2
      subst h1 h2
      obtain ⟨nm, bs, mro, ns, qn, hd, sn, sub, ab, col, del⟩ := cd
      obtain ⟨sl⟩ := sl
      dsimp only at em es e3 e4
      subst em es e4
      cases del with
      | true => cases e3
      | false => exact ⟨nm, qn, ns, bs, bm, sn, sub, ab, col, dd, k0, k1, k2, k3, k5, ho, e5⟩
    · cases q
  · cases q
/-- what more is asked of the class Unknown -/
def exL (K : PySem.W.Frag) (C : Addr) : List Bool := [oexB K C, xfB K C,
  decide (PySem.W.findIn K (.ref C) "__setattr__" = some (some (.builtin "object.__setattr__"))),
  decide (PySem.W.typeIn K (.ref C) = some (.type "type")),
  PySem.W.keepIn K (.ref C),
  decide (PySem.W.findIn K (.ref C) "__class__" = some (some (.builtin "object.__class__"))),
  decide (PySem.W.specialIn K (.builtin "object.__class__") "__get__" = some (some (.builtin "getset_descriptor.__get__"))),
  decide (PySem.W.takesIn K (.builtin "object.__class__") = some true),
  decide (PySem.W.mroIn K C (.type "object") = some true),
  decide (PySem.W.findIn K (.ref C) "__init__" = some (some (.ref (He.ma K C "__init__")))),
  decide (PySem.W.typeIn K (.ref (He.ma K C "__init__")) = some (.type "function")),
  decide (PySem.W.kitOne K (.ref C) (.type "ValueError") = some true),
  excNs.all fun n => decide (PySem.W.kitOne K (.ref C) (.ref (He.ga K n)) = some (decide (n = "Unknown" ∨ n = "TurnError")))]
def exB (K : PySem.W.Frag) : Bool := (exL K (He.ga K "Unknown")).all id
def obK (K : PySem.W.Frag) : He.AlD × Bool := (He.obsD fa fn K, exB K)
def obG (g : Addr → Option Obj) : He.AlD × Bool := obK (He.frG g (He.asD g 5))
def hk : PySem.W.Hook where
  α := He.AlD × Bool
  obs := fun s => obG s.heap.get?
  val := fun _ => (He.valD fn, true)
  says := fun _ h => ∃ K : PySem.W.Frag, K.In h ∧ He.SaysD fa fn K ∧ exB K = true
  of := fun _ _ e => ⟨_, He.frG_in, congrArg Prod.fst e, congrArg Prod.snd e⟩
  keeps := fun _ _ _ ⟨K, hK, c⟩ k => ⟨K, hK.keeps k, c⟩
abbrev R : PySem.W.OpenRow := PySem.W.OpenLaw.row PySem.Challenge.rw_turnbehind_k77_whole_trim
def ob (s : PySem.W.SharedT) : He.AlD × Bool := obG (HandSHeadRun.getT s)
theorem ob_eq (s : PySem.W.SharedT) : ob s = hk.obs s.abs := congrArg obG (funext (HandSHeadRun.getT_eq s))
def loose0 : List PySem.Str := ["TurnError", "BadName", "BadNumber", "BadSize", "Repeated", "Unknown", "BadEnd", "NoWalker", "Occupied", "Unlike", "Named", "TooLarge", "NoDeed", "BadText", "NoRun", "NothingLeft", "BadClaim", "BadRow", "check_number", "arrows", "arrows_reaches", "many_at", "dues", "arrows_shapes", "walker_counts", "ways_out", "check_lit", "lit_reach", "pointings", "shifts"]
def loose1 : List PySem.Str := ["lit_sets", "behaviour", "check_borders", "are_alike", "lift_way", "needless_way", "trim", "_law_store", "_law_take", "_law_range", "_law_upto", "_law_seldom", "_law_one", "_law_some", "_law_name", "_law_new_name", "_law_web", "_law_heads", "_law_build", "_law_tail", "_law_links", "_law_plain", "_law_counts", "_law_due_row", "_law_come", "_law_error", "_law_error_more", "_law_piece", "_law_load_row", "_law_flooded"]
def loose2 : List PySem.Str := ["_law_shift_rows", "_law_equal", "_law_lifted", "_law_behaviour_row", "_law_idle_way", "_law_trimmed", "_law_refused"]
def loose : List PySem.Str := loose0 ++ loose1 ++ loose2
theorem run (w : World) : HandSHeadRun.RunEq R (PySem.W.view R.prog [74]) hk ob 8000 loose w := by
  intro os
  kernel_rfl
end Tb
set_option Elab.async false
set_option linter.all false
set_option maxRecDepth 100000
set_option maxHeartbeats 4000000
/-! The facts, and the end. -/
namespace Tb
open PySem PySem.Spec PyProof.Rows L2 Evl
section
variable {K : PySem.W.Frag} {h : Heap} {mg : Str → Option Value}
theorem bltOf (X : K.In h) (G : h.Ns mainGlobals mg) (c : He.SaysD fa fn K) : Blt mg where
  isinstance_ := He.free_ok X G (c.fact 67 (f := .free "isinstance") rfl)
  bool_ := He.free_ok X G (c.fact 68 (f := .free "bool") rfl)
  int_ := He.free_ok X G (c.fact 69 (f := .free "int") rfl)
  zip_ := He.free_ok X G (c.fact 70 (f := .free "zip") rfl)
  len_ := He.free_ok X G (c.fact 71 (f := .free "len") rfl)
  tuple_ := He.free_ok X G (c.fact 72 (f := .free "tuple") rfl)
  list_ := He.free_ok X G (c.fact 73 (f := .free "list") rfl)
  all_ := He.free_ok X G (c.fact 74 (f := .free "all") rfl)
  sorted_ := He.free_ok X G (c.fact 75 (f := .free "sorted") rfl)
  enumerate_ := He.free_ok X G (c.fact 76 (f := .free "enumerate") rfl)
  range_ := He.free_ok X G (c.fact 77 (f := .free "range") rfl)
  max_ := He.free_ok X G (c.fact 78 (f := .free "max") rfl)
  min_ := He.free_ok X G (c.fact 79 (f := .free "min") rfl)
  sum_ := He.free_ok X G (c.fact 80 (f := .free "sum") rfl)
  str_ := He.free_ok X G (c.fact 81 (f := .free "str") rfl)
theorem isOf (X : K.In h) (G : h.Ns mainGlobals mg) (c : He.SaysD fa fn K) (e : exB K = true) : ∀ n ∈ excNs, ∃ C, mg n = some (.ref C) ∧ PySem.W.kitOne K (.ref (He.ga K "Unknown")) (.ref C) = some (decide (n = "Unknown" ∨ n = "TurnError")) := by
  have ea : ∀ b ∈ exL K (He.ga K "Unknown"), b = true := fun b hb => List.all_eq_true.mp e b hb
  have e2 : ∀ n ∈ excNs, decide (PySem.W.kitOne K (.ref (He.ga K "Unknown")) (.ref (He.ga K n)) = some (decide (n = "Unknown" ∨ n = "TurnError"))) = true := List.all_eq_true.mp (ea _ (List.mem_of_getElem? (i := 12) rfl))
  have e1 : ∀ n ∈ excNs, mg n = some (.ref (He.ga K n)) := by
    intro n hn
    simp only [excNs, List.mem_cons, List.not_mem_nil, or_false] at hn
    rcases hn with rfl | rfl | rfl | rfl | rfl | rfl | rfl | rfl | rfl | rfl | rfl | rfl | rfl | rfl | rfl | rfl | rfl | rfl
    · exact He.glo_ok X G (c.fact 49 (f := .glo "TurnError") rfl)
    · exact He.glo_ok X G (c.fact 50 (f := .glo "BadName") rfl)
    · exact He.glo_ok X G (c.fact 51 (f := .glo "BadNumber") rfl)
    · exact He.glo_ok X G (c.fact 52 (f := .glo "BadSize") rfl)
    · exact He.glo_ok X G (c.fact 53 (f := .glo "Repeated") rfl)
    · exact He.glo_ok X G (c.fact 54 (f := .glo "Unknown") rfl)
    · exact He.glo_ok X G (c.fact 55 (f := .glo "BadEnd") rfl)
    · exact He.glo_ok X G (c.fact 56 (f := .glo "NoWalker") rfl)
    · exact He.glo_ok X G (c.fact 57 (f := .glo "Occupied") rfl)
    · exact He.glo_ok X G (c.fact 58 (f := .glo "Unlike") rfl)
    · exact He.glo_ok X G (c.fact 59 (f := .glo "Named") rfl)
    · exact He.glo_ok X G (c.fact 60 (f := .glo "TooLarge") rfl)
    · exact He.glo_ok X G (c.fact 61 (f := .glo "NoDeed") rfl)
    · exact He.glo_ok X G (c.fact 62 (f := .glo "BadText") rfl)
    · exact He.glo_ok X G (c.fact 63 (f := .glo "NoRun") rfl)
    · exact He.glo_ok X G (c.fact 64 (f := .glo "NothingLeft") rfl)
    · exact He.glo_ok X G (c.fact 65 (f := .glo "BadClaim") rfl)
    · exact He.glo_ok X G (c.fact 66 (f := .glo "BadRow") rfl)
  exact fun n hn => ⟨_, e1 n hn, of_decide_eq_true (e2 n hn)⟩
theorem xfOf (X : K.In h) (G : h.Ns mainGlobals mg) (c : He.SaysD fa fn K) (e : exB K = true) : XF K mg (He.ga K "Unknown") (He.ga K "TurnError") (He.ma K (He.ga K "Unknown") "__init__") := by
  have ea : ∀ b ∈ exL K (He.ga K "Unknown"), b = true := fun b hb => List.all_eq_true.mp e b hb
  have E : ∀ (i : Nat) {b : Bool}, (exL K (He.ga K "Unknown"))[i]? = some b → b = true := fun i b hb => ea b (List.mem_of_getElem? hb)
  have x := xfB_ok (E 1 rfl)
  exact
    { gU := He.glo_ok X G (c.fact 54 (f := .glo "Unknown") rfl)
      gT := He.glo_ok X G (c.fact 49 (f := .glo "TurnError") rfl)
      oex := ⟨oexB_ok (E 0 rfl), of_decide_eq_true (E 2 rfl), x.exC, of_decide_eq_true (E 3 rfl), E 4 rfl⟩
      xfc := x
      exc := ⟨x.ga, x.gg, x.exC, x.hdC, of_decide_eq_true (E 5 rfl), of_decide_eq_true (E 6 rfl), of_decide_eq_true (E 7 rfl), of_decide_eq_true (E 8 rfl)⟩
      noW := He.noat_ok (c.fact 83 (f := .noat "Unknown" "what") rfl)
      noN := He.noat_ok (c.fact 84 (f := .noat "Unknown" "name") rfl)
      iC := of_decide_eq_true (E 9 rfl)
      tI := of_decide_eq_true (E 10 rfl)
      fd := c.def_ 49 (d := dUInit) rfl
      exm := He.exm_ok (c.fact 85 (f := .exm "Unknown" "TurnError" true) rfl)
      is_ := isOf X G c e
      isV := of_decide_eq_true (E 11 rfl)
      vE := He.free_ok X G (c.fact 82 (f := .free "ValueError") rfl) }
theorem lawOk {P : Program} {w : World} {f : Addr} {fd : FuncData} (X : K.In h) (G : h.Ns mainGlobals mg) (c : He.SaysD fa fn K) (e : exB K = true) (F : FunD K "law" "law" (defArgs sLaw) (defBody sLaw) (defScope sLaw) [] [] f fd) (base : Heap) :
    FnOk P w K mg base CX0 8 f fd ["_law_script"] (spLaw K) := by
  have hB := bltOf X G c
  have xf := xfOf X G c e
  have hLStore := okLStore (P := P) (w := w) (base := base) hB  ⟨_, _, He.glo_ok X G (c.fact 18 (f := .glo "_law_store") rfl), (c.def_ 18 (d := dLStore) rfl).choose_spec⟩
  have hLTake := okLTake (P := P) (w := w) (base := base) hB  ⟨_, _, He.glo_ok X G (c.fact 19 (f := .glo "_law_take") rfl), (c.def_ 19 (d := dLTake) rfl).choose_spec⟩
  have hLRange := okLRange (P := P) (w := w) (base := base) hB hLTake ⟨_, _, He.glo_ok X G (c.fact 20 (f := .glo "_law_range") rfl), (c.def_ 20 (d := dLRange) rfl).choose_spec⟩
  have hLSeldom := okLSeldom (P := P) (w := w) (base := base) hB hLTake ⟨_, _, He.glo_ok X G (c.fact 22 (f := .glo "_law_seldom") rfl), (c.def_ 22 (d := dLSeldom) rfl).choose_spec⟩
  have hLUpto := okLUpto (P := P) (w := w) (base := base) hB hLTake hLRange ⟨_, _, He.glo_ok X G (c.fact 21 (f := .glo "_law_upto") rfl), (c.def_ 21 (d := dLUpto) rfl).choose_spec⟩
  have hLOne := okLOne (P := P) (w := w) (base := base) hB hLTake ⟨_, _, He.glo_ok X G (c.fact 23 (f := .glo "_law_one") rfl), (c.def_ 23 (d := dLOne) rfl).choose_spec⟩
  have hLName := okLName (P := P) (w := w) (base := base) hB hLTake hLOne hLRange ⟨_, _, He.glo_ok X G (c.fact 25 (f := .glo "_law_name") rfl), (c.def_ 25 (d := dLName) rfl).choose_spec⟩
  have hLNewName := okLNewName (P := P) (w := w) (base := base) hB hLName ⟨_, _, He.glo_ok X G (c.fact 26 (f := .glo "_law_new_name") rfl), (c.def_ 26 (d := dLNewName) rfl).choose_spec⟩
  have hLWeb := okLWeb (P := P) (w := w) (base := base) hB hLUpto hLNewName hLTake ⟨_, _, He.glo_ok X G (c.fact 27 (f := .glo "_law_web") rfl), (c.def_ 27 (d := dLWeb) rfl).choose_spec⟩
  have hLSome := okLSome (P := P) (w := w) (base := base) hB hLTake ⟨_, _, He.glo_ok X G (c.fact 24 (f := .glo "_law_some") rfl), (c.def_ 24 (d := dLSome) rfl).choose_spec⟩
  have hLHeads := okLHeads (P := P) (w := w) (base := base) hB hLTake ⟨_, _, He.glo_ok X G (c.fact 28 (f := .glo "_law_heads") rfl), (c.def_ 28 (d := dLHeads) rfl).choose_spec⟩
  have hLTail := okLTail (P := P) (w := w) (base := base) hB  ⟨_, _, He.glo_ok X G (c.fact 30 (f := .glo "_law_tail") rfl), (c.def_ 30 (d := dLTail) rfl).choose_spec⟩
  have hLLinks := okLLinks (P := P) (w := w) (base := base) hB hLTail ⟨_, _, He.glo_ok X G (c.fact 31 (f := .glo "_law_links") rfl), (c.def_ 31 (d := dLLinks) rfl).choose_spec⟩
  have hLBuild := okLBuild (P := P) (w := w) (base := base) hB  ⟨_, _, He.glo_ok X G (c.fact 29 (f := .glo "_law_build") rfl), (c.def_ 29 (d := dLBuild) rfl).choose_spec⟩
  have hLPiece := okLPiece (P := P) (w := w) (base := base) hB hLWeb hLNewName hLSome hLUpto hLOne hLHeads hLLinks hLBuild ⟨_, _, He.glo_ok X G (c.fact 38 (f := .glo "_law_piece") rfl), (c.def_ 38 (d := dLPiece) rfl).choose_spec⟩
  have hLCounts := okLCounts (P := P) (w := w) (base := base) hB  ⟨_, _, He.glo_ok X G (c.fact 33 (f := .glo "_law_counts") rfl), (c.def_ 33 (d := dLCounts) rfl).choose_spec⟩
  have hLCome := okLCome (P := P) (w := w) (base := base) hB hLTail ⟨_, _, He.glo_ok X G (c.fact 35 (f := .glo "_law_come") rfl), (c.def_ 35 (d := dLCome) rfl).choose_spec⟩
  have hLFlooded := okLFlooded (P := P) (w := w) (base := base) hB hLCounts hLCome ⟨_, _, He.glo_ok X G (c.fact 40 (f := .glo "_law_flooded") rfl), (c.def_ 40 (d := dLFlooded) rfl).choose_spec⟩
  have hLDueRow := okLDueRow (P := P) (w := w) (base := base) hB hLCounts hLTail ⟨_, _, He.glo_ok X G (c.fact 34 (f := .glo "_law_due_row") rfl), (c.def_ 34 (d := dLDueRow) rfl).choose_spec⟩
  have hLLoadRow := okLLoadRow (P := P) (w := w) (base := base) hB hLLinks ⟨_, _, He.glo_ok X G (c.fact 39 (f := .glo "_law_load_row") rfl), (c.def_ 39 (d := dLLoadRow) rfl).choose_spec⟩
  have hLShiftRows := okLShiftRows (P := P) (w := w) (base := base) hB hLFlooded hLDueRow hLLoadRow hLLinks ⟨_, _, He.glo_ok X G (c.fact 41 (f := .glo "_law_shift_rows") rfl), (c.def_ 41 (d := dLShiftRows) rfl).choose_spec⟩
  have hLBehaviourRow := okLBehaviourRow (P := P) (w := w) (base := base) hB hLShiftRows ⟨_, _, He.glo_ok X G (c.fact 44 (f := .glo "_law_behaviour_row") rfl), (c.def_ 44 (d := dLBehaviourRow) rfl).choose_spec⟩
  have hLPlain := okLPlain (P := P) (w := w) (base := base) hB  ⟨_, _, He.glo_ok X G (c.fact 32 (f := .glo "_law_plain") rfl), (c.def_ 32 (d := dLPlain) rfl).choose_spec⟩
  have hLLifted := okLLifted (P := P) (w := w) (base := base) hB hLLinks hLPlain hLBuild ⟨_, _, He.glo_ok X G (c.fact 43 (f := .glo "_law_lifted") rfl), (c.def_ 43 (d := dLLifted) rfl).choose_spec⟩
  have hLIdleWay := okLIdleWay (P := P) (w := w) (base := base) hB hLLifted hLBehaviourRow ⟨_, _, He.glo_ok X G (c.fact 45 (f := .glo "_law_idle_way") rfl), (c.def_ 45 (d := dLIdleWay) rfl).choose_spec⟩
  have hLTrimmed := okLTrimmed (P := P) (w := w) (base := base) hB hLBehaviourRow hLIdleWay hLLifted ⟨_, _, He.glo_ok X G (c.fact 46 (f := .glo "_law_trimmed") rfl), (c.def_ 46 (d := dLTrimmed) rfl).choose_spec⟩
  have hLitSets := okLitSets (P := P) (w := w) (base := base) hB  ⟨_, _, He.glo_ok X G (c.fact 11 (f := .glo "lit_sets") rfl), (c.def_ 11 (d := dLitSets) rfl).choose_spec⟩
  have hCheckNumber := okCheckNumber (P := P) (w := w) (base := base) hB  ⟨_, _, He.glo_ok X G (c.fact 0 (f := .glo "check_number") rfl), (c.def_ 0 (d := dCheckNumber) rfl).choose_spec⟩
  have hCheckLit := okCheckLit (P := P) (w := w) (base := base) hB hCheckNumber ⟨_, _, He.glo_ok X G (c.fact 7 (f := .glo "check_lit") rfl), (c.def_ 7 (d := dCheckLit) rfl).choose_spec⟩
  have hWalkerCounts := okWalkerCounts (P := P) (w := w) (base := base) hB  ⟨_, _, He.glo_ok X G (c.fact 5 (f := .glo "walker_counts") rfl), (c.def_ 5 (d := dWalkerCounts) rfl).choose_spec⟩
  have hArrowsShapes := okArrowsShapes (P := P) (w := w) (base := base) hB  ⟨_, _, He.glo_ok X G (c.fact 4 (f := .glo "arrows_shapes") rfl), (c.def_ 4 (d := dArrowsShapes) rfl).choose_spec⟩
  have hLitReach := okLitReach (P := P) (w := w) (base := base) hB hWalkerCounts hArrowsShapes ⟨_, _, He.glo_ok X G (c.fact 8 (f := .glo "lit_reach") rfl), (c.def_ 8 (d := dLitReach) rfl).choose_spec⟩
  have hArrowsReaches := okArrowsReaches (P := P) (w := w) (base := base) hB  ⟨_, _, He.glo_ok X G (c.fact 1 (f := .glo "arrows_reaches") rfl), (c.def_ 1 (d := dArrowsReaches) rfl).choose_spec⟩
  have hManyAt := okManyAt (P := P) (w := w) (base := base) hB  ⟨_, _, He.glo_ok X G (c.fact 2 (f := .glo "many_at") rfl), (c.def_ 2 (d := dManyAt) rfl).choose_spec⟩
  have hDues := okDues (P := P) (w := w) (base := base) hB hArrowsReaches hManyAt ⟨_, _, He.glo_ok X G (c.fact 3 (f := .glo "dues") rfl), (c.def_ 3 (d := dDues) rfl).choose_spec⟩
  have hWaysOut := okWaysOut (P := P) (w := w) (base := base) hB  ⟨_, _, He.glo_ok X G (c.fact 6 (f := .glo "ways_out") rfl), (c.def_ 6 (d := dWaysOut) rfl).choose_spec⟩
  have hPointings := okPointings (P := P) (w := w) (base := base) hB  ⟨_, _, He.glo_ok X G (c.fact 9 (f := .glo "pointings") rfl), (c.def_ 9 (d := dPointings) rfl).choose_spec⟩
  have hShifts := okShifts (P := P) (w := w) (base := base) hB hCheckLit hLitReach hDues hWaysOut hPointings ⟨_, _, He.glo_ok X G (c.fact 10 (f := .glo "shifts") rfl), (c.def_ 10 (d := dShifts) rfl).choose_spec⟩
  have hBehaviour := okBehaviour (P := P) (w := w) (base := base) hB hLitSets hShifts ⟨_, _, He.glo_ok X G (c.fact 12 (f := .glo "behaviour") rfl), (c.def_ 12 (d := dBehaviour) rfl).choose_spec⟩
  have hLiftWay := okLiftWay (P := P) (w := w) (base := base) hB  ⟨_, _, He.glo_ok X G (c.fact 15 (f := .glo "lift_way") rfl), (c.def_ 15 (d := dLiftWay) rfl).choose_spec⟩
  have hNeedlessWay := okNeedlessWay (P := P) (w := w) (base := base) hB hBehaviour hLiftWay ⟨_, _, He.glo_ok X G (c.fact 16 (f := .glo "needless_way") rfl), (c.def_ 16 (d := dNeedlessWay) rfl).choose_spec⟩
  have hTrim := okTrim (P := P) (w := w) (base := base) hB hNeedlessWay hLiftWay ⟨_, _, He.glo_ok X G (c.fact 17 (f := .glo "trim") rfl), (c.def_ 17 (d := dTrim) rfl).choose_spec⟩
  have hLEqual := okLEqual (P := P) (w := w) (base := base) hB  ⟨_, _, He.glo_ok X G (c.fact 42 (f := .glo "_law_equal") rfl), (c.def_ 42 (d := dLEqual) rfl).choose_spec⟩
  have hCheckBorders := okCheckBorders (P := P) (w := w) (base := base) hB  ⟨_, _, He.glo_ok X G (c.fact 13 (f := .glo "check_borders") rfl), (c.def_ 13 (d := dCheckBorders) rfl).choose_spec⟩
  have hAreAlike := okAreAlike (P := P) (w := w) (base := base) hB hCheckBorders hBehaviour ⟨_, _, He.glo_ok X G (c.fact 14 (f := .glo "are_alike") rfl), (c.def_ 14 (d := dAreAlike) rfl).choose_spec⟩
  have hLX : KpX P w K mg base 3 "lift_way" ["piece", "way"] (spLiftWayX K (He.ga K "Unknown")) := okLiftWayX hB xf ⟨_, _, He.glo_ok X G (c.fact 15 (f := .glo "lift_way") rfl), (c.def_ 15 (d := dLiftWay) rfl).choose_spec⟩
  have hEM := okLErrorMore (P := P) (w := w) (base := base) hB xf ⟨_, _, He.glo_ok X G (c.fact 37 (f := .glo "_law_error_more") rfl), (c.def_ 37 (d := dLErrorMore) rfl).choose_spec⟩
  have hEr := okLError hB xf hEM ⟨_, _, He.glo_ok X G (c.fact 36 (f := .glo "_law_error") rfl), (c.def_ 36 (d := dLError) rfl).choose_spec⟩
  have hLRefused := okLRefused hB xf hLX hEr ⟨_, _, He.glo_ok X G (c.fact 47 (f := .glo "_law_refused") rfl), (c.def_ 47 (d := dLRefused) rfl).choose_spec⟩
  exact F.ok scLaw (fun vs H Q E h => lenLaw h) fun cdv A outer s H vs Q E hr h => ⟨tLaw K, (derLaw hB hLStore hLRange hLSeldom hLPiece hLTrimmed hTrim hLEqual hAreAlike hLLifted hLiftWay hLTake hLBehaviourRow hLName hLOne hLRefused hr).nox, readLaw h⟩
theorem facts {P : Program} {w : World} {f : Addr} (X : K.In h) (G : h.Ns mainGlobals mg) (hfa : mg ("law" : Str) = some (.ref f)) (c : He.SaysD fa fn K) (e : exB K = true) :
    ∃ fd : FuncData, (∀ (s : Shared) (v : Value), BindsTo s fd ⟨[v], []⟩ [("_law_script", v)]) ∧ ∀ base : Heap, K.In base → base.Ns mainGlobals mg → FnOk P w K mg base CX0 8 f fd ["_law_script"] (spLaw K) := by
  obtain ⟨fd, F⟩ := c.def_ 48 (d := dLaw) rfl
  have q := hfa.symm.trans (He.glo_ok X G (c.fact 48 (f := .glo "law") rfl))
  cases q
  have b := FunD.bindsA (ps := ["_law_script"]) F fun _ _ _ _ _ _ us hl => match us, hl with | [_], _ => rfl
  exact ⟨fd, fun s v => b s [v] rfl, fun base _ _ => lawOk X G c e F base⟩
end
end Tb
open PySem PySem.W PySem.Calls PyProof.Rows
theorem PySem.Challenge.cw_turnbehind_k77_whole_trim_holds : PySem.Challenge.rw_turnbehind_k77_whole_trim.Holds := by
  w_on; o_law
  refine HandSHeadRun.head_any (r := OpenLaw.row PySem.Challenge.rw_turnbehind_k77_whole_trim) (q := view (OpenLaw.row PySem.Challenge.rw_turnbehind_k77_whole_trim).prog [74]) (H := Tb.hk) (ob := Tb.ob) (M := 8000) (loose := Tb.loose) (d := HandSHeadRun.topDef (OpenLaw.row PySem.Challenge.rw_turnbehind_k77_whole_trim).prog 74) (kwd := []) Tb.ob_eq
    (by kernel_rfl) (fun s => by kernel_rfl) Tb.run (by kernel_rfl) (by kernel_rfl) (by kernel_rfl) (by rfl) (by first | assumption | decide +kernel) (by decide +kernel) ⟨rfl, rfl, rfl, rfl, rfl, by decide +kernel⟩ ?hw ?hc
  case hw => w_witness2
  case hc =>
    refine L2.walk_ofE (l := PySem.Challenge.rw_turnbehind_k77_whole_trim) (n := 63) (k := 8) (x := "_law_script") (CX := L2.CX0) rfl (by decide) (by kernel_rfl) ⟨rfl, by decide, by decide⟩ ?F (fun _ _ _ _ z => z)
    intro w mg fa h Y G hmg0
    obtain ⟨K, KX, c, e⟩ := Y
    have hmg : mg ("law" : PySem.Str) = some (.ref fa) := by
      have e : (HandSHeadRun.topDef (OpenLaw.row PySem.Challenge.rw_turnbehind_k77_whole_trim).prog 74).name = ("law" : PySem.Str) := by kernel_rfl
      rw [← e]
      exact hmg0
    obtain ⟨fd, hb, hF⟩ := Tb.facts (P := (PySem.Challenge.rw_turnbehind_k77_whole_trim).prog) (w := w) KX G hmg c e
    exact ⟨K, fd, Tb.spLaw K, KX, hb, fun H a ns hl _ hS => ⟨a, ns, rfl, hS, hl, fun _ => rfl⟩, hF⟩

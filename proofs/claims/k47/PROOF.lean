import PyProof.Rows.All
import Wide.All
import OpenK.AllK
import Wide.FinOn
import HandS.ForMost
import HandS.TupSets
import HandS.IsInst
import HandS.Nested
import HandS.Zip
import HandS.OwnEq
import KE.SortData
import KE.KDictKeyed
import HandS.Walk
import PySem.Challenge.RW_wholecommits_k47_whole_transactions_apar
import HandS.TupAny
import HandS.TryOnly
import HandS.DictComp
import HandS.EndTab
set_option Elab.async false
set_option linter.all false
set_option maxRecDepth 100000
set_option maxHeartbeats 4000000
/-! K47, part A: sorted of whatever reads as data, from any thing that can be gathered -/
namespace L2.K47
open PySem PySem.Spec PyProof.Rows

/-- a value with the datum that it reads as -/
abbrev VD := V × PyData
abbrev leD (a b : VD) : Bool := PySem.W.dataLe false (fun z : VD => z.2) a b
/-- what the sorting asks of the data -/
structure DataOk (zs : List VD) : Prop where
  al : PySem.W.AllAlike (zs.map (·.2))
  so : PySem.W.Sortable (zs.map (·.2))
  dp : ∀ z ∈ zs, z.2.depth ≤ 8
  ln : zs.length ≤ sizeLine

theorem eachIs_vals : ∀ {zs : List VD} {vs : List Value}, Vals (zs.map (·.1)) vs → PySem.W.EachIs (fun v (z : VD) => RelV z.1 v) vs zs
  | [], _, r => by cases r; exact .nil
  | z :: zs, _, r => by
    rw [List.map_cons] at r
    cases r with
    | cons h t => exact .cons h (eachIs_vals t)
theorem vals_eachIs : ∀ {zs : List VD} {vs : List Value}, PySem.W.EachIs (fun v (z : VD) => RelV z.1 v) vs zs → Vals (zs.map (·.1)) vs
  | _, _, .nil => .nil
  | _, _, .cons h t => by
    rw [List.map_cons]
    exact .cons h (vals_eachIs t)
theorem leD_total : PySem.W.TotalLe leD := by
  have h := PySem.W.sortLe_total (PyProof.Rows.listOrd PyProof.Rows.itemOrd) false (fun z : VD => PySem.W.keyToks z.2)
  exact h

mutual
/-- what a datum is read off stands in the heap (no dicts) -/
theorem reads_lt {h : Heap} : ∀ (d : PyData) (v : Value) (as : List Addr), Reads h v d as → ∀ b ∈ as, b < h.objs.size
  | .none, _, _, r, b, hb => by cases r; cases hb
  | .bool _, _, _, r, b, hb => by cases r; cases hb
  | .int _, _, _, r, b, hb => by cases r; cases hb
  | .str _, _, _, r, b, hb => by cases r; cases hb
  | .list xs, _, _, r, b, hb => by
    cases r with
    | list h1 h2 h3 h4 =>
      rcases List.mem_cons.mp hb with e | hb
      · rw [e]; exact Heap.lt_size h1
      · exact readsAll_lt xs _ _ h4 b hb
  | .tuple xs, _, _, r, b, hb => by
    cases r with
    | tuple h1 h2 h3 h4 => exact readsAll_lt xs _ _ h4 b hb
  | .dict kvs, _, _, r, b, hb => by
    cases r with
    | dict h1 h2 h3 h4 h5 =>
      rcases List.mem_append.mp hb with hb | hb
      · rcases List.mem_cons.mp hb with e | hb
        · rw [e]; exact Heap.lt_size h1
        · exact readsFst_lt kvs _ _ h4 b hb
      · exact readsSnd_lt kvs _ _ h5 b hb
theorem readsAll_lt {h : Heap} : ∀ (ds : List PyData) (vs : List Value) (as : List Addr), ReadsAll h vs ds as → ∀ b ∈ as, b < h.objs.size
  | [], _, _, r, b, hb => by cases r; cases hb
  | d :: ds, _, _, r, b, hb => by
    cases r with
    | cons h1 h2 =>
      rcases List.mem_append.mp hb with hb | hb
      · exact reads_lt d _ _ h1 b hb
      · exact readsAll_lt ds _ _ h2 b hb
theorem readsFst_lt {h : Heap} : ∀ (kvs : List (PyData × PyData)) (vs : List Value) (as : List Addr), ReadsAll h vs (kvs.map (·.1)) as → ∀ b ∈ as, b < h.objs.size
  | [], _, _, r, b, hb => by cases r; cases hb
  | (d, _) :: ds, _, _, r, b, hb => by
    cases r with
    | cons h1 h2 =>
      rcases List.mem_append.mp hb with hb | hb
      · exact reads_lt d _ _ h1 b hb
      · exact readsFst_lt ds _ _ h2 b hb
theorem readsSnd_lt {h : Heap} : ∀ (kvs : List (PyData × PyData)) (vs : List Value) (as : List Addr), ReadsAll h vs (kvs.map (·.2)) as → ∀ b ∈ as, b < h.objs.size
  | [], _, _, r, b, hb => by cases r; cases hb
  | (_, d) :: ds, _, _, r, b, hb => by
    cases r with
    | cons h1 h2 =>
      rcases List.mem_append.mp hb with hb | hb
      · exact reads_lt d _ _ h1 b hb
      · exact readsSnd_lt ds _ _ h2 b hb
end

section
variable {X : Cx} {pins : List (Addr × Obj)} {σ : St} {H : Hp} {s : Shared} {Q : VK}
theorem reads_each (I : Inv X pins σ H s) : ∀ {zs : List VD} {vs : List Value}, Vals (zs.map (·.1)) vs → (∀ z ∈ zs, Dp X.K H z.1 z.2) → PySem.W.EachIs (fun v (z : VD) => ∃ as, Reads s.heap v z.2 as) vs zs
  | [], _, r, _ => by cases r; exact .nil
  | z :: zs, _, r, h => by
    rw [List.map_cons] at r
    cases r with
    | cons r1 r2 => exact .cons (Dp.reads I _ _ _ (h z List.mem_cons_self) r1) (reads_each I r2 fun y hy => h y (List.mem_cons_of_mem _ hy))

/-- what one wants of sorted: whatever row of zs in order comes, at a new list -/
abbrev SortedTo (H : Hp) (zs : List VD) (Q : VK) : Prop :=
  ∀ (ys : List VD) (p : Addr), ys.Perm zs → ys.Pairwise (fun a b => leD a b = true) → H p = none → Q (.ref p) (upd H p (.lst (ys.map (·.1))))

/-- sorted(x), where x is gathered into values that read as data -/
theorem sorted_by {x : Value} (hu : X.A.units + 40 < cLine)
    (hcol : wpAny (model X.prog X.w) X.A.in1 (collect x) (fun vs s1 => Inv X pins σ H s1 ∧ ∃ zs, Vals (zs.map (·.1)) vs ∧ (∀ z ∈ zs, Dp X.K H z.1 z.2) ∧ DataOk zs ∧ SortedTo H zs Q) X.xe s) :
    wpAny (model X.prog X.w) X.A (call (.builtin "sorted") [x]) (EP X pins σ Q) X.xe s := by
  refine Calls.call_function_entry PyProof.Rows.kind_sorted PyProof.Rows.plain_sorted PyProof.Rows.entry_sorted (PyProof.Rows.args_sorted1 _) ?_
  unfold Builtin.«sorted»
  refine wpAny_bind (m := checkCount "sorted" 1 1 _) (wpAny_pure ?_)
  refine wpAny_bind (thn hcol fun vs s1 ⟨I, zs, rv, hd, ok, q⟩ => ?_)
  have hl : vs.length = zs.length := by rw [← rv.length, List.length_map]
  refine wpAny_bind (wpAny_newList ?_ (by rw [hl]; exact ok.ln))
  have hoL : (s1.heap.push (seqObj "list" vs.toArray 0)).get? s1.heap.objs.size = some (seqObj "list" vs.toArray 0) := Heap.get?_push_size _ rfl
  have hnone : ∀ z ∈ zs, Dp X.K H z.1 z.2 := hd
  have er : PySem.W.EachIs (fun v (z : VD) => ∃ as, Reads (s1.heap.push (seqObj "list" vs.toArray 0)) v z.2 as ∧ s1.heap.objs.size ∉ as) vs zs := by
    have e0 := reads_each I rv hd
    refine PySem.W.EachIs.mono (fun v z ⟨as, h⟩ => ⟨as, PyProof.Rows.Reads.keeps (fun _ _ e => Heap.get?_push_of_some _ e) h, fun hm => ?_⟩) e0
    exact absurd (reads_lt _ _ _ h _ hm) (Nat.lt_irrefl _)
  refine wpAny_bind (wpAny_holding (PySem.W.list_sort_data (s := { s1 with heap := s1.heap.push (seqObj "list" vs.toArray 0) }) (R := fun v (z : VD) => RelV z.1 v) (enc := fun z : VD => z.2) hoL (eachIs_vals rv) er ok.al ok.so ok.ln (fun z hz => ?_) fun out ho eo => ?_))
  · have := ok.dp z hz
    show X.A.units + 1 + 1 + z.2.depth < cLine
    omega
  · obtain ⟨c, hc⟩ := PyProof.Rows.sortedHeap_at (vs := vs) (out := out.toArray) hoL
    have pm := List.mergeSort_perm zs leD
    have hn : H s1.heap.objs.size = none := I.hok.fresh (Nat.le_refl _)
    have hlen : ((zs.mergeSort leD).map (·.1)).length ≤ sizeLine := by rw [List.length_map, pm.length_eq]; exact ok.ln
    refine wpAny_pure ⟨_, rfl, .ref s1.heap.objs.size, upd H s1.heap.objs.size (.lst ((zs.mergeSort leD).map (·.1))), I.laid (t' := s1.toks) (fun b u e => ?_) (Nat.le_refl _)
      ⟨hlen, out, c, vals_eachIs eo, hc⟩, rfl, q _ _ pm (PySem.W.sort_pairwise leD_total zs) hn⟩
    have hb : b < s1.heap.objs.size := Heap.lt_size e
    rw [PyProof.Rows.sortedHeap_old (Nat.ne_of_lt hb) (by rw [PyProof.Rows.size_push']; exact Nat.lt_succ_of_lt hb)]
    exact Heap.get?_push_of_some _ e
end
end L2.K47
/-! K47, part B: set(xs) of a list, by what one addition does; sets of texts -/
namespace L2.K47
open PySem PySem.Spec PyProof.Rows

abbrev emptySet (w : World) : Obj := { cls := .type "set", dict := none, data := .set #[] 0 (.fresh 0 0 (!w.params.followText "set-order")) }

/-- one addition takes J from turn i to the next -/
def AddStep (P : Program) (w : World) (A : Around) (S : Addr) (items : Array Value) (J : Nat → Heap → Prop) : Prop :=
  ∀ (i : Nat) (v : Value) (s : Shared) (Q : Bool → Shared → Prop) (E : Value → Shared → Prop), items[i]? = some v → J i s.heap →
    (∀ b h' tk, s.toks ≤ tk → Heap.SameBut S s.heap h' → J (i + 1) h' → Q b { s with heap := h', toks := tk }) → wpAny (model P w) A (setAdd S v) Q E s

section
variable {P : Program} {w : World} {A : Around} {E : Value → Shared → Prop} {s : Shared}
theorem set_loop {I : Addr} {fp wr : List Addr} {G : Array GenState → Array GenState → Prop} {items : Array Value} {St : Nat → Shared → Prop} {R : Result → Shared → Prop} {J : Nat → Heap → Prop}
    (W : WalksS P w A.in1 I fp wr G items.size (fun i v => items[i]? = some v) St) (S : Addr) (hSf : S ∉ fp) (hstep : AddStep P w A.in1 S items J)
    (hJ : ∀ i h h', J i h → (∀ b o, b ∉ wr → h.get? b = some o → h'.get? b = some o) → J i h') :
    ∀ (k i : Nat) (s : Shared), items.size - i = k → i ≤ items.size → St i s → J i s.heap →
      (∀ s', Moved (S :: wr) G s s' → J items.size s'.heap → R (.ok (.ret .none)) s') →
      codeAny (model P w) A (.builtin "set.update.loop" ⟨[.ref S, .ref I], []⟩) R s := by
  have hsub : ∀ b ∈ wr, b ∈ S :: wr := fun b hb => List.mem_cons_of_mem _ hb
  intro k
  induction k with
  | zero =>
    intro i s hk hi hst hj hR
    have hin : i = items.size := by omega
    refine codeAny_builtin F.entry_set_update_loop ?_
    rw [Around.under_plainId F.plain_set_update_loop _]
    show wpAny _ A.in1 (pyNext (.ref I) >>= _) _ _ s
    rw [hin] at hst hj
    refine wpAny_bind (W.done s _ _ hst fun s' hm => ?_)
    show wpAny _ A.in1 (ret Value.none) _ _ s'
    exact wpAny_pure (hR s' (hm.mono hsub) (hJ _ _ _ hj hm.heap))
  | succ k ih =>
    intro i s hk hi hst hj hR
    have hlt : i < items.size := by omega
    refine codeAny_builtin F.entry_set_update_loop ?_
    rw [Around.under_plainId F.plain_set_update_loop _]
    show wpAny _ A.in1 (pyNext (.ref I) >>= _) _ _ s
    refine wpAny_bind (W.item i s _ _ hlt hst fun v s' hP hst' hm => ?_)
    show wpAny _ A.in1 (holding [v] (setAdd S v) >>= _) _ _ s'
    refine wpAny_bind (wpAny_holding (hstep i v s' _ _ hP (hJ _ _ _ hj hm.heap) fun b h' tk htk hsb hj' => ?_))
    refine wpAny_pure ⟨plainId_quiet F.plain_set_update_loop _, ih (i + 1) _ (by omega) hlt (W.frame _ s' _ _ hst' htk fun c hc o e => ?_) hj' fun s'' hm'' hj'' => ?_⟩
    · exact (hsb.2 c (fun h : c = S => hSf (by rw [← h]; exact hc))).trans e
    · exact hR s'' (Moved.trans W.gtrans ((hm.mono hsub).then_heap htk fun c o hc e => (hsb.2 c (fun h : c = S => hc (by rw [h]; exact List.mem_cons_self))).trans e) hm'') hj''

/-- set(xs), xs a list -/
theorem set_of_list {l : Addr} {items : Array Value} {J : Nat → Heap → Prop} {Q : Value → Shared → Prop} (hh : A.handled = none) (hl : s.heap.IsList l items)
    (h0 : ∀ h' : Heap, (∀ b o, s.heap.get? b = some o → h'.get? b = some o) → h'.get? s.heap.objs.size = some (emptySet w) → J 0 h')
    (hJ : ∀ i h h' (I : Addr), s.heap.objs.size < I → J i h → (∀ b o, b ≠ I → h.get? b = some o → h'.get? b = some o) → J i h') (hstep : AddStep P w A.in1.in1.in1 s.heap.objs.size items J)
    (h : ∀ (h' : Heap) (tk : Nat), J items.size h' → (∀ b o, s.heap.get? b = some o → h'.get? b = some o) → Q (.ref s.heap.objs.size) { s with heap := h', toks := tk }) :
    wpAny (model P w) A (call (.type "set") [.ref l]) Q E s := by
  obtain ⟨c, tl, hmro⟩ := F.called_set.mro
  have hmade := F.called_set.made
  have hsub := F.called_set.sub
  refine wpAny_call (codeAny_of_tree ?_)
  show wpAny _ _ (callAny (.type "set") _) _ _ _
  refine wpAny_pure ⟨Code.quiet_builtin _ (by decide +kernel), codeAny_builtin F.entry_type_call ?_⟩
  rw [Around.under_plain (weight_type_call_type "set" [.ref l] []) rfl]
  have h1 := F.called_set.notType
  have h2 := F.called_set.canCreate
  have hct := F.typeCall_set_1 (.ref l)
  repeat (any_goals (first | assumption | wp_step))
  refine codeAny_mono (code_set_led1 (.ref l) (E := E) (Q₁ := fun obj s₁ => obj = .ref s.heap.objs.size ∧ s₁ = { s with heap := s.heap.push (emptySet w) }) ⟨rfl, rfl⟩) fun r s₁ hr => ?_
  cases r with
  | error e => exact hr
  | ok fl =>
    cases fl with
    | ret obj =>
      obtain ⟨rfl, rfl⟩ := hr
      have hS : (s.heap.push (emptySet w)).get? s.heap.objs.size = some (emptySet w) := Heap.get?_push_size _ rfl
      have hT : Shared.TypeIs { s with heap := s.heap.push (emptySet w) } (.ref s.heap.objs.size) "set" := ⟨_, hS, rfl⟩
      have hli := F.called_set.init.lookup
      have hbi := F.called_set.init.bind (.ref s.heap.objs.size)
      repeat (any_goals (first | assumption | wp_step))
      refine codeAny_mono (codeAny_call_builtin (R := wants (fun r s₂ => r = .none ∧ ∃ h' tk, s₂ = { s with heap := h', toks := tk } ∧ J items.size h' ∧
          (∀ b o, s.heap.get? b = some o → h'.get? b = some o)) E) F.called_set.init.plain F.entry_set_init (check_set_init_1 hT ?_)) fun r₂ s₂ hr₂ => ?_
      · obtain ⟨ol, hol, hcl, nl, hdl⟩ := hl
        obtain ⟨ocls, odict, odata, oslots⟩ := ol
        simp only at hcl hdl
        subst hcl; subst hdl
        have hol' : (s.heap.push (emptySet w)).get? l = some { cls := .type "list", dict := odict, data := .seq items nl, slots := oslots } := Heap.get?_push_of_some _ hol
        have hsls := F.sub_list_set
        have hslf := F.sub_list_frozenset
        have hne : (Value.type "list" == Value.type "dict") = false := by decide
        have hl1 : (s.heap.push (emptySet w)).IsList l items := ⟨_, hol', rfl, nl, rfl⟩
        unfold Builtin.«set.__init__» noKeywords Builtin.Frozenset.updateFrom
        generalize hPI : pyIter = PI
        wp_walk
        subst hPI
        refine wpAny_pyIter_list hl1 ?_
        refine wpAny_bind (wpAny_runValue ?_)
        have hlS : l < s.heap.objs.size := Heap.lt_size hol
        have hh3 : A.in1.in1.in1.handled = none := by simp [hh]
        have hz1 : (s.heap.push (emptySet w)).objs.size = s.heap.objs.size + 1 := Heap.size_push ..
        have hneI : l ≠ (s.heap.push (emptySet w)).objs.size := by
          rw [Heap.size_push]; exact Nat.ne_of_lt (Nat.lt_succ_of_lt hlS)
        have hSf : s.heap.objs.size ∉ [(s.heap.push (emptySet w)).objs.size, l] := by
          rw [Heap.size_push]; simp only [List.mem_cons, List.mem_singleton, List.not_mem_nil, or_false, not_or]
          exact ⟨Nat.ne_of_lt (Nat.lt_succ_self _), Nat.ne_of_gt hlS⟩
        have kp : ∀ b o, s.heap.get? b = some o → ((s.heap.push (emptySet w)).push { cls := .type "list_iterator", data := .fields #[.ref l, .int 0 0] }).get? b = some o := fun b o e => Heap.get?_push_of_some _ (Heap.get?_push_of_some _ e)
        have hI2 : s.heap.objs.size < (s.heap.push (emptySet w)).objs.size := by rw [hz1]; exact Nat.lt_succ_self _
        have hb : ∀ (h' h'' : Heap) (i : Nat), J i h' → (∀ b o, b ∉ [(s.heap.push (emptySet w)).objs.size] → h'.get? b = some o → h''.get? b = some o) → J i h'' := fun h' h'' i j k =>
          hJ i h' h'' _ hI2 j fun b o hb e => k b o (by simpa using hb) e
        refine set_loop (A := A.in1.in1) (J := fun i h' => J i h' ∧ ∀ b o, s.heap.get? b = some o → h'.get? b = some o) ((Walks.list (A := A.in1.in1.in1) hh3 _ l hneI items).toS) s.heap.objs.size hSf (fun i v s' Q' E' hv hj q => ?_) (fun i h' h'' hj k => ?_) (items.size - 0) 0 _ (by omega) (Nat.zero_le _)
          ?hI ?hZ ?hR
        · refine hstep i v s' Q' E' hv hj.1 fun b h' tk htk hsb hj' => q b h' tk htk hsb ⟨hj', fun b o e => ?_⟩
          exact (hsb.2 b (Nat.ne_of_lt (Heap.lt_size e))).trans (hj.2 b o e)
        · refine ⟨hb _ _ i hj.1 k, fun b o e => k b o ?_ (hj.2 b o e)⟩
          intro hm
          rw [List.mem_singleton.mp hm] at e
          have := Heap.lt_size e
          rw [hz1] at this
          exact absurd (Nat.lt_of_succ_lt this) (Nat.lt_irrefl _)
        case hI => exact ⟨⟨_, Heap.get?_push_size _ rfl, rfl, rfl⟩, (hl1.push _)⟩
        case hZ => exact ⟨h0 _ kp (Heap.get?_push_of_some _ hS), kp⟩
        case hR =>
          intro s' hm hj
          obtain ⟨h', g2, d', tk', os'⟩ := s'
          have eg : g2 = s.gens := hm.gens
          have ed : d' = s.drawn := hm.drawn
          have eo : os' = s.os := hm.os
          subst eg; subst ed; subst eo
          show wpAny _ _ _ _ _ _
          refine wpAny_pure ?_
          show wpAny _ _ (ret Value.none) _ _ _
          exact wpAny_pure ⟨rfl, h', tk', rfl, hj.1, hj.2⟩
      · cases r₂ with
        | error e => exact hr₂
        | ok fl₂ =>
          cases fl₂ with
          | ret r =>
            obtain ⟨rfl, h', tk, rfl, hj, hk'⟩ := hr₂
            repeat (any_goals (first | assumption | wp_step))
            exact h _ _ hj hk'
          | _ => exact hr₂.elim
    | _ => exact hr.elim
end
end L2.K47
/-! K47, part B2: sets of texts: set(xs), sorted(set) -/
namespace L2.K47
open PySem PySem.Spec PyProof.Rows
section
variable {P : Program} {w : World} {A : Around} {E : Value → Shared → Prop} {s : Shared} {κ : Type} [DecidableEq κ] {knd : KeyKind P w κ} {a : Addr}
/-- an addition by the scan: found, or laid anew -/
theorem scan_add {k : κ} {x : Value} {o : Obj} {es : Array (Int × Value)} {ep : Nat} {t : SetTable} {Q : Bool → Shared → Prop} (hkey : knd.is k x = true) (hsc : x.scannable = true)
    (ho : s.heap.get? a = some o) (hex : o.ExactSet) (hd : o.data = .set es ep t) (hel : ElemsOf knd es.toList) (hb : es.size + 1 < scanBound) (hf : t.fits es.size = true) (hr : Ris t.place.toList) (hl : w.params.followText "set-order" = true ∨ t.led = true)
    (hin : (∃ e ∈ es.toList, knd.is k e.2 = true) → Q false s)
    (hout : (∀ e ∈ es.toList, knd.is k e.2 = false) → ∀ h' es' ep' t', Heap.SameBut a s.heap h' → h'.get? a = some { o with data := .set es' ep' t' } → es'.toList.Perm ((knd.hash k, x) :: es.toList) → t'.fits es'.size = true → Ris t'.place.toList →
      (w.params.followText "set-order" = true ∨ t'.led = true) → Q true { s with heap := h' }) :
    wpAny (model P w) A (setAddHashed a x (knd.hash k)) Q E s := by
  unfold setAddHashed setAddHashedIn
  refine wpAny_holding (wpAny_bind (wpAny_setState_of ho hd hf ?_))
  dsimp only
  rw [byScan_of hsc (by omega) hel]
  simp only [↓reduceIte]
  unfold setAddByScan
  refine wpAny_bind ?_
  refine wpAny_bind (wpAny_rule ?_)
  refine wpAny_bind (wpAny_setScan_of hkey ho hd hf hel ?_)
  cases hfi : List.findIdx? (fun e => knd.is k e.2) es.toList with
  | some j =>
    dsimp only
    obtain ⟨hj, pj, _⟩ := List.findIdx?_eq_some_iff_getElem.mp hfi
    exact wpAny_pure (wpAny_pure (hin ⟨es.toList[j], List.getElem_mem hj, pj⟩))
  | none =>
    dsimp only
    have hno : ∀ e ∈ es.toList, knd.is k e.2 = false := fun e he => by
      have c := List.findIdx?_eq_none_iff.mp hfi e he
      simpa using c
    have go := hout hno
    have hgw : ∀ (b : Bool) {s₁ : Shared} {Q' : Unit → Shared → Prop}, Q' () s₁ → wpAny (model P w) A (match b with | true => rule "set.scan.the-table-gave-way" | false => pure ()) Q' E s₁ :=
      fun b s₁ Q' q => by cases b <;> first | exact wpAny_pure q | exact wpAny_rule q
    have pm := layNew_perm t es (knd.hash k) x
    have hf1 := layNew_fits t es (knd.hash k) x
    have hr1 := layNew_ris t es (knd.hash k) x hr
    have hl1 := layNew_led t es (knd.hash k) x
    generalize layNew t es (knd.hash k) x = Z at pm hf1 hr1 hl1 ⊢
    obtain ⟨es1, t1, wasDummy, gave⟩ := Z
    dsimp only at pm hf1 hr1 hl1 ⊢
    rw [Array.toList_push] at pm
    have pc : es1.toList.Perm ((knd.hash k, x) :: es.toList) := pm.trans (List.perm_append_singleton _ _)
    have hsz : es1.size = es.size + 1 := by rw [← Array.length_toList, pc.length_eq, List.length_cons, Array.length_toList]
    have hb1 : es1.size < scanBound := by rw [hsz]; exact hb
    have hled : w.params.followText "set-order" = true ∨ t1.led = true := hl.imp id fun z => by rw [hl1]; exact z
    have tail : ∀ (t2 : SetTable) (wd : Bool) (g : Bool → Sem Unit), (∀ (b : Bool) (s₁ : Shared) (Q' : Unit → Shared → Prop), Q' () s₁ → wpAny (model P w) A (g b) Q' E s₁) → t2.fits es1.size = true → Ris t2.place.toList → (w.params.followText "set-order" = true ∨ t2.led = true) →
        ∀ (R : Option Bool → Shared → Prop), (∀ s', Q true s' → R (some true) s') → wpAny (model P w) A (do
          storeSet a es1 t2
          if (!wd && t2.tooFull) = true then do
              g (relayAll t2 es1 (SetTable.grown es1.size)).2.2
              storeSet a (relayAll t2 es1 (SetTable.grown es1.size)).1 (relayAll t2 es1 (SetTable.grown es1.size)).2.1
              pure (some true)
            else pure (some true)) R E s := by
      intro t2 wd g hg hf2 hr2 hl2 R hR
      refine wpAny_bind (wpAny_storeSet_of ho hd ?_ (fits_of_scanBound hb1))
      have ho1 := store_at (es' := es1) (t' := t2) ho hd
      have sb1 := Heap.SameBut.update s.heap a (Obj.putSet es1 t2)
      split
      · have pm3 := relayAll_perm t2 es1 (SetTable.grown es1.size)
        have hf3 := relayAll_fits t2 es1 (SetTable.grown es1.size)
        have hr3 := relayAll_ris t2 es1 (SetTable.grown es1.size)
        have hl3 := relayAll_led t2 es1 (SetTable.grown es1.size)
        generalize relayAll t2 es1 (SetTable.grown es1.size) = Z at pm3 hf3 hr3 hl3 ⊢
        obtain ⟨es2, t3, gave3⟩ := Z
        dsimp only at pm3 hf3 hr3 hl3 ⊢
        have hsz2 : es2.size = es1.size := by rw [← Array.length_toList, pm3.length_eq, Array.length_toList]
        refine wpAny_bind (hg _ _ _ ?_)
        refine wpAny_bind (wpAny_storeSet_of ho1 rfl ?_ (fits_of_scanBound (by rw [hsz2]; exact hb1)))
        have ho2 := store_at (es' := es2) (t' := t3) ho1 rfl
        exact wpAny_pure (hR _ (go _ es2 _ t3 (sb1.trans (Heap.SameBut.update _ a _)) ho2 (pm3.trans pc) hf3 hr3 (hl2.imp id fun z => by rw [hl3]; exact z)))
      · exact wpAny_pure (hR _ (go _ es1 _ t2 sb1 ho1 pc hf2 hr2 hl2))
    refine wpAny_bind (hgw _ ?_)
    split
    · refine wpAny_bind ?_
      rw [hashByValue_scannable 8 hsc]
      refine wpAny_pure ?_
      refine tail _ _ _ ?_ ?_ ?_ ?_ _ ?_
      · intro b s₁ Q' q; cases b <;> first | exact wpAny_pure q | exact wpAny_rule q
      · first | (split <;> first | exact hf1 | exact SetTable.fits_plain_off hf1) | exact hf1
      · first | (split <;> exact hr1) | exact hr1
      · first | (split <;> exact hled) | exact hled
      · intro s' q; dsimp only; exact wpAny_pure q
    · refine wpAny_bind (wpAny_pure ?_)
      simp only [↓reduceIte]
      refine tail _ _ _ ?_ hf1 hr1 hled _ ?_
      · intro b s₁ Q' q; cases b <;> first | exact wpAny_pure q | exact wpAny_rule q
      · intro s' q; dsimp only; exact wpAny_pure q

/-! ### a set of texts -/
def TSet (w : World) (h : Heap) (a : Addr) (ks : List Str) : Prop :=
  ∃ o es ep t, h.get? a = some o ∧ o.ExactSet ∧ o.data = .set es ep t ∧ StrsAre (es.toList.map (·.2)) ks ∧ (∀ e ∈ es.toList, ∃ x tk, e.2 = Value.str x tk ∧ e.1 = hashStr w x) ∧ ks.Nodup ∧ es.size < scanBound ∧ t.fits es.size = true ∧ Ris t.place.toList ∧
    (w.params.followText "set-order" = true ∨ t.led = true)
theorem TSet.at {h h' : Heap} {ks : List Str} (R : TSet w h a ks) (k : ∀ o, h.get? a = some o → h'.get? a = some o) : TSet w h' a ks := by
  obtain ⟨o, es, ep, t, ho, r⟩ := R
  exact ⟨o, es, ep, t, k o ho, r⟩
theorem TSet.fresh {h : Heap} (ho : h.get? a = some (emptySet w)) : TSet w h a [] :=
  ⟨_, #[], 0, _, ho, ⟨rfl, rfl, rfl⟩, rfl, .nil, (fun e he => by simp at he), List.nodup_nil, (by decide), (by rfl), List.Pairwise.nil, by
    show _ ∨ (!w.params.followText "set-order") = true
    cases w.params.followText "set-order"
    · exact .inr rfl
    · exact .inl rfl⟩
theorem strsAre_mem : ∀ {vs : List Value} {ks : List Str}, StrsAre vs ks → (∀ k, k ∈ ks → ∃ t, Value.str k t ∈ vs) ∧ ∀ k t, Value.str k t ∈ vs → k ∈ ks
  | _, _, .nil => ⟨fun k h => (by cases h), fun k t h => (by cases h)⟩
  | _, _, .cons y t r => by
    obtain ⟨h1, h2⟩ := strsAre_mem r
    refine ⟨fun k h => ?_, fun k t' h => ?_⟩
    · rcases List.mem_cons.mp h with e | h
      · exact ⟨t, by rw [e]; exact List.mem_cons_self⟩
      · obtain ⟨u, hu⟩ := h1 k h
        exact ⟨u, List.mem_cons_of_mem _ hu⟩
    · rcases List.mem_cons.mp h with e | h
      · injection e with e1 _
        rw [e1]; exact List.mem_cons_self
      · exact List.mem_cons_of_mem _ (h2 k t' h)
theorem strsAre_all : ∀ (vs : List Value), (∀ v ∈ vs, ∃ x t, v = Value.str x t) → ∃ ks, StrsAre vs ks
  | [], _ => ⟨[], .nil⟩
  | v :: vs, h => by
    obtain ⟨x, t, rfl⟩ := h v List.mem_cons_self
    obtain ⟨ks, r⟩ := strsAre_all vs fun u hu => h u (List.mem_cons_of_mem _ hu)
    exact ⟨x :: ks, .cons x t r⟩
/-- the text of a value -/
def txtOf : Value → Str
  | .str x _ => x
  | _ => ⟨#[]⟩
theorem strsAre_txt : ∀ {vs : List Value} {ks : List Str}, StrsAre vs ks → ks = vs.map txtOf
  | _, _, .nil => rfl
  | _, _, .cons y t r => by rw [List.map_cons, ← strsAre_txt r]; rfl

theorem TSet.add {ks : List Str} {x : Str} {tk : Tok} {Q : Bool → Shared → Prop} (R : TSet w s.heap a ks) (hb : ks.length + 1 < scanBound)
    (hin : x ∈ ks → Q false s) (hout : x ∉ ks → ∀ h' ks', Heap.SameBut a s.heap h' → TSet w h' a ks' → ks'.Perm (x :: ks) → Q true { s with heap := h' }) :
    wpAny (model P w) A (setAddHashed a (.str x tk) (hashStr w x)) Q E s := by
  obtain ⟨o, es, ep, t, ho, hex, hd, hs, hh, nd, hz, hf, hr, hl⟩ := R
  have hel : ElemsOf (PySem.strKind P w) es.toList := fun e he => by
    obtain ⟨y, t', h1, h2⟩ := hh e he
    exact ⟨⟨y, by rw [h1]; exact strKind_is P w y t', h2⟩, by rw [h1]; rfl⟩
  have hlen : es.size = ks.length := by
    have e := strsAre_txt hs
    have := congrArg List.length e
    rw [List.length_map, List.length_map, Array.length_toList] at this
    exact this.symm
  refine scan_add (knd := PySem.strKind P w) (k := x) (strKind_is P w x tk) rfl ho hex hd hel (by omega) hf hr hl (fun ⟨e, he, hk⟩ => ?_) fun hno h' es' ep' t' sb ho' pm hf' hr' hl' => ?_
  · obtain ⟨y, t', h1, _⟩ := hh e he
    rw [h1] at hk
    obtain ⟨t2, e2⟩ := Value.isStrOf_shape (x := x) (v := Value.str y t') hk
    injection e2 with e2 _
    exact hin ((strsAre_mem hs).2 x t' (by rw [← e2, ← h1]; exact List.mem_map.mpr ⟨e, he, rfl⟩))
  · have hx : x ∉ ks := fun hm => by
      obtain ⟨t2, h2⟩ := (strsAre_mem hs).1 x hm
      obtain ⟨e, he, ee⟩ := List.mem_map.mp h2
      have := hno e he
      rw [ee, strKind_is] at this
      cases this
    have hh' : ∀ e ∈ es'.toList, ∃ y t', e.2 = Value.str y t' ∧ e.1 = hashStr w y := fun e he => by
      rcases List.mem_cons.mp (pm.mem_iff.mp he) with z | z
      · rw [z]; exact ⟨x, tk, rfl, rfl⟩
      · exact hh e z
    obtain ⟨ks', hs'⟩ := strsAre_all (es'.toList.map (·.2)) fun v hv => by
      obtain ⟨e, he, ee⟩ := List.mem_map.mp hv
      obtain ⟨y, t', h1, _⟩ := hh' e he
      exact ⟨y, t', by rw [← ee]; exact h1⟩
    have pk : ks'.Perm (x :: ks) := by
      have q := (pm.map (·.2)).map txtOf
      rw [List.map_cons, List.map_cons, ← strsAre_txt hs', ← strsAre_txt hs] at q
      exact q
    have hsz : es'.size = es.size + 1 := by rw [← Array.length_toList, pm.length_eq, List.length_cons, Array.length_toList]
    exact hout hx h' ks' sb ⟨_, es', ep', t', ho', hex, rfl, hs', hh', pk.nodup_iff.mpr (List.nodup_cons.mpr ⟨hx, nd⟩), by omega, hf', hr', hl'⟩ pk
end
/-- the set of the texts ks (in the table's order) at a -/
def TSetO (w : World) (a : Addr) (ks : List Str) : HO := .ext fun h => TSet w h a ks
section
variable {X : Cx}
theorem tset_new {w : World} {P : Program} {H : Hp} {h : Heap} {a : Addr} {ks : List Str} (R : TSet w h a ks) : ObjOk P w H h a (TSetO w a ks) := by
  have ⟨o, _, _, _, ho, _⟩ := R
  exact ⟨R, ⟨o, ho⟩, fun h1 h2 p k => TSet.at p k⟩
/-- set(xs), xs a list of texts -/
theorem cr_setTexts (hc : X.calm = true) : CallR X (.type "set") (fun vs H Q => ∃ (l : Addr) (xs : List Str), vs = [V.ref l] ∧ SqL X.K H l (xs.map V.str) ∧ xs.length < 4000 ∧
    ∀ a ks, H a = none → ks.Nodup → (∀ k, k ∈ ks ↔ k ∈ xs) → Q (.ref a) (upd H a (TSetO X.w a ks))) := by
  intro pins s σ H vs us Q I r h
  obtain ⟨l, xs, rfl, hl, hlen, q⟩ := h
  rw [Vals.ref1 r]
  obtain ⟨its, rv, pl, hz⟩ := I.list hl
  have hn : H s.heap.objs.size = none := I.hok.fresh (Nat.le_refl _)
  have hS := rv.strs
  have hil : its.toArray.size = xs.length := by rw [List.size_toArray, ← rv.length, List.length_map]
  refine set_of_list (P := X.prog) (w := X.w) (I.ok.hd hc) pl.isList (J := fun i h' => ∃ ks, TSet X.w h' s.heap.objs.size ks ∧ (∀ k, k ∈ ks ↔ k ∈ xs.take i) ∧ ks.length ≤ i)
    (fun h' _ e => ⟨[], TSet.fresh e, fun k => by simp, Nat.le_refl _⟩) (fun i h h' I' hI ⟨ks, R, m, hl⟩ k => ⟨ks, R.at fun o e => k _ o (Nat.ne_of_lt hI) e, m, hl⟩) (fun i v s' Q' E' hv ⟨ks, R, m, hl⟩ go => ?_) fun h' tk ⟨ks, R, m, hl⟩ k => ?_
  · have hv' : its[i]? = some v := by simpa using hv
    have hi : i < xs.length := by
      rw [← hil, List.size_toArray]
      exact (List.getElem?_eq_some_iff.mp hv').1
    obtain ⟨u, hu, ru⟩ := rv.get (i := i) (x := V.str xs[i]) (by rw [List.getElem?_map, List.getElem?_eq_getElem hi]; rfl)
    rw [hv'] at hu
    cases hu
    obtain ⟨t, rfl⟩ := ru
    have ht : xs.take (i + 1) = xs.take i ++ [xs[i]] := by rw [List.take_succ, List.getElem?_eq_getElem hi]; rfl
    unfold setAdd
    refine wpAny_holding (wpAny_bind (wpAny_pyHash_str ?_))
    have hb : scanBound = 4096 := rfl
    refine TSet.add (s := { s' with toks := s'.toks + 1 }) R (by omega) (fun hm => ?_) fun hm h' ks' sb R' pm => ?_
    · refine go false s'.heap (s'.toks + 1) (Nat.le_succ _) (Heap.SameBut.refl _ _) ⟨ks, R, fun k => ?_, Nat.le_succ_of_le hl⟩
      rw [ht, List.mem_append, ← m k, List.mem_singleton]
      exact ⟨.inl, fun z => z.elim id fun e => by rw [e]; exact hm⟩
    · refine go true h' (s'.toks + 1) (Nat.le_succ _) sb ⟨ks', R', fun k => ?_, ?_⟩
      · rw [ht, List.mem_append, List.mem_singleton, pm.mem_iff, List.mem_cons, m k]
        exact Or.comm
      · rw [pm.length_eq, List.length_cons]; omega
  · have ⟨_, _, _, _, _, _, _, _, _, nd, _⟩ := R
    refine ⟨.ref s.heap.objs.size, upd H s.heap.objs.size (TSetO X.w s.heap.objs.size ks), I.laid (t' := tk) k (Nat.le_refl _) (tset_new R), rfl, q _ ks hn nd fun k => ?_⟩
    rw [m k, List.take_of_length_le (by rw [hil]; exact Nat.le_refl _)]

/-! ### sorted rows of texts -/
abbrev strD (k : Str) : VD := (V.str k, PyData.str k)
def Asc (ks : List Str) : Prop := ks.Pairwise fun a b => a.cps.toList ≤ b.cps.toList
def strOfD : PyData → Str
  | .str x => x
  | _ => ⟨#[]⟩
theorem strs_of_perm : ∀ (ys : List VD) (ks : List Str), ys.Perm (ks.map strD) → ∃ ks' : List Str, ys = ks'.map strD ∧ ks'.Perm ks := by
  intro ys ks pm
  have all : ∀ (l : List VD), (∀ z ∈ l, ∃ k, z = strD k) → ∃ ks' : List Str, l = ks'.map strD := by
    intro l
    induction l with
    | nil => intro _; exact ⟨[], rfl⟩
    | cons z l ih =>
      intro h
      obtain ⟨k, e⟩ := h z List.mem_cons_self
      obtain ⟨ks', e'⟩ := ih fun y hy => h y (List.mem_cons_of_mem _ hy)
      exact ⟨k :: ks', by rw [List.map_cons, e, e']⟩
  obtain ⟨ks', e⟩ := all ys fun z hz => by
    obtain ⟨k, _, e⟩ := List.mem_map.mp (pm.mem_iff.mp hz)
    exact ⟨k, e.symm⟩
  refine ⟨ks', e, ?_⟩
  have q := pm.map (fun z : VD => strOfD z.2)
  rw [e, List.map_map, List.map_map] at q
  have f : ∀ l : List Str, l.map ((fun z : VD => strOfD z.2) ∘ strD) = l := fun l => by
    induction l with
    | nil => rfl
    | cons x l ih => rw [List.map_cons, ih]; rfl
  rw [f, f] at q
  exact q
theorem strs_dataOk (ks : List Str) (hl : ks.length ≤ sizeLine) : DataOk (ks.map strD) where
  al := by
    intro d hd d' hd'
    rw [List.map_map] at hd hd'
    obtain ⟨_, _, rfl⟩ := List.mem_map.mp hd
    obtain ⟨_, _, rfl⟩ := List.mem_map.mp hd'
    rfl
  so := .inr fun d hd => by
    rw [List.map_map] at hd
    obtain ⟨_, _, rfl⟩ := List.mem_map.mp hd
    exact ⟨(by intro e; cases e), fun xs e => by cases e⟩
  dp := fun z hz => by
    obtain ⟨_, _, rfl⟩ := List.mem_map.mp hz
    exact Nat.zero_le _
  ln := by rw [List.length_map]; exact hl
/-- sorted: a new list of the texts, ascending -/
abbrev SortedS (H : Hp) (ks : List Str) (Q : VK) : Prop := ∀ (ys : List Str) (p : Addr), ys.Perm ks → Asc ys → H p = none → Q (.ref p) (upd H p (.lst (ys.map V.str)))
theorem SortedS.to {H : Hp} {ks : List Str} {Q : VK} (q : SortedS H ks Q) : SortedTo H (ks.map strD) Q := by
  intro ys p pm pw hp
  obtain ⟨ks', rfl, pk⟩ := strs_of_perm ys ks pm
  have h := q ks' p pk ?_ hp
  · rw [List.map_map]
    exact h
  · refine List.Pairwise.imp (fun {a b} h => ?_) (List.pairwise_map.mp pw)
    have h' : (!PySem.W.dataLt (.str b) (.str a)) = true := h
    rw [PySem.W.dataLt_str, Bool.not_eq_true', decide_eq_false_iff_not] at h'
    exact List.not_lt.mp h'
theorem dp_strs {K : PySem.W.Frag} {H : Hp} (ks : List Str) : ∀ z ∈ ks.map strD, Dp K H z.1 z.2 := fun z hz => by
  obtain ⟨k, _, rfl⟩ := List.mem_map.mp hz
  exact .str k
theorem vals_strD {ks : List Str} {vs : List Value} (h : Vals (ks.map V.str) vs) : Vals ((ks.map strD).map (·.1)) vs := by
  rw [List.map_map]
  exact h

/-- sorted(xs), xs a list of texts -/
theorem cr_sortTexts (hu : X.A.units + 64 < cLine) : CallR X (.builtin "sorted") (fun vs H Q => ∃ (a : Addr) (ks : List Str), vs = [V.ref a] ∧ SqL X.K H a (ks.map V.str) ∧ SortedS H ks Q) := by
  intro pins s σ H vs us Q I r h
  obtain ⟨a, ks, rfl, hl, q⟩ := h
  rw [Vals.ref1 r]
  obtain ⟨its, rv, pl, hz⟩ := I.list hl
  rw [List.length_map] at hz
  have hlen := rv.length
  rw [List.length_map] at hlen
  refine sorted_by (H := H) (by omega) ?_
  refine PyProof.Rows.collect_list pl.isList ⟨?_, ks.map strD, vals_strD rv, dp_strs ks, strs_dataOk ks hz, q.to⟩ (by rw [← hlen]; exact hz)
  refine I.kept (t' := s.toks) fun b o e => ?_
  rw [Heap.get?_update_other _ _ (Nat.ne_of_gt (Heap.lt_size e))]
  exact Heap.get?_push_of_some _ e
/-- sorted(d), d a dict of text keys -/
theorem cr_sortDict (hc : X.calm = true) (hu : X.A.units + 64 < cLine) : CallR X (.builtin "sorted") (fun vs H Q => ∃ (a : Addr) (kvs : List (Key × V)) (ks : List Str), vs = [V.ref a] ∧ Rd H a (.dK kvs) ∧ kvs.map (·.1) = ks.map Sum.inr ∧ SortedS H ks Q) := by
  intro pins s σ H vs us Q I r h
  obtain ⟨a, kvs, ks, rfl, hd, hks, q⟩ := h
  rw [Vals.ref1 r]
  obtain ⟨z, lo, ws, rel, dd⟩ := dk_rd I.hok hd
  obtain ⟨ep, hat⟩ := dd.dictAt
  have hkeys : ws.map (·.1) = ks.map Sum.inr := rel.keys.symm.trans hks
  have hl : ws.length = ks.length := by
    have e := congrArg List.length hkeys
    rw [List.length_map, List.length_map] at e
    exact e
  have hz : ks.length ≤ sizeLine := by rw [← hl, ← rel.length]; exact z
  refine sorted_by (H := H) (by omega) ?_
  refine PySem.W.kdu_collect (A := X.A.in1) (PySem.W.kdl_dict (knd := mixKind X.prog X.w) (kvs := ws) (ep := ep) lo) (I.ok.hd hc) hat (by rw [hl]; exact hz) fun h' tk acc hk hacc => ?_
  have hal : acc.toList.length = ws.length := by rw [Array.length_toList, hacc.1]
  have hv : Vals (ws.map fun p => kV p.1) acc.toList := keys_at hal fun j v e => hacc.2 j v (by rw [← Array.getElem?_toList]; exact e)
  have e1 : (ws.map fun p => kV p.1) = ks.map V.str := by
    have : (ws.map fun p => kV p.1) = (ws.map (·.1)).map kV := by rw [List.map_map]; rfl
    rw [this, hkeys, List.map_map]; rfl
  rw [e1] at hv
  exact ⟨I.kept hk, ks.map strD, vals_strD hv, dp_strs ks, strs_dataOk ks hz, q.to⟩
/-- sorted(found), found a set of texts -/
theorem cr_sortTSet (hc : X.calm = true) (hu : X.A.units + 64 < cLine) : CallR X (.builtin "sorted") (fun vs H Q => ∃ (a : Addr) (ks : List Str), vs = [V.ref a] ∧ H a = some (TSetO X.w a ks) ∧ SortedS H ks Q) := by
  intro pins s σ H vs us Q I r h
  obtain ⟨a, ks, rfl, ha, q⟩ := h
  rw [Vals.ref1 r]
  obtain ⟨o, es, ep, t, ho, hex, hd, hs, hh, nd, hz, hf, hr, hl⟩ := (show TSet X.w s.heap a ks from (I.hok a _ ha).1)
  refine sorted_by (H := H) (by omega) ?_
  refine collect_set (A := X.A.in1) (I.ok.hd hc) ⟨o, ho, hex.1, hd⟩ hf hz hr hl fun s1 vs k1 hz1 g1 o1 pm => ?_
  obtain ⟨ks', hs'⟩ := strsAre_all vs fun v hv => by
    obtain ⟨e, he, ee⟩ := List.mem_map.mp (pm.mem_iff.mp hv)
    obtain ⟨y, t', h1, _⟩ := hh e he
    exact ⟨y, t', by rw [← ee]; exact h1⟩
  have pk : ks'.Perm ks := by
    have q := pm.map txtOf
    rw [← strsAre_txt hs', ← strsAre_txt hs] at q
    exact q
  have hlen : ks'.length ≤ sizeLine := by
    have e := congrArg List.length (strsAre_txt hs')
    have e2 := pm.length_eq
    have e3 : es.toList.length = es.size := Array.length_toList
    rw [List.length_map] at e e2
    rw [e, e2, e3]
    exact fits_of_scanBound hz
  have J : Inv X pins σ H s1 := I.call' (ch := []) o1 (Un.kept k1) (I.hok.kept k1) (by rw [g1]; exact I.bare) (fun _ z => nomatch z)
  exact ⟨J, ks'.map strD, vals_strD (vals_of_strs hs'), dp_strs ks', strs_dataOk ks' hlen, SortedS.to fun ys p pm2 => q ys p (pm2.trans pk)⟩
end
end L2.K47
/-! K47, part C: a set of things at addresses whose hashes the world may hold (tuples with texts in them): the table's search, an addition, set(xs), sorted -/
namespace L2.K47
open PySem PySem.Spec PyProof.Rows

/-- things at addresses that a set can hold: their hash, their ==, and that looking at them tells nothing -/
structure RefKind (P : Program) (w : World) (κ : Type) [DecidableEq κ] where
  is : Heap → κ → Addr → Prop
  hash : κ → Int
  draws : κ → Nat
  one : ∀ {h : Heap} {a : Addr} {x y : κ}, is h x a → is h y a → x = y
  stay : ∀ {h h' : Heap} {k : κ} {b : Addr}, is h k b → (∀ c o vs n, h.get? c = some o → o.data = .seq vs n → h'.get? c = some o) → is h' k b
  hashed : ∀ {A : Around} {E : Value → Shared → Prop} {s : Shared} {k : κ} {b : Addr} {Q : Int → Shared → Prop}, A.units + 8 < cLine → is s.heap k b → Q (hash k) { s with toks := s.toks + draws k } → wpAny (model P w) A (pyHash (.ref b)) Q E s
  alike : ∀ {A : Around} {E : Value → Shared → Prop} {s : Shared} {x y : κ} {a b : Addr} {Q : Bool → Shared → Prop}, A.units + 8 < cLine → is s.heap x a → is s.heap y b → Q (decide (x = y)) s → wpAny (model P w) A (eqBool (.ref a) (.ref b)) Q E s
  quiet : ∀ {A : Around} {E : Value → Shared → Prop} {s : Shared} {k : κ} {b : Addr} {Q : Bool → Shared → Prop}, is s.heap k b → Q true s → wpAny (model P w) A (eqIsQuiet 8 (.ref b)) Q E s
  noClass : ∀ {A : Around} {E : Value → Shared → Prop} {s : Shared} {k : κ} {b : Addr} {Q : Bool → Shared → Prop}, is s.heap k b → Q false s → wpAny (model P w) A (ofAClassStatement 8 (.ref b)) Q E s
  byVal : ∀ {A : Around} {E : Value → Shared → Prop} {s : Shared} {k : κ} {b : Addr} {Q : Bool → Shared → Prop}, is s.heap k b → (∀ v, Q v s) → wpAny (model P w) A (hashByValue 8 (.ref b)) Q E s

section
variable {P : Program} {w : World} {A : Around} {E : Value → Shared → Prop} {s : Shared} {κ : Type} [DecidableEq κ] {R : RefKind P w κ}
/-- nothing is seen of a search among such things -/
theorem RefKind.unseen {k : κ} {b : Addr} {Q : Bool → Shared → Prop} (hk : R.is s.heap k b) {ys : List Value} (hy : ∀ y ∈ ys, ∃ k' c, y = Value.ref c ∧ R.is s.heap k' c) (h : Q false s) : wpAny (model P w) A (searchCouldBeSeen (.ref b) ys) Q E s := by
  unfold searchCouldBeSeen
  refine wpAny_bind ?_
  refine wpAny_forIn_list _ (fun rest r s' => r.1 = none ∧ s' = s ∧ ∀ y ∈ rest, ∃ k' c, y = Value.ref c ∧ R.is s.heap k' c) _ ?_ ?_ _ _ ⟨rfl, rfl, hy⟩
  · rintro v rest r s' ⟨hr, rfl, hall⟩
    obtain ⟨k', c, rfl, hc⟩ := hall v List.mem_cons_self
    have more : ∀ y ∈ rest, ∃ k' c, y = Value.ref c ∧ R.is s'.heap k' c := fun u hu => hall u (List.mem_cons_of_mem _ hu)
    dsimp only
    by_cases hv : (b == c || (carriedByValue (.ref b) && carriedByValue (.ref c))) = true
    · exact wp_if_pos hv (wpAny_pure ⟨rfl, rfl, more⟩)
    · refine wp_if_neg hv (wpAny_bind (R.quiet hk ?_))
      simp only [Bool.not_true, Bool.false_eq_true, if_false]
      refine wpAny_bind (R.quiet hc ?_)
      simp only [Bool.not_true, Bool.false_eq_true, if_false]
      refine wpAny_bind (R.noClass hk ?_)
      simp only [Bool.false_eq_true, if_false]
      refine wpAny_bind (R.noClass hc ?_)
      simp only [Bool.false_eq_true, if_false]
      exact wpAny_pure ⟨rfl, rfl, more⟩
  · rintro ⟨r1, r2⟩ s' ⟨hr, rfl, _⟩
    simp only at hr
    subst hr
    exact wpAny_pure h

abbrev RefKind.row (R : RefKind P w κ) (p : Addr × κ) : Int × Value := (R.hash p.2, Value.ref p.1)
/-- the set at a: L its members in the table's order -/
structure RSet (R : RefKind P w κ) (h : Heap) (a : Addr) (L : List (Addr × κ)) (es : Array (Int × Value)) (ep : Nat) (t : SetTable) : Prop where
  ob : ∃ o, h.get? a = some o ∧ o.ExactSet ∧ o.data = .set es ep t
  rows : es.toList = L.map R.row
  tab : TabOk t (L.map fun p => R.hash p.2)
  nd : (L.map (·.2)).Nodup
  tup : ∀ p ∈ L, R.is h p.2 p.1
  led : w.params.followText "set-order" = true ∨ t.led = true
  room : L.length * 5 < t.mask * 3
  few : L.length < 64
variable {a : Addr} {L : List (Addr × κ)} {es : Array (Int × Value)} {ep : Nat} {t : SetTable}
theorem RSet.size (S : RSet R s.heap a L es ep t) : es.size = L.length := by
  have h := congrArg List.length S.rows
  rw [Array.length_toList, List.length_map] at h
  exact h
theorem RSet.fits (S : RSet R s.heap a L es ep t) : t.fits es.size = true := by
  have h1 := S.tab.sz
  rw [List.length_map] at h1
  have h2 := S.size
  have h3 := S.room
  unfold SetTable.fits SetTable.fill
  rw [S.tab.dm, Bool.and_eq_true, beq_iff_eq, decide_eq_true_eq]
  show t.place.size = es.size ∧ t.place.size + 0 ≤ t.mask
  omega
theorem RSet.entry (S : RSet R s.heap a L es ep t) {i : Nat} {p : Addr × κ} (h : L[i]? = some p) : es[i]? = some (R.row p) := by
  rw [← Array.getElem?_toList, S.rows, List.getElem?_map, h] <;> rfl
theorem RSet.noWay (S : RSet R s.heap a L es ep t) : ¬ t.gaveWay = true := by
  unfold SetTable.gaveWay
  rw [mask_odd S.tab.mok]
  decide
/-- the c-th state of the way -/
abbrev wayAt (m : Nat) (h : Int) (c : Nat) : SetTable.Probe := nth m (runAt m (SetTable.bits h % (m + 1)) (SetTable.bits h)) c
theorem way_clean (m : Nat) (h : Int) (c : Nat) : (wayAt m h c).dummy = none := by
  have key : ∀ (n : Nat) (p : SetTable.Probe), p.dummy = none → (nth m p n).dummy = none := by
    intro n
    induction n with
    | zero => exact fun p h => h
    | succ n ih =>
      intro p h
      refine ih (adv m p) ?_
      unfold adv
      split <;> exact h
  exact key c _ rfl
theorem way_more (m : Nat) (h : Int) (c q : Nat) : nth m (wayAt m h c) q = wayAt m h (c + q) := (nth_add m c _ q).symm

/-- the search from the c-th place of the way on -/
theorem RSet.search_from (S : RSet R s.heap a L es ep t) {x : Addr} {k : κ} (hx : R.is s.heap k x) (hu : A.units + 8 < cLine) {K : Nat} (hKf : K < 10 * SetTable.turns t.mask)
    (hK : way t.mask (R.hash k) K ∉ t.place.toList) (hKb : ∀ c, c < K → way t.mask (R.hash k) c ∈ t.place.toList) {Q : SetFound → Shared → Prop}
    (hin : k ∈ L.map (·.2) → Q (.there none) s) (hout : k ∉ L.map (·.2) → Q (.free (way t.mask (R.hash k) K) false) s) :
    ∀ (f c : Nat) (stand : Option SetTable.Probe), stand.getD (t.probeStart (R.hash k)) = wayAt t.mask (R.hash k) c → c ≤ K → K - c < f →
      (∀ (i : Nat) p, L[i]? = some p → p.2 = k → ∃ c', c ≤ c' ∧ c' < K ∧ t.place.toList[i]? = some (way t.mask (R.hash k) c')) →
      wpAny (model P w) A (setSearchFrom a (.ref x) (R.hash k) true f stand) Q E s := by
  intro f
  induction f with
  | zero => intro c stand _ _ hf _; exact absurd hf (Nat.not_lt_zero _)
  | succ f ih =>
    intro c stand hst hc hf hre
    obtain ⟨o, ho, hex, hd⟩ := S.ob
    rw [setSearchFrom_succ]
    refine wpAny_bind (wpAny_setState_of ho hd S.fits ?_)
    dsimp only
    refine wp_if_neg S.noWay ?_
    try refine wpAny_bind (wpAny_pure ?_)
    have hj : ∀ q, (nth t.mask (wayAt t.mask (R.hash k) c) q).j = way t.mask (R.hash k) (c + q) := fun q => congrArg SetTable.Probe.j (way_more _ _ _ _)
    have spec := go_spec t S.tab.ris S.tab.dm (fun i => (es[i]?.map (·.1)).getD 0) (R.hash k) (10 * SetTable.turns t.mask) (K - c) _ (way_clean t.mask (R.hash k) c) (by omega)
      (fun q hq => by rw [hj]; exact hKb (c + q) (by omega)) (by rw [hj, show c + (K - c) = K by omega]; exact hK)
    have hashAt : ∀ (i : Nat) p, L[i]? = some p → (fun i => (es[i]?.map (·.1)).getD 0) i = R.hash p.2 := fun i p hp => by
      show (es[i]?.map (·.1)).getD 0 = _
      rw [S.entry hp] <;> rfl
    rcases spec with ⟨q, i, hq, hi, hh, hno, hpr⟩ | ⟨hno, hpr⟩
    · have hpr' : t.probe (fun i => (es[i]?.map (·.1)).getD 0) (R.hash k) (stand.getD (t.probeStart (R.hash k))) = some (.candidate (way t.mask (R.hash k) (c + q)) i (wayAt t.mask (R.hash k) (c + (q + 1)))) := by
        rw [hst, ← hj, ← way_more]
        exact hpr
      rw [hpr']
      dsimp only
      rw [hj] at hi
      have hil : i < L.length := by
        have h1 : i < t.place.toList.length := (List.getElem?_eq_some_iff.mp hi).1
        have h2 := S.tab.sz
        rw [List.length_map] at h2
        rw [Array.length_toList] at h1
        omega
      obtain ⟨p, hp⟩ : ∃ p, L[i]? = some p := ⟨_, List.getElem?_eq_getElem hil⟩
      have hmem : p ∈ L := List.mem_of_getElem? hp
      have more : wpAny (model P w) A (searchRest a (.ref x) (R.hash k) true f es t (way t.mask (R.hash k) (c + q)) i (wayAt t.mask (R.hash k) (c + (q + 1)))) Q E s := by
        unfold searchRest
        rw [S.entry hp]
        dsimp only
        refine wpAny_bind (wpAny_holding (R.alike hu (S.tup p hmem) hx ?_))
        refine wpAny_bind (wpAny_setState_of ho hd S.fits ?_)
        dsimp only
        by_cases hkk : p.2 = k
        · exact wp_if_pos (by simp [hkk]) (wpAny_pure (hin (List.mem_map.mpr ⟨p, hmem, hkk⟩)))
        · refine wp_if_neg (by simp [hkk]) ?_
          try refine wpAny_bind (wpAny_pure ?_)
          rw [sameMem]
          dsimp only
          have hsl : t.slot (way t.mask (R.hash k) (c + q)) = .live i := slot_live S.tab.ris hi
          simp only [if_true, hsl, S.entry hp]
          refine wpAny_bind (wpAny_isSame_ref_self (wpAny_bind (wpAny_pure ?_)))
          simp only [if_true]
          refine wp_if_neg (by simp [hkk]) ?_
          refine ih (c + (q + 1)) _ rfl (by omega) (by omega) fun i0 p0 h0 hk0 => ?_
          obtain ⟨c', a1, a2, a3⟩ := hre i0 p0 h0 hk0
          refine ⟨c', ?_, a2, a3⟩
          rcases Nat.lt_trichotomy c' (c + q) with z | z | z
          · exact absurd ((hashAt i0 p0 h0).trans (congrArg R.hash hk0)) (hno (c' - c) i0 (by omega) (by rw [hj, show c + (c' - c) = c' by omega]; exact a3))
          · exfalso
            rw [z] at a3
            have s0 := slot_live S.tab.ris a3
            rw [hsl] at s0
            injection s0 with s0
            rw [← s0, hp] at h0
            exact hkk ((congrArg Prod.snd (Option.some.inj h0)).trans hk0)
          · omega
      by_cases hl : t.led = true
      · refine wp_if_neg (by simp [hl]) ?_
        try refine wpAny_bind (wpAny_pure ?_)
        exact more
      · refine wp_if_pos (by simp [hl]) ?_
        refine wpAny_bind (R.unseen hx (fun y hy => ?_) ?_)
        · obtain ⟨e, he, ee⟩ := List.mem_map.mp hy
          have he1 : e ∈ es ∧ e.1 = R.hash k := by simpa using he
          have he2 : e ∈ es.toList := by simpa using he1.1
          rw [S.rows] at he2
          obtain ⟨p2, hp2, e2⟩ := List.mem_map.mp he2
          exact ⟨p2.2, p2.1, by rw [← ee, ← e2], S.tup p2 hp2⟩
        · refine wp_if_neg (by decide) ?_
          try refine wpAny_bind (wpAny_pure ?_)
          exact more
    · have hpr' : t.probe (fun i => (es[i]?.map (·.1)).getD 0) (R.hash k) (stand.getD (t.probeStart (R.hash k))) = some (.empty (way t.mask (R.hash k) K) none) := by
        have e2 : way t.mask (R.hash k) K = (nth t.mask (wayAt t.mask (R.hash k) c) (K - c)).j := by
          rw [hj, show c + (K - c) = K by omega]
        rw [hst, e2]
        exact hpr
      rw [hpr']
      dsimp only
      refine wpAny_pure (hout fun hm => ?_)
      obtain ⟨p0, h0, hk0⟩ := List.mem_map.mp hm
      obtain ⟨i0, hi0, e0⟩ := List.getElem_of_mem h0
      have h00 : L[i0]? = some p0 := by rw [List.getElem?_eq_getElem hi0, e0]
      obtain ⟨c', a1, a2, a3⟩ := hre i0 p0 h00 hk0
      exact absurd ((hashAt i0 p0 h00).trans (congrArg R.hash hk0)) (hno (c' - c) i0 (by omega) (by rw [hj, show c + (c' - c) = c' by omega]; exact a3))
/-- the search that an addition asks for -/
theorem RSet.search (S : RSet R s.heap a L es ep t) {x : Addr} {k : κ} (hx : R.is s.heap k x) (hu : A.units + 8 < cLine) {Q : SetFound → Shared → Prop} (hin : k ∈ L.map (·.2) → Q (.there none) s)
    (hout : ∀ K, k ∉ L.map (·.2) → way t.mask (R.hash k) K ∉ t.place.toList → (∀ c, c < K → way t.mask (R.hash k) c ∈ t.place.toList) → Q (.free (way t.mask (R.hash k) K) false) s) :
    wpAny (model P w) A (setSearch a (.ref x) (R.hash k) true) Q E s := by
  have hroom := S.room
  obtain ⟨K, hKf, hK, hKb⟩ := S.tab.first (by rw [List.length_map]; omega) (R.hash k)
  have hbig : K < 100000 := by
    have : 10 * SetTable.turns t.mask ≤ 1420 := by
      unfold SetTable.turns
      rcases S.tab.mok with e | e | e <;> omega
    omega
  unfold setSearch
  refine S.search_from hx hu hKf hK hKb hin (fun hn => hout K hn hK hKb) 100000 0 none rfl (Nat.zero_le _) (by omega) fun i p hp hk => ?_
  have hi : (L.map fun p => R.hash p.2)[i]? = some (R.hash k) := by rw [List.getElem?_map, hp, ← hk] <;> rfl
  have hil : i < t.place.toList.length := by
    have h1 : i < L.length := (List.getElem?_eq_some_iff.mp hp).1
    have h2 := S.tab.sz
    rw [List.length_map] at h2
    rw [Array.length_toList]
    omega
  obtain ⟨c, hc, e⟩ := S.tab.before hK hi (List.getElem?_eq_getElem hil)
  exact ⟨c, Nat.zero_le _, hc, by rw [List.getElem?_eq_getElem hil, e]⟩
/-- a thing that the set holds is not the set -/
theorem RefKind.same {h h' : Heap} {k : κ} {b : Addr} {o : Obj} (hb : R.is h k b) (ho : h.get? a = some o) (hd : o.data = .set es ep t) (hs : Heap.SameBut a h h') : R.is h' k b :=
  R.stay hb fun c u vs n hu hd' => (hs.2 c (by
    rintro rfl
    rw [ho] at hu
    cases hu
    rw [hd] at hd'
    cases hd')).trans hu
/-- rows in another order -/
theorem rows_order (L : List (Addr × κ)) (es : Array (Int × Value)) (order : Array Nat) (hr : es.toList = L.map R.row) (hp : order.toList.Perm (List.range L.length)) :
    ∃ L2 : List (Addr × κ), (order.filterMap (es[·]?)).toList = L2.map R.row ∧ L2.Perm L ∧ (L2.map fun p => R.hash p.2) = order.toList.map fun i => (es.map (·.1)).getD i 0 := by
  have hsz : es.size = L.length := by
    have h := congrArg List.length hr
    rw [Array.length_toList, List.length_map] at h
    exact h
  have ent : ∀ i (h : i < L.length), es[i]? = some (R.row L[i]) := fun i h => by
    rw [← Array.getElem?_toList, hr, List.getElem?_map, List.getElem?_eq_getElem h] <;> rfl
  have key : ∀ l : List Nat, (∀ i ∈ l, i < L.length) → l.filterMap (fun i => es[i]?) = (l.filterMap (fun i => L[i]?)).map R.row ∧ ((l.filterMap (fun i => L[i]?)).map fun p => R.hash p.2) = l.map fun i => (es.map (·.1)).getD i 0 := by
    intro l
    induction l with
    | nil => exact fun _ => ⟨rfl, rfl⟩
    | cons i l ih =>
      intro hl
      have hi := hl i List.mem_cons_self
      obtain ⟨e1, e3⟩ := ih fun j hj => hl j (List.mem_cons_of_mem _ hj)
      have e0 : (i :: l).filterMap (fun i => L[i]?) = L[i] :: l.filterMap (fun i => L[i]?) := List.filterMap_cons_some (List.getElem?_eq_getElem hi)
      refine ⟨?_, ?_⟩
      · rw [List.filterMap_cons_some (ent i hi), e1, e0, List.map_cons]
      · rw [e0, List.map_cons, List.map_cons, e3]
        have e5 : (es.map (·.1))[i]? = some (R.hash (L[i]).2) := by rw [Array.getElem?_map, ent i hi] <;> rfl
        have e4 : (es.map (·.1)).getD i 0 = R.hash (L[i]).2 := by simp [Array.getD_eq_getD_getElem?, e5]
        rw [e4]
  obtain ⟨e1, e3⟩ := key order.toList fun i hi => List.mem_range.mp (hp.mem_iff.mp hi)
  refine ⟨_, by first | (rw [Array.toList_filterMap]; exact e1) | simpa using e1, ?_, e3⟩
  have h1 : (order.toList.filterMap (fun i => L[i]?)).Perm ((List.range L.length).filterMap fun i => L[i]?) := hp.filterMap _
  have key2 : ∀ n, n ≤ L.length → (List.range n).filterMap (fun i => L[i]?) = L.take n := by
    intro n
    induction n with
    | zero => exact fun _ => rfl
    | succ n ih =>
      intro hn
      have hlt : n < L.length := hn
      rw [List.range_succ, List.filterMap_append, ih (Nat.le_of_lt hlt), List.take_succ, List.getElem?_eq_getElem hlt]
      rw [List.filterMap_cons_some (List.getElem?_eq_getElem hlt)] <;> rfl
  rw [key2 L.length (Nat.le_refl _), List.take_length] at h1
  exact h1
/-- the table laid anew, larger -/
theorem relay_ok {o : Obj} (ho : s.heap.get? a = some o) (hex : o.ExactSet) (hd : o.data = .set es ep t) (hrows : es.toList = L.map R.row) (hsz : t.place.size = es.size) (hdm : t.dummies = #[]) (hfl : es.size ≤ t.mask)
    (nd : (L.map (·.2)).Nodup) (tup : ∀ p ∈ L, R.is s.heap p.2 p.1) (ld : w.params.followText "set-order" = true ∨ t.led = true) (few : L.length < 64) {wanted M : Nat}
    (hw : SetTable.sizeAbove wanted - 1 = M) (hM : MaskOk M) (hw2 : SetTable.sizeAbove wanted ≤ 128) (hn : L.length * 5 < M * 3) {Q : Unit → Shared → Prop}
    (hQ : ∀ h' L' es' ep' t', Heap.SameBut a s.heap h' → RSet R h' a L' es' ep' t' → L'.Perm L → Q () { s with heap := h' }) : wpAny (model P w) A (setRelay a wanted) Q E s := by
  have hsl : es.size = L.length := by
    have h := congrArg List.length hrows
    rw [Array.length_toList, List.length_map] at h
    exact h
  have hfits : t.fits es.size = true := by
    unfold SetTable.fits SetTable.fill
    rw [hdm, Bool.and_eq_true, beq_iff_eq, decide_eq_true_eq]
    show t.place.size = es.size ∧ t.place.size + 0 ≤ t.mask
    omega
  obtain ⟨t', order, e, hp, T, em, el, ep', ed⟩ := relaid_ok t (hs := es.map (·.1)) (wanted := wanted) hw hM (by rw [Array.size_map, hsl]; omega)
  rw [Array.size_map, hsl] at hp
  obtain ⟨L2, r1, r2, r3⟩ := rows_order (R := R) L es order hrows hp
  rw [← r3] at T
  have hs2 : (order.filterMap (es[·]?)).size = es.size := by
    have h := congrArg List.length r1
    rw [Array.length_toList, List.length_map, r2.length_eq] at h
    rw [h, hsl]
  rw [setRelay_eq]
  refine wpAny_bind (wpAny_setState_of ho hd hfits ?_)
  dsimp only
  refine wp_if_neg (by rw [sizeLine_eq]; omega) ?_
  try refine wpAny_bind (wpAny_pure ?_)
  rw [e]
  dsimp only
  refine wpAny_bind ?_
  refine wp_if_neg (by rw [hs2]; simp) ?_
  try refine wpAny_bind (wpAny_pure ?_)
  refine wpAny_pure ?_
  dsimp only
  refine wpAny_storeSet_of ho hd ?_ (by rw [hs2, hsl, sizeLine_eq]; omega)
  have sb : Heap.SameBut a s.heap (s.heap.update a (Obj.putSet (order.filterMap (es[·]?)) t')) := Heap.SameBut.update ..
  refine hQ _ L2 (order.filterMap (es[·]?)) (ep + 1) t' sb ?_ r2
  refine ⟨⟨_, store_at ho hd, ⟨hex.1, hex.2.1, hex.2.2⟩, rfl⟩, r1, T, (r2.map (·.2)).nodup_iff.mpr nd, fun p hpm => RefKind.same (tup p (r2.mem_iff.mp hpm)) ho hd sb, by rw [el]; exact ld, ?_, by rw [r2.length_eq]; exact few⟩
  rw [r2.length_eq, em]
  exact hn
/-- one more -/
theorem RSet.add (S : RSet R s.heap a L es ep t) {x : Addr} {k : κ} (hx : R.is s.heap k x) (hu : A.units + 8 < cLine) (hfew : L.length + 1 < 64) {Q : Bool → Shared → Prop}
    (hQ : ∀ b h' L' es' ep' t', Heap.SameBut a s.heap h' → RSet R h' a L' es' ep' t' → (k ∈ L.map (·.2) → L' = L) → (k ∉ L.map (·.2) → L'.Perm ((x, k) :: L)) → Q b { s with heap := h' }) :
    wpAny (model P w) A (setAddHashed a (.ref x) (R.hash k)) Q E s := by
  obtain ⟨o, ho, hex, hd⟩ := S.ob
  have hsl := S.size
  have hroom := S.room
  unfold setAddHashed
  refine wpAny_holding ?_
  rw [show (100000 : Nat) = 99999 + 1 from rfl, setAddHashedIn_succ]
  refine wpAny_bind (wpAny_setState_of ho hd S.fits ?_)
  dsimp only
  refine wp_if_neg (by simp [byScan, Value.scannable]) ?_
  try refine wpAny_bind (wpAny_pure ?_)
  refine wpAny_bind (S.search hx hu (fun hm => ?_) fun K hm hK hb => ?_)
  · dsimp only
    exact wpAny_pure (hQ false s.heap L es ep t (Heap.SameBut.refl a s.heap) S (fun _ => rfl) fun z => absurd hm z)
  · dsimp only
    refine wpAny_bind (wpAny_setState_of ho hd S.fits ?_)
    dsimp only
    obtain ⟨q1, q2, q3, q4, q5, q6, q7, q8, q9⟩ := S.tab.put hK hb
    generalize hpt : t.put (way t.mask (R.hash k) K) = pt at q1 q3 q4 q5 q6 q7 q8 q9 ⊢
    obtain ⟨t1, p⟩ := pt
    dsimp only at q1 q3 q4 q5 q6 q7 q8 q9 ⊢
    subst q1
    have hin : (SetTable.insertAt es (SetTable.below t.place (way t.mask (R.hash k) K)) (R.hash k, Value.ref x)).toList = (L.take (SetTable.below t.place (way t.mask (R.hash k) K)) ++ (x, k) :: L.drop (SetTable.below t.place (way t.mask (R.hash k) K))).map R.row := by
      rw [SetTable.toList_insertAt, List.map_append, List.map_cons, List.map_take, List.map_drop, S.rows]
    generalize hpp : SetTable.below t.place (way t.mask (R.hash k) K) = p at q2 q3 hin ⊢
    have pm := put_perm L p (x, k)
    have hlen : (L.take p ++ (x, k) :: L.drop p).length = L.length + 1 := pm.length_eq
    have hhs : (L.take p ++ (x, k) :: L.drop p).map (fun p => R.hash p.2) = (L.map fun p => R.hash p.2).take p ++ R.hash k :: (L.map fun p => R.hash p.2).drop p := by
      rw [List.map_append, List.map_cons, List.map_take, List.map_drop]
    rw [← hhs] at q3
    have nd1 : ((L.take p ++ (x, k) :: L.drop p).map (·.2)).Nodup := by
      refine (pm.map (·.2)).nodup_iff.mpr ?_
      rw [List.map_cons]
      exact List.nodup_cons.mpr ⟨hm, S.nd⟩
    have hes : (SetTable.insertAt es p (R.hash k, Value.ref x)).size = L.length + 1 := by
      have h := congrArg List.length hin
      rw [Array.length_toList, List.length_map, hlen] at h
      exact h
    generalize SetTable.insertAt es p (R.hash k, Value.ref x) = es1 at hin hes ⊢
    generalize L.take p ++ (x, k) :: L.drop p = L1 at pm hlen q3 nd1 hin
    -- whatever the table's plainness is from now on
    have tail : ∀ t2 : SetTable, TabOk t2 (L1.map fun p => R.hash p.2) → t2.mask = t.mask → (w.params.followText "set-order" = true ∨ t2.led = true) → t2.fill = L.length + 1 →
        wpAny (model P w) A (do storeSet a es1 t2; if (!false && t2.tooFull) = true then (do setRelay a (SetTable.grown (es.size + 1)); pure true) else pure true) Q E s := by
      intro t2 T2 m2 ld2 f2
      refine wpAny_bind (wpAny_storeSet_of ho hd ?_ (by rw [hes, sizeLine_eq]; omega))
      have sb : Heap.SameBut a s.heap (s.heap.update a (Obj.putSet es1 t2)) := Heap.SameBut.update ..
      have ho1 := store_at (es' := es1) (t' := t2) ho hd
      generalize s.heap.update a (Obj.putSet es1 t2) = h1 at sb ho1 ⊢
      have tup1 : ∀ p ∈ L1, R.is h1 p.2 p.1 := fun p hp => by
        rcases List.mem_cons.mp (pm.mem_iff.mp hp) with e | hp
        · rw [e]; exact RefKind.same hx ho hd sb
        · exact RefKind.same (S.tup p hp) ho hd sb
      by_cases hf : t2.tooFull = true
      · first
          | (refine wpAny_bind ?_; refine wp_if_pos (by simp [hf]) ?_)
          | (refine wp_if_pos (by simp [hf]) ?_; refine wpAny_bind ?_)
        have hfull : (L.length + 1) * 5 ≥ t2.mask * 3 := by
          have h := hf
          unfold SetTable.tooFull at h
          rw [decide_eq_true_eq, f2] at h
          exact h
        rw [hsl]
        have hsz1 : t2.place.size = es1.size := by
          have h := T2.sz
          rw [List.length_map, hlen] at h
          rw [h, hes]
        have cases2 : (t.mask = 7 ∧ L.length = 4) ∨ (t.mask = 31 ∧ L.length = 18) := by
          rcases S.tab.mok with e | e | e
          · left; rw [m2, e] at hfull; rw [e] at hroom; exact ⟨e, by omega⟩
          · right; rw [m2, e] at hfull; rw [e] at hroom; exact ⟨e, by omega⟩
          · exfalso; rw [m2, e] at hfull; omega
        have go : ∀ M, SetTable.sizeAbove (SetTable.grown (L.length + 1)) - 1 = M → MaskOk M → SetTable.sizeAbove (SetTable.grown (L.length + 1)) ≤ 128 → (L.length + 1) * 5 < M * 3 →
            wpAny (model P w) A (setRelay a (SetTable.grown (L.length + 1))) (fun _ s' => wpAny (model P w) A (pure true) Q E s') E { s with heap := h1 } := fun M h1' h2' h3' h4' => by
          refine relay_ok (s := { s with heap := h1 }) ho1 ⟨hex.1, hex.2.1, hex.2.2⟩ rfl hin hsz1 T2.dm (by rw [hes, m2]; rcases cases2 with ⟨e, e2⟩ | ⟨e, e2⟩ <;> omega) nd1 tup1 ld2 (by rw [hlen]; exact hfew) h1' h2' h3' (by rw [hlen]; exact h4') ?_
          intro h2 L2 es2 ep2 t2' sb2 R2 pm2
          refine wpAny_pure (hQ true h2 L2 es2 ep2 t2' (sb.trans sb2) R2 (fun z => absurd z hm) fun _ => pm2.trans pm)
        rcases cases2 with ⟨_, e2⟩ | ⟨_, e2⟩
        · refine go 31 (by rw [e2, size_20]) (.inr (.inl rfl)) (by rw [e2, size_20]; decide) (by omega)
        · refine go 127 (by rw [e2, size_76]) (.inr (.inr rfl)) (by rw [e2, size_76]; decide) (by omega)
      · first
          | refine wp_if_neg (by simp [hf]) ?_
          | (refine wpAny_bind ?_; refine wp_if_neg (by simp [hf]) ?_; refine wpAny_pure ?_)
        refine wpAny_pure (hQ true h1 L1 es1 (ep + 1) t2 sb ⟨⟨_, ho1, ⟨hex.1, hex.2.1, hex.2.2⟩, rfl⟩, hin, T2, nd1, tup1, ld2, ?_, by rw [hlen]; exact hfew⟩ (fun z => absurd z hm) fun _ => pm)
        have h := hf
        unfold SetTable.tooFull at h
        rw [decide_eq_true_eq, f2] at h
        rw [hlen]
        omega
    have ld1 : w.params.followText "set-order" = true ∨ t1.led = true := by rw [q5]; exact S.led
    have f1 : t1.fill = L.length + 1 := by rw [q9, List.length_map]
    have T0 : TabOk { t1 with plain := false } (L1.map fun p => R.hash p.2) := ⟨q3.ris, q3.dm, q3.sz, q3.mok, q3.bd, q3.reach⟩
    have t1' := tail t1 q3 q4 ld1 f1
    have t0' := tail { t1 with plain := false } T0 q4 ld1 f1
    split
    · refine wpAny_bind (R.byVal hx fun v => ?_)
      cases v with
      | true => exact t1'
      | false => exact t0'
    · exact wpAny_bind (wpAny_pure t1')
end
end L2.K47
/-! K47, part C2: ranges (low, high, own) as keys: of a set, of a dict -/
namespace L2.K47
open PySem PySem.Spec PyProof.Rows

/-- a range that was read: low, high, the own keys then -/
abbrev Rg := Str × Str × List Str
def rgKey (r : Rg) : NestedKey := .tup [.text r.1, .text r.2.1, .tup (r.2.2.map .text)]
def rgData (r : Rg) : PyData := .tuple [.str r.1, .str r.2.1, .tuple (r.2.2.map .str)]
theorem datas_texts : ∀ l : List Str, NestedKey.datas (l.map .text) = l.map .str
  | [] => rfl
  | x :: l => by rw [List.map_cons, List.map_cons, NestedKey.datas, datas_texts l]; rfl
theorem rgKey_data (r : Rg) : (rgKey r).data = rgData r := by
  unfold rgKey rgData
  simp [NestedKey.data, NestedKey.datas, datas_texts]
theorem texts_inj : ∀ {l m : List Str}, l.map NestedKey.text = m.map NestedKey.text → l = m
  | [], [], _ => rfl
  | [], _ :: _, h => by cases h
  | _ :: _, [], h => by cases h
  | x :: l, y :: m, h => by
    rw [List.map_cons, List.map_cons] at h
    injection h with h1 h2
    injection h1 with h1
    rw [h1, texts_inj h2]
theorem rgKey_inj {r q : Rg} (h : rgKey r = rgKey q) : r = q := by
  unfold rgKey at h
  injection h with h
  injection h with h1 h
  injection h with h2 h
  injection h with h3 _
  injection h1 with h1
  injection h2 with h2
  injection h3 with h3
  exact Prod.ext h1 (Prod.ext h2 (texts_inj h3))
theorem depth_texts : ∀ l : List Str, NestedKey.depthAll (l.map .text) = 0
  | [] => rfl
  | x :: l => by rw [List.map_cons, NestedKey.depthAll, depth_texts l]; rfl
theorem rgKey_depth (r : Rg) : (rgKey r).depth = 2 := by
  unfold rgKey
  simp [NestedKey.depth, NestedKey.depthAll, depth_texts]

section
variable {P : Program} {w : World} {A : Around} {E : Value → Shared → Prop} {s : Shared}
theorem noClass_texts {ks : List NestedKey} {b : Addr} {n : Nat} {Q : Bool → Shared → Prop} (hk : NestedIs s.heap (.tup ks) (.ref b))
    (hi : ∀ v : Value, (∃ k ∈ ks, NestedIs s.heap k v) → ∀ (Q' : Bool → Shared → Prop), Q' false s → wpAny (model P w) A (ofAClassStatement n v) Q' E s) (h : Q false s) :
    wpAny (model P w) A (ofAClassStatement (n + 1) (.ref b)) Q E s := by
  cases hk with
  | @tup _ o vs m _ ho hc hd ha =>
    have hT : s.TypeIs (.ref b) "tuple" := ⟨o, ho, hc⟩
    unfold ofAClassStatement
    refine wpAny_bind (wpAny_typeOf hT ?_)
    dsimp only
    have e : (("tuple" : String) == "tuple") = true := by decide
    simp only [e, if_true, Bool.not_true, Bool.false_eq_true, if_false]
    try refine wpAny_bind (wpAny_pure ?_)
    try simp only [Bool.not_true, Bool.false_eq_true, if_false]
    show wpAny _ _ (seqItems? (.ref b) >>= _) _ _ s
    refine wpAny_bind (wpAny_seqItems ho hd ?_)
    dsimp only
    refine wpAny_bind ?_
    show wpAny _ _ (forIn vs _ _) _ _ s
    rw [← Array.forIn_toList]
    have mem : ∀ (ks' : List NestedKey) (us : List Value), NestedAll s.heap ks' us → (∀ k ∈ ks', k ∈ ks) → ∀ v ∈ us, ∃ k ∈ ks, NestedIs s.heap k v := by
      intro ks'
      induction ks' with
      | nil => intro us r _ v hv; cases r; cases hv
      | cons k ks' ih =>
        intro us r hs v hv
        cases r with
        | cons r1 r2 =>
          rcases List.mem_cons.mp hv with e | hv
          · exact ⟨k, hs k List.mem_cons_self, by rw [e]; exact r1⟩
          · exact ih _ r2 (fun k' hk' => hs k' (List.mem_cons_of_mem _ hk')) v hv
    refine wpAny_forIn_list _ (fun rest r s' => r.1 = none ∧ s' = s ∧ ∀ v ∈ rest, ∃ k ∈ ks, NestedIs s.heap k v) _ ?_ ?_ _ _ ⟨rfl, rfl, mem ks _ ha fun _ hk => hk⟩
    · rintro v rest r s' ⟨hr, rfl, hall⟩
      refine wpAny_bind (hi v (hall v List.mem_cons_self) _ ?_)
      simp only [Bool.false_eq_true, if_false]
      exact wpAny_pure ⟨rfl, rfl, fun u hu' => hall u (List.mem_cons_of_mem _ hu')⟩
    · rintro ⟨r1, r2⟩ s' ⟨hr, rfl, _⟩
      simp only at hr
      subst hr
      exact wpAny_pure h
theorem noClass_text {x : Str} {v : Value} {n : Nat} {Q : Bool → Shared → Prop} (hk : NestedIs s.heap (.text x) v) (h : Q false s) : wpAny (model P w) A (ofAClassStatement n v) Q E s := by
  cases hk
  have e : ∀ t : Tok, ofAClassStatement n (.str x t) = pure false := fun t => by cases n <;> rfl
  rw [e]
  exact wpAny_pure h
theorem noClass_rg {r : Rg} {b : Addr} {Q : Bool → Shared → Prop} (hk : NestedIs s.heap (rgKey r) (.ref b)) (h : Q false s) : wpAny (model P w) A (ofAClassStatement 8 (.ref b)) Q E s := by
  refine noClass_texts hk (fun v ⟨k, hm, hv⟩ Q' q => ?_) h
  simp only [List.mem_cons, List.not_mem_nil, or_false] at hm
  rcases hm with rfl | rfl | rfl
  · exact noClass_text hv q
  · exact noClass_text hv q
  · have hv0 := hv
    cases hv0 with
    | tup h1 h2 h3 h4 =>
      refine noClass_texts hv (fun u ⟨k, hm, hu⟩ Q'' q' => ?_) q
      obtain ⟨x, _, rfl⟩ := List.mem_map.mp hm
      exact noClass_text hu q'
theorem byVal_rg {r : Rg} {b : Addr} {Q : Bool → Shared → Prop} (hk : NestedIs s.heap (rgKey r) (.ref b)) (h : ∀ v, Q v s) : wpAny (model P w) A (hashByValue 8 (.ref b)) Q E s := by
  cases hk with
  | @tup _ o vs m _ ho hc hd ha =>
    have hT : s.TypeIs (.ref b) "tuple" := ⟨o, ho, hc⟩
    unfold hashByValue
    refine wpAny_bind (wpAny_specialOf hT F.slot_tuple_hash.lookup ?_)
    show wpAny _ _ (seqItems? (.ref b) >>= _) _ _ s
    refine wpAny_bind (wpAny_seqItems ho hd ?_)
    refine wpAny_bind ?_
    show wpAny _ _ (forIn vs _ _) _ _ s
    rw [← Array.forIn_toList]
    generalize vs.toList = us at ha
    cases ha with
    | @cons _ v _ us h1 h2 =>
      cases h1
      rw [List.forIn_cons]
      have e : ∀ t : Tok, hashByValue 7 (.str r.1 t) = pure false := fun t => rfl
      rw [e]
      refine wpAny_bind (wpAny_bind (wpAny_pure ?_))
      simp only [Bool.not_false, if_true]
      refine wpAny_pure (wpAny_pure ?_)
      show wpAny _ _ (pure false) _ _ _
      exact wpAny_pure (h _)
end
def rgKind (P : Program) (w : World) : RefKind P w Rg where
  is := fun h r a => NestedIs h (rgKey r) (.ref a)
  hash := fun r => (rgKey r).hash w
  draws := fun r => (rgKey r).draws
  one := fun hx hy => rgKey_inj (NestedIs.inj _ _ _ hx hy)
  stay := fun hx hk => NestedIs.at hk _ _ hx
  hashed := fun hu hk h => pyHash_key _ _ _ _ _ hk (by rw [rgKey_depth]; omega) h
  alike := fun {A E s x y a b Q} hu hx hy h => by
    refine PySem.eqAt_key (rgKey x) (rgKey y) A s _ _ hx hy (by rw [rgKey_depth]; have := Nat.min_le_left 2 (rgKey y).depth; omega) _ _ _ _ ?_
    rw [← NestedKey.decide_eq]
    have e : decide (rgKey x = rgKey y) = decide (x = y) := by
      by_cases z : x = y
      · subst z; simp
      · rw [decide_eq_false z, decide_eq_false fun q => z (rgKey_inj q)]
    rw [e]
    exact h
  quiet := fun {A E s k b Q} hk h => quiet_key _ _ 8 _ hk (by rw [rgKey_depth]; decide) A E Q h
  noClass := fun hk h => noClass_rg hk h
  byVal := fun hk h => byVal_rg hk h
end L2.K47
/-! K47, part C3: a dict and a set whose keys are ranges, over the layer; their sorted rows -/
namespace L2.K47
open PySem PySem.Spec PyProof.Rows

/-- the tuple at a reads as the range r -/
abbrev RgAt (K : PySem.W.Frag) (H : Hp) (a : Addr) (r : Rg) : Prop := Dp K H (.ref a) (rgData r)
abbrev rgV (p : Addr × Rg) : VD := (V.ref p.1, rgData p.2)
section
variable {X : Cx} {pins : List (Addr × Obj)} {σ : St} {H : Hp} {s : Shared}
mutual
theorem nested_of_dp (I : Inv X pins σ H s) : ∀ (k : NestedKey) (v : V) (u : Value), Dp X.K H v k.data → RelV v u → NestedIs s.heap k u
  | .none, _, _, h, r => by
    cases h
    cases r
    exact .none
  | .num i, _, _, h, r => by
    cases h
    obtain ⟨t, rfl⟩ := r
    exact .int _ _
  | .text x, _, _, h, r => by
    cases h
    obtain ⟨t, rfl⟩ := r
    exact .text _ _
  | .tup ks, _, _, h, r => by
    cases h with
    | tup hs ha =>
      cases r
      obtain ⟨its, rv, ⟨o, ho, hc, n, hd⟩, _⟩ := I.tuple hs
      exact .tup ho hc hd (by simpa using nestedAll_of_dp I ks _ its ha rv)
theorem nestedAll_of_dp (I : Inv X pins σ H s) : ∀ (ks : List NestedKey) (vs : List V) (us : List Value), DpAll X.K H vs (NestedKey.datas ks) → Vals vs us → NestedAll s.heap ks us
  | [], _, _, h, r => by
    cases h
    cases r
    exact .nil
  | k :: ks, _, _, h, r => by
    cases h with
    | cons h1 h2 =>
      cases r with
      | cons r1 r2 => exact .cons (nested_of_dp I k _ _ h1 r1) (nestedAll_of_dp I ks _ _ h2 r2)
end
theorem RgAt.is (I : Inv X pins σ H s) {a : Addr} {r : Rg} (h : RgAt X.K H a r) : NestedIs s.heap (rgKey r) (.ref a) := nested_of_dp I (rgKey r) (.ref a) (.ref a) (by rw [rgKey_data]; exact h) rfl
end

/-! ### the data of ranges -/
theorem alike_texts : ∀ l m : List Str, PySem.W.alikeAll (l.map .str) (m.map .str) = true
  | [], _ => by simp [PySem.W.alikeAll]
  | _ :: _, [] => by simp [PySem.W.alikeAll]
  | x :: l, y :: m => by
    rw [List.map_cons, List.map_cons, PySem.W.alikeAll, alike_texts l m]
    rfl
theorem alike_rg (r q : Rg) : PySem.W.alike (rgData r) (rgData q) = true := by
  unfold rgData
  rw [PySem.W.alike, PySem.W.alikeAll, PySem.W.alikeAll, PySem.W.alikeAll, PySem.W.alike, PySem.W.alike, PySem.W.alike, alike_texts]
  rfl
theorem depth_strs : ∀ l : List Str, PyData.depthAll (l.map .str) = 0
  | [] => by simp [PyData.depthAll]
  | x :: l => by rw [List.map_cons, PyData.depthAll, depth_strs l]; rfl
theorem depth_rg (r : Rg) : (rgData r).depth = 2 := by
  unfold rgData
  simp [PyData.depth, PyData.depthAll, depth_strs]
theorem rg_dataOk (rows : List (Addr × Rg)) (hl : rows.length ≤ sizeLine) : DataOk (rows.map rgV) where
  al := by
    intro d hd d' hd'
    rw [List.map_map] at hd hd'
    obtain ⟨_, _, rfl⟩ := List.mem_map.mp hd
    obtain ⟨_, _, rfl⟩ := List.mem_map.mp hd'
    exact alike_rg _ _
  so := .inl fun d hd => by
    rw [List.map_map] at hd
    obtain ⟨_, _, rfl⟩ := List.mem_map.mp hd
    exact ⟨_, _, rfl⟩
  dp := fun z hz => by
    obtain ⟨_, _, rfl⟩ := List.mem_map.mp hz
    show (rgData _).depth ≤ 8
    rw [depth_rg]
    decide
  ln := by rw [List.length_map]; exact hl
theorem perm_of_map {α β : Type} {f : α → β} {ys zs : List β} (pm : ys.Perm zs) : ∀ rows : List α, zs = rows.map f → ∃ rows' : List α, rows'.Perm rows ∧ ys = rows'.map f := by
  induction pm with
  | nil =>
    intro rows e
    cases rows with
    | nil => exact ⟨[], .nil, rfl⟩
    | cons _ _ => cases e
  | cons x _ ih =>
    intro rows e
    cases rows with
    | nil => cases e
    | cons r rows =>
      rw [List.map_cons] at e
      injection e with e1 e2
      obtain ⟨rows', p, e'⟩ := ih rows e2
      exact ⟨r :: rows', p.cons r, by rw [List.map_cons, e1, e']⟩
  | swap x y l =>
    intro rows e
    match rows, e with
    | [], e => cases e
    | [_], e => rw [List.map_cons] at e; injection e with _ e; cases e
    | r :: q :: rows, e =>
      rw [List.map_cons, List.map_cons] at e
      injection e with e1 e
      injection e with e2 e
      exact ⟨q :: r :: rows, List.Perm.swap _ _ _, by rw [List.map_cons, List.map_cons, e1, e2, e]⟩
  | trans _ _ ih1 ih2 =>
    intro rows e
    obtain ⟨r2, p2, e2⟩ := ih2 rows e
    obtain ⟨r1, p1, e1⟩ := ih1 r2 e2
    exact ⟨r1, p1.trans p2, e1⟩
/-- r does not stand behind q -/
def rgLe (r q : Rg) : Prop := PySem.W.dataLt (rgData q) (rgData r) = false
def AscR (rs : List Rg) : Prop := rs.Pairwise rgLe
/-- sorted: a new list of the tuples, ascending -/
abbrev SortedR (H : Hp) (rows : List (Addr × Rg)) (Q : VK) : Prop :=
  ∀ (ys : List (Addr × Rg)) (p : Addr), ys.Perm rows → AscR (ys.map (·.2)) → H p = none → Q (.ref p) (upd H p (.lst (ys.map fun q => V.ref q.1)))
theorem SortedR.to {H : Hp} {rows : List (Addr × Rg)} {Q : VK} (q : SortedR H rows Q) : SortedTo H (rows.map rgV) Q := by
  intro ys p pm pw hp
  obtain ⟨rows', pr, rfl⟩ := perm_of_map pm rows rfl
  have h := q rows' p pr ?_ hp
  · rw [List.map_map]
    exact h
  · refine List.pairwise_map.mpr (List.Pairwise.imp (fun {a b} h => ?_) (List.pairwise_map.mp pw))
    have h' : (!PySem.W.dataLt (rgData b.2) (rgData a.2)) = true := h
    rw [Bool.not_eq_true'] at h'
    exact h'
theorem refs_val : ∀ {rows : List (Addr × Rg)} {us : List Value}, Vals (rows.map fun q => V.ref q.1) us → us = rows.map fun q => Value.ref q.1
  | [], _, r => by cases r; rfl
  | p :: rows, _, r => by
    rw [List.map_cons] at r
    cases r with
    | cons h t =>
      cases h
      rw [List.map_cons, ← refs_val t]
theorem vals_ref (rows : List (Addr × Rg)) : Vals (rows.map fun q => V.ref q.1) (rows.map fun q => Value.ref q.1) := by
  induction rows with
  | nil => exact .nil
  | cons p rows ih => exact .cons rfl ih
theorem vals_rgV {rows : List (Addr × Rg)} {us : List Value} (h : Vals (rows.map fun q => V.ref q.1) us) : Vals ((rows.map rgV).map (·.1)) us := by
  rw [List.map_map]
  exact h

/-! ### a dict with ranges as keys, True at each -/
abbrev ndEntry (P : Program) (w : World) (p : Addr × Rg) : DictEntry := entryOfKey (nestedKind P w) (rgKey p.2, p.1, Value.bool true)
def NDict (P : Program) (w : World) (h : Heap) (d : Addr) (rows : List (Addr × Rg)) : Prop :=
  ∃ o es ep, h.get? d = some o ∧ o.ExactDict ∧ o.data = .dict es ep ∧ es.toList = rows.map (ndEntry P w) ∧ (rows.map (·.2)).Nodup ∧ (d == sysModules) = false
def NDictO (P : Program) (w : World) (d : Addr) (rows : List (Addr × Rg)) : HO := .ext fun h => NDict P w h d rows
/-- d[r] = True, r the tuple at a -/
def putR (rows : List (Addr × Rg)) (a : Addr) (r : Rg) : List (Addr × Rg) := if r ∈ rows.map (·.2) then rows else rows ++ [(a, r)]
section
variable {X : Cx} {P : Program} {w : World}
theorem ndict_new {H : Hp} {h : Heap} {d : Addr} {rows : List (Addr × Rg)} (R : NDict P w h d rows) : ObjOk P w H h d (NDictO P w d rows) := by
  have ⟨o, _, _, ho, _⟩ := R
  refine ⟨R, ⟨o, ho⟩, fun h1 h2 ⟨o, es, ep, e, r⟩ k => ⟨o, es, ep, k o e, r⟩⟩
/-- {} -/
theorem pe_dnewN {pos : Pos} : PE X (.Dict [] [] pos) (fun _ H Q => ∀ p, H p = none → Q (.ref p) (upd H p (NDictO X.prog X.w p []))) := ⟨fun pins s σ H Q I h =>
  wpAny_Dict_empty ⟨.ref s.heap.objs.size, _, I.laid (a := s.heap.objs.size) (o := NDictO X.prog X.w s.heap.objs.size []) (t' := s.toks) (fun _ _ q => Heap.get?_push_of_some _ q) (Nat.le_refl _)
    (ndict_new ⟨_, #[], 0, Heap.get?_push_size _ rfl, ⟨rfl, rfl, rfl⟩, rfl, rfl, List.nodup_nil, beq_eq_false_iff_ne.mpr (Ne.symm (Nat.ne_of_lt I.big))⟩), rfl, h _ (I.hok.fresh (Nat.le_refl _))⟩⟩
abbrev trip (p : Addr × Rg) : NestedKey × Addr × Value := (rgKey p.2, p.1, Value.bool true)
theorem nodup_keys {rows : List (Addr × Rg)} (nd : (rows.map (·.2)).Nodup) : ((rows.map trip).map (·.1)).Nodup := by
  rw [List.map_map]
  refine List.pairwise_map.mpr (List.Pairwise.imp (fun {a b} h e => h (rgKey_inj e)) (List.pairwise_map.mp nd))
theorem atKey_trip (rows : List (Addr × Rg)) (r : Rg) : (atKey (rows.map trip) (rgKey r)).isSome = decide (r ∈ rows.map (·.2)) := by
  induction rows with
  | nil => rfl
  | cons p rows ih =>
    by_cases e : p.2 = r
    · have h1 : r ∈ (p :: rows).map (·.2) := List.mem_map.mpr ⟨p, List.mem_cons_self, e⟩
      rw [decide_eq_true h1]
      simp [atKey, List.find?_cons, e]
    · have e' : ¬ rgKey p.2 = rgKey r := fun z => e (rgKey_inj z)
      have h1 : (r ∈ (p :: rows).map (·.2)) = (r ∈ rows.map (·.2)) := by
        rw [List.map_cons, List.mem_cons]
        exact propext ⟨fun z => z.resolve_left fun q => e q.symm, .inr⟩
      have h2 : atKey ((p :: rows).map trip) (rgKey r) = atKey (rows.map trip) (rgKey r) := by
        simp [atKey, List.find?_cons, e']
      rw [h2, ih]
      simp only [h1]
theorem stored_trip (rows : List (Addr × Rg)) (a : Addr) (r : Rg) : storedH (rows.map trip) (rgKey r) a (Value.bool true) = (putR rows a r).map trip := by
  unfold storedH putR
  rw [atKey_trip]
  by_cases h : r ∈ rows.map (·.2)
  · rw [if_pos h, if_pos (decide_eq_true h), List.map_map]
    refine List.map_congr_left fun p _ => ?_
    show putAt (rgKey r) (Value.bool true) (trip p) = trip p
    unfold putAt
    split <;> rfl
  · rw [if_neg h, if_neg (by simpa using h), List.map_append]
    rfl
theorem NDict.keyed {h : Heap} {d : Addr} {rows : List (Addr × Rg)} (R : NDict P w h d rows) (hk : ∀ p ∈ rows, NestedIs h (rgKey p.2) (.ref p.1)) : h.DictOfH (nestedKind P w) d (rows.map trip) := by
  obtain ⟨o, es, ep, ho, hx, hd, he, nd, _⟩ := R
  refine ⟨o, es, ep, ho, hx, hd, by rw [he, List.map_map]; rfl, fun x hx => ?_, nodup_keys nd⟩
  obtain ⟨p, hp, rfl⟩ := List.mem_map.mp hx
  exact ⟨hk p hp, by rw [rgKey_depth]; decide⟩
theorem NDict.of {h : Heap} {d : Addr} {rows : List (Addr × Rg)} (hm : h.DictOfH (nestedKind P w) d (rows.map trip)) (hd : (d == sysModules) = false) : NDict P w h d rows := by
  obtain ⟨o, es, ep, ho, hx, hdd, he, _, nd⟩ := hm
  refine ⟨o, es, ep, ho, hx, hdd, by rw [he, List.map_map]; rfl, ?_, hd⟩
  rw [List.map_map] at nd
  exact List.pairwise_map.mpr (List.Pairwise.imp (fun {a b} h e => h (congrArg rgKey e)) (List.pairwise_map.mp nd))
/-- d[r] = True -/
theorem set_nd (hu : X.A.units + 64 < cLine) : PSet X (fun o i v H Q => ∃ (d a : Addr) (rows : List (Addr × Rg)) (r : Rg), o = .ref d ∧ i = .ref a ∧ v = .bl true ∧ H d = some (NDictO X.prog X.w d rows) ∧ RgAt X.K H a r ∧ (∀ p ∈ rows, RgAt X.K H p.1 p.2) ∧
    rows.length ≤ 1000 ∧ Q (upd H d (NDictO X.prog X.w d (putR rows a r)))) := by
  intro pins s σ H o i v ov iv u Q I ro ri rv h
  obtain ⟨d, a, rows, r, rfl, rfl, rfl, hd, hr, hrs, hl, q⟩ := h
  cases ro
  cases ri
  cases rv
  have R : NDict X.prog X.w s.heap d rows := (I.hok d _ hd).1
  have hS : (d == sysModules) = false := R.choose_spec.choose_spec.choose_spec.2.2.2.2.2
  refine wpAny_setItem_heap (knd := nestedKind X.prog X.w) (k := rgKey r) (xs := rows.map trip) (by show X.A.units + 1 + 8 < cLine; omega) ⟨RgAt.is I hr, by rw [rgKey_depth]; decide⟩ (R.keyed fun p hp => RgAt.is I (hrs p hp)) (fun h' hm' hs => ?_) (by rw [List.length_map, sizeLine_eq]; omega)
  rw [stored_trip] at hm'
  have R' := NDict.of hm' hS
  refine ⟨upd H d (NDictO X.prog X.w d (putR rows a r)), d_write (t' := s.toks + _) I (by rw [hd]; exact True.intro) hs (let ⟨o, _, _, e, _⟩ := R'; ⟨o, e⟩) (ndict_new R'), q⟩
/-- sorted(d) -/
theorem cr_sortNDict (hc : X.calm = true) (hu : X.A.units + 64 < cLine) : CallR X (.builtin "sorted") (fun vs H Q => ∃ (a : Addr) (rows : List (Addr × Rg)), vs = [V.ref a] ∧ H a = some (NDictO X.prog X.w a rows) ∧ (∀ p ∈ rows, RgAt X.K H p.1 p.2) ∧ rows.length ≤ 1000 ∧ SortedR H rows Q) := by
  intro pins s σ H vs us Q I r h
  obtain ⟨a, rows, rfl, ha, hk, hl, q⟩ := h
  rw [Vals.ref1 r]
  obtain ⟨o, es, ep, ho, hx, hd, he, nd, lo⟩ := (show NDict X.prog X.w s.heap a rows from (I.hok a _ ha).1)
  have hsz : es.size = rows.length := by rw [← Array.length_toList, he, List.length_map]
  have hz : rows.length ≤ sizeLine := by rw [sizeLine_eq]; omega
  refine sorted_by (H := H) (by omega) ?_
  refine PySem.W.kdu_collect (A := X.A.in1) (KdlSrc.rawDict (es := es) (ep := ep) lo) (I.ok.hd hc) ⟨o, ho, hx, hd⟩ (by rw [hsz]; exact hz) fun h' tk acc hk' hacc => ?_
  have hv : acc.toList = rows.map fun q => Value.ref q.1 := by
    refine List.ext_getElem? fun j => ?_
    rw [Array.getElem?_toList]
    by_cases hj : j < rows.length
    · have ha' : j < acc.size := by rw [hacc.1, hsz]; exact hj
      obtain ⟨hi, e⟩ := hacc.2 j acc[j] (Array.getElem?_eq_getElem ha')
      rw [Array.getElem?_eq_getElem ha', e, List.getElem?_map, List.getElem?_eq_getElem hj]
      have e2 : es.toList[j]? = some (ndEntry X.prog X.w rows[j]) := by rw [he, List.getElem?_map, List.getElem?_eq_getElem hj]; rfl
      rw [Array.getElem?_toList, Array.getElem?_eq_getElem hi] at e2
      rw [Option.some.inj e2]
      rfl
    · rw [Array.getElem?_eq_none (by rw [hacc.1, hsz]; omega), List.getElem?_eq_none (by rw [List.length_map]; omega)]
  have rv : Vals ((rows.map rgV).map (·.1)) acc.toList := by rw [hv]; exact vals_rgV (vals_ref rows)
  exact ⟨I.kept hk', rows.map rgV, rv, (fun z hz => by
    obtain ⟨p, hp, rfl⟩ := List.mem_map.mp hz
    exact hk p hp), rg_dataOk rows hz, q.to⟩
end

/-! ### a set of ranges -/
def NSet (P : Program) (w : World) (h : Heap) (a : Addr) (L : List (Addr × Rg)) : Prop :=
  ∃ (es : Array (Int × Value)) (ep : Nat) (t : SetTable), (∃ o, h.get? a = some o ∧ o.ExactSet ∧ o.data = .set es ep t) ∧ es.toList = L.map (rgKind P w).row ∧ t.fits es.size = true ∧ Ris t.place.toList ∧ (w.params.followText "set-order" = true ∨ t.led = true) ∧ L.length < 64
def NSetO (P : Program) (w : World) (a : Addr) (L : List (Addr × Rg)) : HO := .ext fun h => NSet P w h a L
section
variable {X : Cx} {P : Program} {w : World}
theorem nset_new {H : Hp} {h : Heap} {a : Addr} {L : List (Addr × Rg)} (R : NSet P w h a L) : ObjOk P w H h a (NSetO P w a L) := by
  have ⟨_, _, _, ⟨o, ho, _⟩, _⟩ := R
  exact ⟨R, ⟨o, ho⟩, fun h1 h2 ⟨es, ep, t, ⟨o, e, r⟩, q⟩ k => ⟨es, ep, t, ⟨o, k o e, r⟩, q⟩⟩
theorem rset_fresh {h : Heap} {a : Addr} (ho : h.get? a = some (emptySet w)) : RSet (rgKind P w) h a [] #[] 0 (.fresh 0 0 (!w.params.followText "set-order")) where
  ob := ⟨_, ho, ⟨rfl, rfl, rfl⟩, rfl⟩
  rows := rfl
  tab := ⟨List.Pairwise.nil, rfl, rfl, .inl rfl, fun x hx => (by cases hx), fun i h j hi => (by simp at hi)⟩
  nd := List.nodup_nil
  tup := fun p hp => (by cases hp)
  led := by
    show _ ∨ (!w.params.followText "set-order") = true
    cases w.params.followText "set-order"
    · exact .inr rfl
    · exact .inl rfl
  room := by
    show 0 * 5 < 7 * 3
    decide
  few := by
    show 0 < 64
    decide
/-- set(xs), xs a list of ranges -/
theorem cr_setRgs (hc : X.calm = true) (hu : X.A.units + 64 < cLine) : CallR X (.type "set") (fun vs H Q => ∃ (l : Addr) (rows : List (Addr × Rg)), vs = [V.ref l] ∧ SqL X.K H l (rows.map fun q => V.ref q.1) ∧ (∀ p ∈ rows, RgAt X.K H p.1 p.2) ∧ rows.length < 64 ∧
    ∀ a L, H a = none → (∀ p ∈ L, p ∈ rows) → (L.map (·.2)).Nodup → (∀ r, r ∈ L.map (·.2) ↔ r ∈ rows.map (·.2)) → Q (.ref a) (upd H a (NSetO X.prog X.w a L))) := by
  intro pins s σ H vs us Q I r h
  obtain ⟨l, rows, rfl, hl, hk, hlen, q⟩ := h
  rw [Vals.ref1 r]
  obtain ⟨its, rv, pl, hz⟩ := I.list hl
  have hn : H s.heap.objs.size = none := I.hok.fresh (Nat.le_refl _)
  have hits := refs_val rv
  have hil : its.toArray.size = rows.length := by rw [List.size_toArray, hits, List.length_map]
  have stS : ∀ p ∈ rows, (rgKind X.prog X.w).is s.heap p.2 p.1 := fun p hp => RgAt.is I (hk p hp)
  have none_of : ∀ b, s.heap.objs.size ≤ b → s.heap.get? b = none := fun b hb => by
    cases q : s.heap.get? b with
    | none => rfl
    | some o => exact absurd (Nat.lt_of_lt_of_le (Heap.lt_size q) hb) (Nat.lt_irrefl _)
  refine set_of_list (P := X.prog) (w := X.w) (I.ok.hd hc) pl.isList (J := fun i h' => (∀ b o, s.heap.get? b = some o → h'.get? b = some o) ∧ ∃ L es ep t, RSet (rgKind X.prog X.w) h' s.heap.objs.size L es ep t ∧ (∀ p ∈ L, p ∈ rows) ∧ (∀ r, r ∈ L.map (·.2) ↔ r ∈ (rows.take i).map (·.2)) ∧ L.length ≤ i)
    (fun h' k e => ⟨k, [], _, _, _, rset_fresh e, fun p hp => (by cases hp), fun r => by simp, Nat.le_refl _⟩) (fun i h h' I' hI ⟨kp, L, es, ep, t, R, m1, m2, hl⟩ k => ?_) (fun i v s' Q' E' hv ⟨kp, L, es, ep, t, R, m1, m2, hl⟩ go => ?_) fun h' tk ⟨kp, L, es, ep, t, R, m1, m2, hl⟩ k => ?_
  · have kp' : ∀ b o, s.heap.get? b = some o → h'.get? b = some o := fun b o e => k b o (fun z => by
      rw [z, none_of I' (Nat.le_of_lt hI)] at e
      cases e) (kp b o e)
    obtain ⟨o, ho, ho2⟩ := R.ob
    exact ⟨kp', L, es, ep, t, ⟨⟨o, k _ o (Nat.ne_of_lt hI) ho, ho2⟩, R.rows, R.tab, R.nd, fun p hp => (rgKind X.prog X.w).stay (stS p (m1 p hp)) fun c o vs n e _ => kp' c o e, R.led, R.room, R.few⟩, m1, m2, hl⟩
  · have hv' : its[i]? = some v := by simpa using hv
    rw [hits, List.getElem?_map] at hv'
    cases hp : rows[i]? with
    | none => rw [hp] at hv'; cases hv'
    | some p =>
      rw [hp] at hv'
      have ev : Value.ref p.1 = v := Option.some.inj hv'
      subst ev
      have hpm : p ∈ rows := List.mem_of_getElem? hp
      have ht : rows.take (i + 1) = rows.take i ++ [p] := by rw [List.take_succ, hp]; rfl
      have hi : i < rows.length := (List.getElem?_eq_some_iff.mp hp).1
      have hx : (rgKind X.prog X.w).is s'.heap p.2 p.1 := (rgKind X.prog X.w).stay (stS p hpm) fun c o vs n e _ => kp c o e
      have hu3 : X.A.in1.in1.in1.units + 8 < cLine := by show X.A.units + 3 + 8 < cLine; omega
      unfold setAdd
      refine wpAny_holding (wpAny_bind ((rgKind X.prog X.w).hashed hu3 hx ?_))
      refine RSet.add (s := { s' with toks := s'.toks + _ }) R hx hu3 (by omega) fun b h' L' es' ep' t' sb R' c1 c2 => ?_
      refine go b h' _ (Nat.le_add_right _ _) sb ⟨fun b o e => (sb.2 b (fun z => by rw [z, none_of _ (Nat.le_refl _)] at e; cases e)).trans (kp b o e), L', es', ep', t', R', ?_⟩
      by_cases hm : p.2 ∈ L.map (·.2)
      · rw [c1 hm]
        refine ⟨m1, fun r => ?_, Nat.le_succ_of_le hl⟩
        rw [ht, List.map_append, List.mem_append, ← m2 r]
        refine ⟨.inl, fun z => z.elim id fun e => ?_⟩
        rw [List.map_cons, List.map_nil, List.mem_singleton] at e
        rw [e]
        exact hm
      · have pm := c2 hm
        refine ⟨fun x hx => ?_, fun r => ?_, by rw [pm.length_eq, List.length_cons]; omega⟩
        · rcases List.mem_cons.mp (pm.mem_iff.mp hx) with e | z
          · rw [e]; exact hpm
          · exact m1 x z
        · rw [ht, List.map_append, List.mem_append, (pm.map (·.2)).mem_iff, List.map_cons, List.mem_cons, m2 r, List.map_cons, List.map_nil, List.mem_singleton]
          exact Or.comm
  · refine ⟨.ref s.heap.objs.size, upd H s.heap.objs.size (NSetO X.prog X.w s.heap.objs.size L), I.laid (t' := tk) k (Nat.le_refl _) (nset_new ⟨es, ep, t, R.ob, R.rows, RSet.fits (s := { s with heap := h' }) R, R.tab.ris, R.led, R.few⟩), rfl, q _ L hn m1 R.nd fun r => ?_⟩
    rw [m2 r, List.take_of_length_le (by rw [hil]; exact Nat.le_refl _)]
/-- sorted(found), found a set of ranges -/
theorem cr_sortNSet (hc : X.calm = true) (hu : X.A.units + 64 < cLine) : CallR X (.builtin "sorted") (fun vs H Q => ∃ (a : Addr) (L : List (Addr × Rg)), vs = [V.ref a] ∧ H a = some (NSetO X.prog X.w a L) ∧ (∀ p ∈ L, RgAt X.K H p.1 p.2) ∧ SortedR H L Q) := by
  intro pins s σ H vs us Q I r h
  obtain ⟨a, L, rfl, ha, hk, q⟩ := h
  rw [Vals.ref1 r]
  obtain ⟨es, ep, t, ⟨o, ho, hex, hd⟩, hrows, hf, hr, hl, hfew⟩ := (show NSet X.prog X.w s.heap a L from (I.hok a _ ha).1)
  have hsz : es.size = L.length := by rw [← Array.length_toList, hrows, List.length_map]
  refine sorted_by (H := H) (by omega) ?_
  refine collect_set (A := X.A.in1) (I.ok.hd hc) ⟨o, ho, hex.1, hd⟩ hf (by rw [hsz]; unfold scanBound; omega) hr hl fun s1 vs k1 hz1 g1 o1 pm => ?_
  have pm2 : vs.Perm (L.map fun q => Value.ref q.1) := by
    have e : es.toList.map (·.2) = L.map fun q => Value.ref q.1 := by rw [hrows, List.map_map]; rfl
    rw [← e]
    exact pm
  obtain ⟨L', pl, e⟩ := perm_of_map pm2 L rfl
  have J : Inv X pins σ H s1 := I.call' (ch := []) o1 (Un.kept k1) (I.hok.kept k1) (by rw [g1]; exact I.bare) (fun _ z => nomatch z)
  have rv : Vals ((L'.map rgV).map (·.1)) vs := by rw [e]; exact vals_rgV (vals_ref L')
  exact ⟨J, L'.map rgV, rv, (fun z hz => by
    obtain ⟨p, hp, rfl⟩ := List.mem_map.mp hz
    exact hk p (pl.mem_iff.mp hp)), rg_dataOk L' (by rw [pl.length_eq, sizeLine_eq]; omega), SortedR.to fun ys p pm3 => q ys p (pm3.trans pl)⟩
end
end L2.K47
/-! K47, part D0: heaps that change in places -/
namespace L2
open PySem PySem.Spec PyProof.Rows
/-! ### heaps that change in places -/
/-- a tuple, or a thing that is locked -/
def isT : HO → Bool
  | .tup _ => true
  | .frz _ _ => true
  | _ => false
/-- what M doesn't name is as it was, and every tuple; what was tracked is tracked -/
def FrM (M : Addr → Prop) (H H' : Hp) : Prop := ∀ b o, H b = some o → ((¬ M b ∨ isT o = true) → H' b = some o) ∧ ∃ o', H' b = some o'
section
variable {M N : Addr → Prop} {H H1 H2 H' : Hp} {a : Addr} {o u : HO}
theorem FrM.refl : FrM M H H := fun _ o e => ⟨fun _ => e, o, e⟩
theorem FrM.trans (x : FrM M H H1) (y : FrM M H1 H2) : FrM M H H2 := fun b o e => by
  obtain ⟨h1, o1, e1⟩ := x b o e
  obtain ⟨h2, o2, e2⟩ := y b o1 e1
  exact ⟨fun n => (y b o (h1 n)).1 n, o2, e2⟩
theorem FrM.mono (x : FrM M H H') (h : ∀ b, M b → N b) : FrM N H H' := fun b o e => ⟨fun n => (x b o e).1 (n.imp (fun n m => n (h b m)) id), (x b o e).2⟩
theorem FrM.same (x : Same H H') : FrM M H H' := fun b o e => ⟨fun _ => x b o e, o, x b o e⟩
theorem FrM.upd (x : FrM M H H') (e : H' a = some u) (hm : M a) (hT : isT u = false) : FrM M H (upd H' a o) := x.trans fun b q k => by
  by_cases h : b = a
  · rw [h] at k ⊢
    rw [k] at e
    cases Option.some.inj e
    exact ⟨fun n => n.elim (fun n => absurd hm n) (fun z => by rw [hT] at z; cases z), o, upd_same⟩
  · exact ⟨fun _ => (upd_ne h).trans k, q, (upd_ne h).trans k⟩
theorem FrM.new (x : FrM M H H') (hn : H' a = none) : FrM M H (L2.upd H' a o) := x.trans (FrM.same fun b q e => (upd_ne (ne_of_none e hn)).trans e)
theorem FrM.grow (x : FrM M H H1) (y : Same H1 H2) : FrM M H H2 := x.trans (FrM.same y)
theorem FrM.fresh {p : Addr} (x : FrM M H H1) (hp : H p = none) (y : FrM (· = p) H1 H2) : FrM M H H2 := fun b o e => by
  obtain ⟨h1, o1, e1⟩ := x b o e
  obtain ⟨_, o2, e2⟩ := y b o1 e1
  exact ⟨fun n => (y b o (h1 n)).1 (.inl (ne_of_none e hp)), o2, e2⟩
theorem FrM.at (x : FrM M H H') (e : H a = some o) (n : ¬ M a) : H' a = some o := (x a o e).1 (.inl n)
theorem FrM.free (x : FrM M H H') (h : H' a = none) : H a = none := by
  cases q : H a with
  | none => rfl
  | some o =>
    obtain ⟨_, o', e⟩ := x a o q
    rw [h] at e
    cases e
theorem Same.new (x : Same H H') (hn : H' a = none) : Same H (L2.upd H' a o) := fun b q e => (upd_ne (ne_of_none (x b q e) hn)).trans (x b q e)
theorem Same.unlock {f : HO} (e : H a = some u) (x : Same (L2.upd H a f) H') : Same H (L2.upd H' a u) := fun b q h => by
  by_cases hb : b = a
  · rw [hb] at h ⊢
    rw [upd_same, ← e, h]
  · rw [upd_ne hb]
    exact x b q ((upd_ne hb).trans h)
theorem SqT.same {K : PySem.W.Frag} {xs : List V} (e : Same H H') (h : SqT K H a xs) : SqT K H' a xs := SqT.ext h e
end
end L2
/-! K47, part D: lambdas that outlive their def: made, held in an attribute, called -/
namespace L2.K47
open PySem PySem.Spec PyProof.Rows LamX NdefX

/-- a lambda's words: its qualified name, its parameters, its body, its names, its captured cells, its code object -/
structure LM where
  qual : Str
  params : Arguments
  body : Expr
  scope : Scope
  cl : List (Str × Addr)
  c : Addr
def LamO (f : Addr) (L : LM) : HO := .ext fun h => ∃ (pm ctv : Value), h.get? f = some (PySem.W.kla_obj "<lambda>" L.qual L.params L.body L.scope L.cl pm L.c ctv)
/-- a cell that no running frame has, and what it holds -/
def CellO (c : Addr) (v : V) : HO := .ext fun h => ∃ u, RelV v u ∧ h.IsCell c (some u)
/-- the heap without what is told of c -/
def unc (H : Hp) (c : Addr) : Hp := fun b => if b = c then none else H b
theorem unc_self {H : Hp} {c : Addr} : unc H c c = none := if_pos rfl
theorem unc_ne {H : Hp} {b c : Addr} (h : b ≠ c) : unc H c b = H b := if_neg h
theorem unc_back {H : Hp} {c : Addr} {o : HO} (h : H c = some o) : upd (unc H c) c o = H := by
  funext b
  by_cases e : b = c
  · rw [e, upd_same, h]
  · rw [upd_ne e, unc_ne e]
theorem unc_some {H : Hp} {b c : Addr} {o : HO} (h : unc H c b = some o) : b ≠ c ∧ H b = some o := by
  by_cases e : b = c
  · rw [e, unc_self] at h; cases h
  · rw [unc_ne e] at h; exact ⟨e, h⟩

section
variable {P : Program} {w : World} {H H' : Hp} {h h' : Heap} {c f : Addr} {z : V} {L : LM}
theorem cellO_get (ok : HOk P w H h) (e : H c = some (CellO c z)) : ∃ u, RelV z u ∧ h.IsCell c (some u) := (ok c _ e).1
theorem lamO_get (ok : HOk P w H h) (e : H f = some (LamO f L)) : ∃ (pm ctv : Value), h.get? f = some (PySem.W.kla_obj "<lambda>" L.qual L.params L.body L.scope L.cl pm L.c ctv) := (ok f _ e).1
theorem cellO_ok {u : Value} (r : RelV z u) (x : h.IsCell c (some u)) : ObjOk P w H h c (CellO c z) := by
  obtain ⟨o, ho, hd⟩ := x
  exact ⟨⟨u, r, o, ho, hd⟩, ⟨o, ho⟩, fun h1 h2 ⟨u, r, o, ho, hd⟩ k => ⟨u, r, o, k o ho, hd⟩⟩
theorem lamO_ok {pm ctv : Value} (e : h.get? f = some (PySem.W.kla_obj "<lambda>" L.qual L.params L.body L.scope L.cl pm L.c ctv)) : ObjOk P w H h f (LamO f L) :=
  ⟨⟨pm, ctv, e⟩, ⟨_, e⟩, fun h1 h2 ⟨pm, ctv, e⟩ k => ⟨pm, ctv, k _ e⟩⟩
theorem HOk.unc (ok : HOk P w H h) (hc : ∃ z, H c = some (CellO c z)) : HOk P w (unc H c) h := fun b u e => by
  obtain ⟨z, hz⟩ := hc
  obtain ⟨_, e'⟩ := unc_some e
  exact (ok b u e').stay (fun _ _ _ q => q) (fun d q => by rw [unc_ne (ne_of q hz (by intro y; cases y))]; exact q) fun d xs q => by rw [unc_ne (ne_of q hz (by intro y; cases y))]; exact q
theorem HOk.cell {u : Value} (ok : HOk P w H h) (hc : H c = none) (r : RelV z u) (x : h.IsCell c (some u)) : HOk P w (upd H c (CellO c z)) h := fun b o e => by
  by_cases hb : b = c
  · subst hb
    rw [upd_same] at e
    cases e
    exact cellO_ok r x
  · rw [upd_ne hb] at e
    exact (ok b o e).stay (fun _ _ _ q => q) (fun d q => by rw [upd_ne (ne_of_none q hc)]; exact q) fun d xs q => by rw [upd_ne (ne_of_none q hc)]; exact q
end

/-! ### a lambda is made -/
section
variable {X : Cx} {pins : List (Addr × Obj)} {σ : St} {H : Hp} {s : Shared}
theorem lam_made {T : List (Addr × Str)} {c P : Addr} {params : Arguments} {body : Expr} {scope : Scope} {pos : Pos} {E : Value → Shared → Prop} {Q : Value → Shared → Prop} (I : Inv X pins σ H s) (TB : TabB X.base X.mg c P) (hcode : X.env.code = .ref c)
    (hm : (P, X.env.qual ++ "<lambda>") ∈ T) (hu : ∀ p ∈ T, p.1 = P → p.2 = X.env.qual ++ "<lambda>") (hT : Tabs T H) (hdef : defaultsOf params X.env = ([], [])) (hfree : ∀ y ∈ scope.names, y.2 = .free → ∃ c, X.env.cells.lookup y.1 = some c)
    (h : ∀ (f c' : Addr) (H1 : Hp) (s' : Shared), Inv X pins σ H1 s' → FrM (· = P) H H1 → Tabs T H1 → H f = none → H c' = none ∨ H c' = some (CodeO c' (X.env.qual ++ "<lambda>")) → H1 f = some (LamO f ⟨X.env.qual ++ "<lambda>", params, body, scope, cloFrom X.env.cells scope.names [], c'⟩) →
      H1 c' = some (CodeO c' (X.env.qual ++ "<lambda>")) → Q (.ref f) s') :
    wpAny (model X.prog X.w) X.A (eval (.Lambda params body scope pos) X.env) Q E s := by
  obtain ⟨ps, hP, ht, ha⟩ := hT _ hm
  refine PySem.W.kla_eval hdef ?_
  have bP : s.heap.BuiltinsAt X.mg P := TB.bm.keeps I.bk
  have hP' : s.heap.get? P = some { cls := .none, data := .fields ps } := I.hok P _ hP
  cases hc : codeAmong pos ps.toList with
  | none =>
    refine PySem.W.kla_makeFunction (mg := X.mg) (c := c) (P := P) (ps := ps) (closure_ok hfree) I.ok.glob (I.mod.glob.keeps I.bk) hcode (TB.code.keeps I.bk) hP' ht hc TB.gP bP fun c' ctv h' tk hx hge hlt hrec htb => ?_
    obtain ⟨c2, oc, vs, t, e2, hoc, hd, hv⟩ := hrec
    cases e2
    have nC : H c' = none := I.hok.fresh hge
    have I1 := inv_table (t' := tk) (more := #[rawInt pos.line, rawInt pos.col, .ref c']) (h' := h') I hP (fun b o hb e => hx b o hb e) htb hge ⟨oc, vs, t, hoc, hd, hv⟩
    have hE : ExtN H (upd (upd H P (.tbl (ps ++ #[rawInt pos.line, rawInt pos.col, .ref c']))) c' (CodeO c' (X.env.qual ++ "<lambda>"))) := fun b o e n => by
      rw [upd_ne (ne_of_none e nC), upd_ne (fun z => n ps (Option.some.inj (e.symm.trans (by rw [z]; exact hP))))]
      exact e
    have eL : (ps ++ #[rawInt pos.line, rawInt pos.col, .ref c']).toList = ps.toList ++ [rawInt pos.line, rawInt pos.col, .ref c'] := by simp
    have T1 : Tabs T (upd (upd H P (.tbl (ps ++ #[rawInt pos.line, rawInt pos.col, .ref c']))) c' (CodeO c' (X.env.qual ++ "<lambda>"))) := fun p hp => by
      by_cases hb : p.1 = P
      · rw [hu p hp hb, hb]
        refine ⟨_, by rw [upd_ne (ne_of_none hP nC), upd_same], by rw [eL]; exact PySem.TriplesOk_snoc _ _ _ _ ht, fun p' cv hcv => ?_⟩
        rw [eL] at hcv
        rcases among_app _ ht hcv with z | z
        · obtain ⟨c0, e1, e2⟩ := ha p' cv z
          exact ⟨c0, e1, hE _ _ e2 codeO_ne⟩
        · exact ⟨c', z, upd_same⟩
      · obtain ⟨ps', a1, a2, a3⟩ := hT p hp
        refine ⟨ps', by rw [upd_ne (ne_of_none a1 nC), upd_ne hb]; exact a1, a2, fun p' cv hcv => ?_⟩
        obtain ⟨c0, e1, e2⟩ := a3 p' cv hcv
        exact ⟨c0, e1, hE _ _ e2 codeO_ne⟩
    have nF := I1.hok.fresh (Nat.le_refl _)
    have eF : (h'.push (PySem.W.kla_obj "<lambda>" (X.env.qual ++ "<lambda>") params body scope (cloFrom X.env.cells scope.names []) ((X.mg "__name__").getD .none) c' ctv)).get? h'.objs.size = some (PySem.W.kla_obj "<lambda>" (X.env.qual ++ "<lambda>") params body scope (cloFrom X.env.cells scope.names []) ((X.mg "__name__").getD .none) c' ctv) := Heap.get?_push_size _ rfl
    have I2 := I1.laid (a := h'.objs.size) (o := LamO h'.objs.size ⟨X.env.qual ++ "<lambda>", params, body, scope, cloFrom X.env.cells scope.names [], c'⟩) (t' := tk) (fun b u e => Heap.get?_push_of_some _ e) (Nat.le_refl _) (lamO_ok eF)
    have cP : c' ≠ P := (ne_of_none hP nC).symm
    refine h h'.objs.size c' _ _ I2 (((FrM.upd (M := fun b => b = P) FrM.refl hP rfl rfl).new ((upd_ne cP).trans nC)).new nF) (T1.ext fun b o e => ?_) (I.hok.fresh (Nat.le_trans hge (Nat.le_of_lt hlt))) (.inl nC) upd_same ?_
    · exact (upd_ne (ne_of_none e nF)).trans e
    · exact (upd_ne (Nat.ne_of_lt hlt)).trans upd_same
  | some cv =>
    obtain ⟨c', e, hco⟩ := ha pos cv hc
    subst e
    refine PySem.W.kla_makeFunctionHit (mg := X.mg) (c := c) (P := P) (ps := ps) (closure_ok hfree) I.ok.glob (I.mod.glob.keeps I.bk) hcode (TB.code.keeps I.bk) hP' ht hc bP fun ctv h' tk hx hsz => ?_
    have I1 : Inv X pins σ H { s with heap := h', toks := tk } := I.kept hx
    have nF : H h'.objs.size = none := I1.hok.fresh (Nat.le_refl _)
    have eF : (h'.push (PySem.W.kla_obj "<lambda>" (X.env.qual ++ "<lambda>") params body scope (cloFrom X.env.cells scope.names []) ((X.mg "__name__").getD .none) c' ctv)).get? h'.objs.size = some (PySem.W.kla_obj "<lambda>" (X.env.qual ++ "<lambda>") params body scope (cloFrom X.env.cells scope.names []) ((X.mg "__name__").getD .none) c' ctv) := Heap.get?_push_size _ rfl
    have I2 := I1.laid (a := h'.objs.size) (o := LamO h'.objs.size ⟨X.env.qual ++ "<lambda>", params, body, scope, cloFrom X.env.cells scope.names [], c'⟩) (t' := tk) (fun b u e => Heap.get?_push_of_some _ e) (Nat.le_refl _) (lamO_ok eF)
    refine h h'.objs.size c' _ _ I2 (FrM.refl.new nF) (hT.ext fun b o e => ?_) nF (.inr hco) upd_same ?_
    · exact (upd_ne (ne_of_none e nF)).trans e
    · exact (upd_ne (ne_of_none hco nF)).trans hco
end
/-- lambda ..: .. as a value -/
def tLamb (P : Addr) (T : List (Addr × Str)) (mk : Addr → LM) : TE := fun _ H Q => Tabs T H ∧ ∀ (f c' : Addr) (H1 : Hp), FrM (· = P) H H1 → Tabs T H1 → H f = none → (H c' = none ∨ H c' = some (CodeO c' (mk c').qual)) → H1 f = some (LamO f (mk c')) →
  H1 c' = some (CodeO c' (mk c').qual) → Q (.ref f) H1
section
variable {X : Cx}
theorem pe_lamb {T : List (Addr × Str)} {c P : Addr} {params : Arguments} {body : Expr} {scope : Scope} {pos : Pos} (TB : TabB X.base X.mg c P) (hcode : X.env.code = .ref c) (hm : (P, X.env.qual ++ "<lambda>") ∈ T) (hu : ∀ p ∈ T, p.1 = P → p.2 = X.env.qual ++ "<lambda>")
    (hdef : defaultsOf params X.env = ([], [])) (hfree : ∀ y ∈ scope.names, y.2 = .free → X.env.scope.names.lookup y.1 = some .cell ∨ X.env.scope.names.lookup y.1 = some .free) :
    PE X (.Lambda params body scope pos) (tLamb P T fun c' => ⟨X.env.qual ++ "<lambda>", params, body, scope, cloFrom X.env.cells scope.names [], c'⟩) := by
  refine ⟨fun pins s σ H Q I h => ?_⟩
  obtain ⟨hT, h⟩ := h
  refine lam_made I TB hcode hm hu hT hdef (fun y hy e => (hfree y hy e).elim (fun z => I.ok.has _ (.inl z)) fun z => I.ok.has _ (.inr z)) fun f c' H1 s' I1 eN T1 f0 c0 f1 c1 => ?_
  exact ⟨.ref f, H1, I1, rfl, h f c' H1 eN T1 f0 c0 f1 c1⟩
end

/-! ### a lambda that holds one cell is called -/
abbrev LM.nf (L : LM) : NF := ⟨"<lambda>", L.qual, L.params, [], L.scope, L.cl, L.c⟩
/-- its promise: z is what its cell holds -/
abbrev SpL := V → Sp
structure LamOk (P : Program) (w : World) (K : PySem.W.Frag) (mg : Str → Option Value) (base : Heap) (k : Nat) (L : LM) (c : Addr) (ps : List Str) (sp : SpL) : Prop where
  len : ∀ z vs H Q E, sp z vs H Q E → vs.length = ps.length
  run : ∀ (A : Around) (outer : List Env) (s : Shared) (H : Hp) (f : Addr) (us : List Value) (vs : List V) (z : V) (Q : VK) (E : XK), Room k A → Env0 P w K mg base A outer s H → H f = some (LamO f L) → H L.c = some (CodeO L.c L.qual) → H c = some (CellO c z) → Vals vs us → sp z vs H Q E →
    codeAny (model P w) A (.call (.ref f) ⟨us, []⟩) (CR (fun _ _ _ _ _ _ => False) outer P w H s Q E) s
section
variable {P : Program} {w : World} {K : PySem.W.Frag} {mg : Str → Option Value} {base : Heap} {N ps : List Str} {y : Str} {L : LM} {c : Addr} {k : Nat} {sp : SpL}
theorem lamok_of (hcl : L.cl = [(y, c)]) (S : NScope N ps [y] L.scope) (hb : ∀ (pm ctv : Value) (us : List Value), us.length = ps.length → bindArgs (PySem.W.kla_fn "<lambda>" L.qual L.params L.body L.scope L.cl pm (.ref L.c) ctv) ⟨us, []⟩ = pure (ps.zip us))
    (len : ∀ z vs H Q E, sp z vs H Q E → vs.length = ps.length)
    (hbody : ∀ (f : Addr) (A : Around) (outer : List Env) (s : Shared) (H : Hp) (vs : List V) (z : V) (Q : VK) (E : XK), Room k (A.deeper (envF L.nf f s.heap.objs.size)) → sp z vs H Q E →
      ∃ t, PE (ncx (fun _ _ _ _ _ _ => False) P w K mg base N L.nf f A outer s (unc H c) E) L.body t ∧ (H c = some (CellO c z) → t (startF N vs [some z]) (unc H c) fun v H' => H' c = none → Q v (upd H' c (CellO c z)))) :
    LamOk P w K mg base (k + 1) L c ps sp := by
  refine ⟨len, fun A outer s H f us vs z Q E hr e0 hf hc hcell r hsp => ?_⟩
  have hl := len _ _ _ _ _ hsp
  have lim : s.heap.NoLimit := e0.mod.nolimit.keeps fun b o e => (e0.bs b o e).1
  obtain ⟨pm, ctv, ho⟩ := lamO_get e0.hok hf
  obtain ⟨u0, r0, x0⟩ := cellO_get e0.hok hcell
  have e1 : Env0 P w K mg base A outer s (unc H c) := ⟨e0.frames, e0.mod, fun b o e => ⟨(e0.bs b o e).1, by
    have q := (e0.bs b o e).2
    by_cases hb : b = c
    · rw [hb]; exact unc_self
    · rw [unc_ne hb]; exact q⟩, e0.bsz, e0.funs, fun b hb => by
    have q := e0.frf b hb
    by_cases hbc : b = c
    · rw [hbc]; exact unc_self
    · rw [unc_ne hbc]; exact q, HOk.unc e0.hok ⟨z, hcell⟩, e0.bare⟩
  have C : CellsAt L.nf.cl [y] [some z] s.heap (unc H c) := by
    show CellsAt L.cl [y] [some z] s.heap (unc H c)
    rw [hcl]
    have lk : ∀ (n : Str) (d : Addr), List.lookup n [(y, c)] = some d → n = y ∧ d = c := fun n d h => by
      by_cases e : n = y
      · rw [e] at h
        simp [List.lookup] at h
        exact ⟨e, h.symm⟩
      · have hb : (n == y) = false := beq_eq_false_iff_ne.mpr e
        simp [List.lookup, hb] at h
    refine ⟨rfl, fun n d h => ?_, fun n m d h1 h2 => (lk n d h1).1.trans (lk m d h2).1.symm, fun i n h => ?_⟩
    · rw [(lk n d h).2]
      exact ⟨unc_self, _, x0⟩
    · match i, h with
      | 0, h =>
        have e : y = n := Option.some.inj h
        subst e
        refine ⟨c, by simp [List.lookup], fun v hv => ?_⟩
        have e : z = v := Option.some.inj (Option.some.inj hv)
        subst e
        exact ⟨u0, r0, x0⟩
      | i + 1, h => simp at h
  refine PySem.W.kla_callFunE hr.depth ho rfl S.co S.gen rfl (codeO_at e0.hok hc) ?_
  rw [hb pm ctv us (by rw [← r.length]; exact hl)]
  refine wpAny_pure (wpAny_newFunctionEnv S.nocell (fun ⟨n, _⟩ hy => S.par n (List.of_mem_zip hy).1) (fun h₁ hns hsb => ⟨lim.fresh _ hsb, ?_⟩) S.kind)
  show codeAny _ _ (.expr L.body (envF L.nf f s.heap.objs.size)) _ _
  have kp : ∀ b o, s.heap.get? b = some o → h₁.get? b = some o := fun b o e => hsb.extBut b o (Nat.ne_of_lt (Heap.lt_size e)) (Heap.get?_push_of_some _ e)
  obtain ⟨t, ht, hq⟩ := hbody f A outer s H vs z Q E (hr.deeper _) hsp
  have I : Inv (ncx (fun _ _ _ _ _ _ => False) P w K mg base N L.nf f A outer s (unc H c) E) [] (startF N vs [some z]) (unc H c) { s with heap := h₁, toks := s.toks + (ps.zip us).length } := inv_startN S hr.hd e1 hl r C hns kp
  refine PySem.W.kla_codeExpr (wpAny_mono (ht.run [] _ (startF N vs [some z]) (unc H c) _ I (hq hcell)) (fun v s' hs => ?_) fun e s' hs => hs)
  obtain ⟨x, H', J, rv, q⟩ := hs
  obtain ⟨oc, hoc, hdc⟩ := x0
  have B : Un (frs outer) [] (unc H c) H' s.heap s'.heap := J.base
  have nfr : c ∉ frs outer := fun hm => by
    have q := e0.frf c hm
    rw [hcell] at q
    cases q
  have hc' : H' c = none := B.free c oc hoc unc_self (by simp)
  have hcc : s'.heap.IsCell c (some u0) := ⟨oc, B.keep c oc hoc unc_self nfr (by simp), hdc⟩
  have nn : ∀ b, H b = none → b ≠ c := fun b e z' => by rw [z', hcell] at e; cases e
  have sm : ∀ b u, H b = some u → (∀ z', u ≠ CellO c z') → b ≠ c := fun b u e n z' => by
    rw [z', hcell] at e
    exact n z (Option.some.inj e).symm
  refine ⟨x, upd H' c (CellO c z), J.os, J.bare, ⟨fun b o e n hb hx => ?_, fun b o e n hb hx => ?_, fun b o e n hx => ?_, B.there, fun b xs e => ?_, fun b o u e => ?_, fun b qs e => ?_⟩, HOk.cell J.hok hc' r0 hcc, rv, q hc'⟩
  · exact B.keep b o e (by rw [unc_ne (nn b n)]; exact n) hb hx
  · exact B.slot b o e (by rw [unc_ne (nn b n)]; exact n) hb hx
  · rw [upd_ne (nn b n)]
    exact B.free b o e (by rw [unc_ne (nn b n)]; exact n) hx
  · have h1 := sm b _ e (fun z' q => by unfold CellO at q; cases q)
    rw [upd_ne h1]
    exact B.tups b xs (by rw [unc_ne h1]; exact e)
  · have h1 := sm b _ e (fun z' q => by unfold CellO at q; cases q)
    rw [upd_ne h1]
    exact B.frzs b o u (by rw [unc_ne h1]; exact e)
  · have h1 := sm b _ e (fun z' q => by unfold CellO at q; cases q)
    rw [upd_ne h1]
    exact B.tbls b qs (by rw [unc_ne h1]; exact e)
end

/-! ### o.f(..), f an attribute that holds a lambda -/
section
variable {X : Cx} {pins : List (Addr × Obj)} {σ : St} {H : Hp} {s : Shared}
/-- an attribute asked for a call: its value alone, no object ahead of the arguments -/
theorem getmethval_ok {a C dx : Addr} {fs : List (Str × V)} {m : Str} {v : V} {pl : Sem Bool} {E : Value → Shared → Prop} {Q : Value × List Value → Shared → Prop} (I : Inv X pins σ H s) (e : H a = some (.ins C dx fs)) (c : Cls X.K C) (n : NoAttr X.K C m) (l : fs.lookup m = some v)
    (h : ∀ u s', Inv X pins σ H s' → RelV v u → Q (u, []) s') : wpAny (model X.prog X.w) X.A (getMethod (.ref a) m pl) Q E s := by
  obtain ⟨mA, O, _⟩ := ins_get I.hok e
  obtain ⟨od, J, _⟩ := O.look
  have KX := I.kIn
  unfold getMethod specialOf
  refine wpAny_bind (wpAny_bind (J.type.here ((PySem.W.looks_findIn KX (PySem.W.plainGet_of (c.get m)).1).here ?_)))
  dsimp only
  rw [PySem.F.canon_object_ga, if_neg (by decide)]
  refine wpAny_bind (wpAny_bind (J.type.here ((PySem.W.looks_findIn KX (PySem.W.plainGet_of (c.get m)).2).here ?_)))
  refine wpAny_bind (wpAny_bind (J.type.here ((PySem.W.looks_findIn KX n).here ?_)))
  exact wpAny_bind (getattr_ok I e c n l fun u s' I' r => wpAny_pure (h u s' I' r))
theorem lam_at {f : Addr} {L : LM} (I : Inv X pins σ H s) (e : H f = some (LamO f L)) : PySem.W.FnAt f s.heap := by
  obtain ⟨pm, ctv, ho⟩ := lamO_get I.hok e
  exact ⟨_, _, _, _, ho⟩
end
/-- the attribute m of the object holds a lambda by mk, whose cell at c holds z -/
def tCallF (K : PySem.W.Frag) (m : Str) (mk : Addr → Addr → LM) (sp : SpL) (to : TE) (t : TA) : TE := fun σ H Q => to σ H fun x H1 => ∃ a C dx fs f c cd, x = .ref a ∧ H1 a = some (.ins C dx fs) ∧ Cls K C ∧ NoAttr K C m ∧ fs.lookup m = some (.ref f) ∧ H1 f = some (LamO f (mk c cd)) ∧
  t σ H1 fun vs H2 => H2 f = some (LamO f (mk c cd)) ∧ H2 cd = some (CodeO cd (mk c cd).qual) ∧ ∃ z, H2 c = some (CellO c z) ∧ sp z vs H2 Q (fun _ _ _ => False)
section
variable {X : Cx} {o e : Expr} {es : List Expr} {apos pos : Pos} {m : Str} {mk : Addr → Addr → LM} {ps : List Str} {sp : SpL} {to : TE} {t : TA} {k : Nat}
theorem pe_callF {pl : Sem Bool} (ho : PE X o to) (F : ∀ c cd, LamOk X.prog X.w X.K X.mg X.base k (mk c cd) c ps sp) (hcd : ∀ c cd, (mk c cd).c = cd) (hr : Room k X.A) (ha : PA X (e :: es) t)
    (hst : starEach (e :: es) X.env = (false, eval e X.env) :: starEach es X.env := by rfl) (hpl : (backTo pos (starEach es X.env)).any (·.1) = false := by rfl)
    (ht : eval (.Call (.Attribute o m apos) (e :: es) [] pos) X.env = (do
      let ov ← eval o X.env
      standAt apos.atName
      let (f, first) ← holding [ov] (getMethod ov m pl)
      callWith pos f first (backTo pos (starEach (e :: es) X.env)) (backToKw pos (keywordEach [] X.env))) := by rfl) :
    PE X (.Call (.Attribute o m apos) (e :: es) [] pos) (tCallF X.K m mk sp to t) := by
  refine ⟨fun pins s σ H Q I h => ?_⟩
  refine PySem.W.methodCall_KW (pl := pl) (thn (ho.run pins s σ H _ I h) fun u s1 ⟨x, H1, I1, rx, a, C, dx, fs, f, c, cd, ex, ea, cl, n, l, hf, q⟩ => ?_) ht
  subst ex
  obtain rfl : u = Value.ref a := rx
  refine getmethval_ok I1 ea cl n l fun u s2 I2 ru => ?_
  obtain rfl : u = Value.ref f := ru
  refine PySem.W.callWith_F (first := []) (lam_at I2 hf) (thn (ha.run pos pins s2 σ H1 _ I2 q) fun us s3 ⟨vs, H3, I3, r, hf3, hc3, z, hz, q3⟩ => ⟨lam_at I3 hf3, ?_⟩) hst hpl
  show wpAny _ _ (call (.ref f) us) _ _ _
  refine wpAny_call (codeAny_mono ((F c cd).run X.A X.stack s3 H3 f us vs z Q (fun _ _ _ => False) hr I3.env0 hf3 (by rw [hcd]; exact hc3) hz r q3) fun r s' hq => ?_)
  cases r with
  | error e => exact (show False from hq).elim
  | ok fl =>
    cases fl with
    | ret u => exact I3.after hq
    | next => exact False.elim hq
    | brk => exact False.elim hq
    | cont => exact False.elim hq
end

/-! ### a def of one return, whose cell outlives it -/
section
variable {P : Program} {w : World} {K : PySem.W.Frag} {mg : Str → Option Value} {base : Heap}
theorem ok_retCell {x qual : Str} {st : Stmt} {f : Addr} {fd : FuncData} {N ps : List Str} {k i : Nat} {sp : Sp} {y : Str} {e : Expr} {pos : Pos} {cc : Addr} (F : Fun K x qual st f fd) (hcc : fd.code = .ref cc) (S : FnScope N ps (defScope st)) (hst : defBody st = [.Return (some e) pos]) (hy : N[i]? = some y) (hyc : (defScope st).names.lookup y = some .cell)
    (len : ∀ vs H Q E, sp vs H Q E → vs.length = ps.length)
    (hbody : ∀ (A : Around) (outer : List Env) (s : Shared) (H : Hp) (vs : List V) (Q : VK) (E : XK) (c : Addr) (z : V), Room k (A.deeper (envOfC qual (defScope st) s.heap.objs.size f (.ref cc))) → sp vs H Q E →
      (cellsFrom (s.heap.objs.size + 1) (defScope st).names []).lookup y = some c → (start N vs)[i]? = some (some z) → H c = none →
      ∃ t, PE (cxOf CX0 P w K mg base N qual (defScope st) f (.ref cc) A outer s H E).nox e t ∧ t (start N vs) H fun v H' => H' c = none → Q v (upd H' c (CellO c z)))
    (hz : ∀ vs H Q E, sp vs H Q E → ∃ z, (start N vs)[i]? = some (some z)) : FnOk P w K mg base CX0 (k + 1) f fd ps sp := by
  obtain ⟨oc, od, kV, doc, pm, an, cdv, ct, osl, rfl, lk, hcd⟩ := F.ex
  have ecc : cdv = .ref cc := hcc
  subst ecc
  refine ⟨len, fun A outer s H args us vs Q E hr e0 hb r hsp => ?_⟩
  have hl := len _ _ _ _ hsp
  have KX : K.In s.heap := e0.mod.kin.keeps fun b o e => (e0.bs b o e).1
  have lim : s.heap.NoLimit := e0.mod.nolimit.keeps fun b o e => (e0.bs b o e).1
  have hkind : ∀ y ∈ ps.zip us, (defScope st).names.lookup y.1 = some .local ∨ ((defScope st).names.lookup y.1 = some .cell ∧ ((cellsFrom (s.heap.objs.size + 1) (defScope st).names []).lookup y.1).isSome = true) := fun ⟨n, v⟩ hy => by
    rcases S.par n (List.of_mem_zip hy).1 with q | q
    · exact .inl q
    · exact .inr ⟨q, PySem.W.cellsFrom_some _ _ _ (.inl q)⟩
  refine codeAny_call_function hr.depth (KX _ _ lk) rfl S.co S.gen rfl (PySem.W.codeRec_of KX hcd) (hb _ _ _ _ ?_)
  refine wpAny_newFunctionEnv_cells S.kind hkind fun env he s1 xx => ?_
  subst he
  refine ⟨lim.keeps xx.toInCall.keep, codeAny_func ?_⟩
  obtain ⟨z, hzi⟩ := hz _ _ _ _ hsp
  obtain ⟨c, hc⟩ := cell_has (n := s.heap.objs.size + 1) hyc
  have hca : s.heap.objs.size ≤ c := Nat.le_of_lt (xx.above y c (PySem.mem_of_lookup hc))
  obtain ⟨t, ht, hq⟩ := hbody A outer s H vs Q E c z (hr.deeper _) hsp hc hzi (e0.hok.fresh hca)
  have I : Inv (cxOf CX0 P w K mg base N qual (defScope st) f (.ref cc) A outer s H E) [] (start N vs) H s1 := inv_start S hr.hd e0 hl r xx
  rw [hst]
  refine wpAny_execs_cons (wpAny_Return_some (wpAny_mono (ht.nox.run [] s1 (start N vs) H _ I hq) (fun u s' hs => ?_) fun e s' hs => hs))
  obtain ⟨v, H', J, rv, q⟩ := hs
  have B : Un (frs outer) [] H H' s.heap s'.heap := J.base
  have hc' : H' c = none := J.freeC y c hc
  obtain ⟨m, hn, hlk⟩ := J.loc
  obtain ⟨u0, r0, look⟩ := hlk i y z hy hzi (.inr (.inl hyc))
  have hcell : s'.heap.IsCell c (some u0) := by
    rcases look with ⟨k1, _⟩ | ⟨_, c2, e2, q2⟩
    · have k1 : (defScope st).names.lookup y = some .local := k1
      rw [hyc] at k1
      cases k1
    · have e2 : (cellsFrom (s.heap.objs.size + 1) (defScope st).names []).lookup y = some c2 := e2
      rw [hc] at e2
      cases e2
      exact q2
  have old : ∀ b o, s.heap.get? b = some o → b ≠ c := fun b o e z' => by
    rw [z'] at e
    exact absurd (Nat.lt_of_lt_of_le (Heap.lt_size e) hca) (Nat.lt_irrefl _)
  have oldH : ∀ b u, H b = some u → b ≠ c := fun b u e z' => by
    have q := e0.hok.lt e
    rw [z'] at q
    exact absurd (Nat.lt_of_lt_of_le q hca) (Nat.lt_irrefl _)
  refine ⟨v, upd H' c (CellO c z), J.os, J.bare, ⟨B.keep, B.slot, fun b o e n hx => ?_, B.there, fun b xs e => ?_, fun b o u e => ?_, fun b qs e => ?_⟩, HOk.cell J.hok hc' r0 hcell, rv, q hc'⟩
  · rw [upd_ne (old b o e)]
    exact B.free b o e n hx
  · rw [upd_ne (oldH b _ e)]
    exact B.tups b xs e
  · rw [upd_ne (oldH b _ e)]
    exact B.frzs b o u e
  · rw [upd_ne (oldH b _ e)]
    exact B.tbls b qs e
end
end L2.K47
/-! K47, part E1: != of instances with an own __eq__; < of data that are alike; min and max of two texts -/
namespace L2.K47
open PySem PySem.Spec PyProof.Rows

section
variable {M : Model} {prog : Program} {w : World} {A : Around} {E : Value → Shared → Prop} {s : Shared} {K : PySem.W.Frag} {x y C f : Addr} {ox oy : Obj} {od oy' : Option Obj}
theorem ifBound_objNe {args : List Value} {Q : Option Value → Shared → Prop} (X : K.In s.heap) (I : PySem.W.InstAt s.heap x ox C od) (hs : PySem.W.findIn K (.ref C) "__ne__" = some (some (.builtin "object.__ne__")))
    (h : wpAny M A (call (.builtin "object.__ne__") (.ref x :: args)) (fun v => Q (some v)) E s) : wpAny M A (callSpecialIfBound? (.ref x) "__ne__" args) Q E s := by
  simp only [callSpecialIfBound?, bindSpecialIfBound?]
  refine wpAny_holding (wpAny_bind (wpAny_bind (wpAny_bind (I.type.here ((PySem.W.looks_findIn X hs).here ?_)))))
  refine wpAny_bind (wpAny_askSetting (wpAny_ite ?_))
  have fin : wpAny M A (call (.builtin "object.__ne__") ([.ref x] ++ args) >>= fun v => pure (some v)) Q E s := wpAny_bind (wpAny_mono h (fun v s' h' => wpAny_pure h') fun _ _ h' => h')
  split
  · exact wpAny_bind (wpAny_of_eq (F.cmp_object.ne.bind _) (wpAny_pure (by exact fin)))
  · exact wpAny_tryCatch (wpAny_bind (wpAny_of_eq (F.cmp_object.ne.bind _) (wpAny_pure (by exact fin))))
theorem objNe_own {Q : Fin → Shared → Prop} (hu : A.units < cLine) (X : K.In s.heap) (I : PySem.W.InstAt s.heap x ox C od) (hs : PySem.W.findIn K (.ref C) "__eq__" = some (some (.ref f))) (hf : PySem.W.isFn K (.ref f) = true)
    (h : wpAny (model prog w) A (call (.ref f) [.ref x, .ref y]) (fun v s' => ∃ b, v = .bool b ∧ Q (.done (.ret (.bool (!b)))) s') E s) :
    wpAny (model prog w) A (Builtin.«object.__ne__» ⟨[.ref x, .ref y], []⟩) Q E s := by
  obtain ⟨hp, g, d, t, os⟩ := s
  unfold Builtin.«object.__ne__»
  repeat (first
    | with_reducible refine wpAny_cRoomFor hu ?_
    | (refine wpAny_bind (m := callSpecialIfBound? (.ref x) (Str.ofString "__eq__") [.ref y])
        (PySem.W.ifBound_K X I hs hf (wpAny_mono h (fun r s' hr => by
          obtain ⟨b, rfl, hq⟩ := hr
          repeat (first | exact hq | exact wpAny_pure hq | exact wpAny_truthy_bool hq | (refine wpAny_bind (m := truthy (.bool _)) (wpAny_truthy_bool ?_)) | wp_step)) fun _ _ e => e)))
    | wp_step)
theorem rcNe_own {Q : Value → Shared → Prop} (hu : A.units + 1 < cLine) (X : K.In s.heap) (I : PySem.W.InstAt s.heap x ox C od) (J : PySem.W.InstAt s.heap y oy C oy') (hm : PySem.W.mroIn K C (.type "object") = some true)
    (hn : PySem.W.findIn K (.ref C) "__ne__" = some (some (.builtin "object.__ne__"))) (hs : PySem.W.findIn K (.ref C) "__eq__" = some (some (.ref f))) (hf : PySem.W.isFn K (.ref f) = true)
    (h : wpAny (model prog w) A.in1 (call (.ref f) [.ref x, .ref y]) (fun v s' => ∃ b, v = .bool b ∧ Q (.bool (!b)) s') E s) :
    wpAny (model prog w) A (richCompare .NotEq (.ref x) (.ref y)) Q E s := by
  have one : wpAny (model prog w) A (tryCompare (.ref x) "__ne__" (.ref y)) (fun r s' => ∃ v, r = some v ∧ Q v s') E s := by
    unfold tryCompare
    refine wpAny_bind (ifBound_objNe X I hn (wpAny_call (codeAny_call_builtin F.cmp_object.ne.plain F.cmpEntry_ne (PySem.W.check_slot F.cmpKind_ne F.cmpSplit_ne (I.type.andThen (PySem.W.looks_mroIn X hm)) (F.cmpArgs_ne _ _)
      (objNe_own (A := A.in1) (by show A.units + 1 < cLine; exact hu) X I hs hf (wpAny_mono h (fun v s' hv => ?_) fun _ _ e => e))))))
    obtain ⟨b, rfl, hq⟩ := hv
    first
      | exact ⟨b, rfl, wpAny_pure ⟨_, rfl, hq⟩⟩
      | exact ⟨b, rfl, wpAny_pure (wpAny_pure ⟨_, rfl, hq⟩)⟩
      | exact ⟨b, rfl, ⟨_, rfl, hq⟩⟩
  unfold richCompare
  simp only [oneThing_ref]
  refine wpAny_holding (wpAny_bind (wpAny_cRoomFor (Nat.lt_of_succ_lt hu) ?_))
  refine wpAny_bind (I.type.here (wpAny_bind (J.type.here ?_)))
  rw [show (Value.ref C != Value.ref C) = false from by simp]
  simp only [Bool.false_eq_true, if_false]
  refine wpAny_bind (wpAny_pure ?_)
  simp only [Bool.false_eq_true, if_false]
  refine wpAny_bind (m := tryCompare (.ref x) _ (.ref y)) (wpAny_mono one (fun r s' z => ?_) fun _ _ e => e)
  obtain ⟨v, rfl, hq⟩ := z
  exact wpAny_pure hq
end

section
variable {X : Cx} {n : Nat}
/-- a != b, instances of a class with an own ==, which says that they are equal -/
theorem op_neIns {CX : CXT} {C f : Addr} {fd : FuncData} {ps : List Str} {R : Addr → Addr → Hp → Prop} (G : FnOk X.prog X.w X.K X.mg X.base CX n f fd ps (spEq R)) (hr : Room (n + 1) X.A) (hm : PySem.W.mroIn X.K C (.type "object") = some true)
    (hn : PySem.W.findIn X.K (.ref C) "__ne__" = some (some (.builtin "object.__ne__"))) (hs : PySem.W.findIn X.K (.ref C) "__eq__" = some (some (.ref f))) (hf : PySem.W.isFn X.K (.ref f) = true) (hb : Binds X.K fd ps []) (hx : Passes CX X (fun _ _ _ => False)) :
    OpR X (compareOp .NotEq) (fun x y H Q => ∃ a b dx dy fs gs, x = V.ref a ∧ y = V.ref b ∧ H a = some (.ins C dx fs) ∧ H b = some (.ins C dy gs) ∧ R a b H ∧ ∀ H', Ext H H' → Q (.bl false) H') := by
  intro pins s σ H x y v u Q I rx ry hq
  obtain ⟨a, b, dx, dy, fs, gs, rfl, rfl, ha, hb', hR, q⟩ := hq
  cases rx
  cases ry
  obtain ⟨mA, J, _⟩ := ins_get I.hok ha
  obtain ⟨mB, J', _⟩ := ins_get I.hok hb'
  obtain ⟨od, J, _⟩ := J.look
  obtain ⟨od', J', _⟩ := J'.look
  show wpAny (model X.prog X.w) X.A (richCompare .NotEq (.ref a) (.ref b)) (EP X pins σ Q) X.xe s
  refine rcNe_own hr.in1.units0 I.kIn J J' hm hn hs hf ?_
  have hsp : spEq R [.ref a, .ref b] H (fun v H' => v = .bl true ∧ Ext H H') (fun _ _ _ => False) := ⟨a, b, rfl, hR, fun H' e => ⟨rfl, e⟩⟩
  have e0 : Env0 X.prog X.w X.K X.mg X.base X.A.in1 X.stack s H := by
    have e := I.env0
    exact ⟨e.frames, e.mod, e.bs, e.bsz, e.funs, e.frf, e.hok, e.bare⟩
  have hl := G.len _ _ _ _ hsp
  have r2 : Vals [V.ref a, V.ref b] [Value.ref a, Value.ref b] := .cons rfl (.cons rfl .nil)
  refine wpAny_call (codeAny_mono (G.run X.A.in1 X.stack s H ⟨[.ref a, .ref b], []⟩ [.ref a, .ref b] [.ref a, .ref b] _ (fun _ _ _ => False) hr.in1 e0 (by
    have := hb s [.ref a, .ref b] I.kIn (by simpa using hl)
    simpa using this) r2 hsp) fun r s' hq => ?_)
  cases r with
  | error e => exact hx pins σ H s e s' I hq
  | ok fl =>
    cases fl with
    | ret w =>
      obtain ⟨z, H', I', rz, ez, ex⟩ := I.after hq
      subst ez
      cases rz
      exact ⟨true, rfl, .bl false, H', I', rfl, q H' ex⟩
    | next => exact False.elim hq
    | brk => exact False.elim hq
    | cont => exact False.elim hq

/-- x < y of data that are alike -/
def rLtD (K : PySem.W.Frag) : R2 := fun x y H Q => ∃ d e, Dp K H x d ∧ Dp K H y e ∧ PySem.W.alike d e = true ∧ d ≠ .none ∧ d.depth ≤ 8 ∧ Q (.bl (PySem.W.dataLt d e)) H
theorem op_ltD (hu : X.A.units + 64 < cLine) : OpR X (compareOp .Lt) (rLtD X.K) := by
  intro pins s σ H x y v u Q I rx ry h
  obtain ⟨d, e, hd, he, al, nn, dp, q⟩ := h
  obtain ⟨as, r1⟩ := Dp.reads I d x v hd rx
  obtain ⟨bs, r2⟩ := Dp.reads I e y u he ry
  exact PySem.W.rcLt_alike d e X.A s v u as bs r1 r2 al nn (by omega) X.prog X.w X.xe _ ⟨.bl _, H, I, rfl, q⟩
end
end L2.K47
/-! K47, part E2: min and max of two texts; what stays in a heap that grows or changes; comprehensions by what they gather -/
namespace L2.K47
open PySem PySem.Spec PyProof.Rows

/-! ### min(a, b), max(a, b) of texts: one of the two -/
section
variable {X : Cx} {prog : Program} {w : World} {A : Around} {E : Value → Shared → Prop} {s : Shared} {a b : Str} {t u : Tok} {Q : Value → Shared → Prop}
def strAt (i : Nat) : Str := if i = 0 then a else b
theorem two_items {v : Value} {i : Nat} (h : (#[Value.str a t, Value.str b u] : Array Value)[i]? = some v) : ∃ t', v = .str (strAt (a := a) (b := b) i) t' := by
  match i, h with
  | 0, h =>
    have e : Value.str a t = v := Option.some.inj h
    exact ⟨t, e.symm⟩
  | 1, h =>
    have e : Value.str b u = v := Option.some.inj h
    exact ⟨u, e.symm⟩
  | i + 2, h => simp at h
theorem cmp_strs (op : CmpOp) (f : Str → Str → Bool) (hf : ∀ (x y : Str) (t u : Tok) (s : Shared) (Q : Value → Shared → Prop) (E : Value → Shared → Prop), Q (.bool (f x y)) s → wpAny (model prog w) A (richCompare op (.str x t) (.str y u)) Q E s) :
    CmpOf prog w A op (fun i v => (#[Value.str a t, Value.str b u] : Array Value)[i]? = some v) (fun i j => f (strAt (a := a) (b := b) i) (strAt (a := a) (b := b) j)) := fun i j vi vj s Q E hi hj h => by
  obtain ⟨t, rfl⟩ := two_items hi
  obtain ⟨u, rfl⟩ := two_items hj
  exact hf _ _ _ _ _ _ _ h
theorem two_str {id : String} (hid : ∀ {Q : Value → Shared → Prop}, wpAny (model prog w) A.in1 (pyIter (.ref s.heap.objs.size)) (fun it s₂ => ∃ I fp wr n P St bt, it = .ref I ∧ Walks prog w A.in1 I fp wr n P St ∧ St 0 s₂.heap ∧ (∀ b ∈ fp, b < s₂.heap.objs.size) ∧ 0 < n ∧ CmpOf prog w A.in1 op P bt ∧
      ∀ v h' tk, P (argBest bt (n - 1)) v → (∀ b o, b ∉ wr → s₂.heap.get? b = some o → h'.get? b = some o) → Q v { s₂ with heap := h', toks := tk }) E
      { s with heap := s.heap.push { cls := .type "tuple", data := .seq #[.str a t, .str b u] } } → wpAny (model prog w) A (call (.builtin id) [.str a t, .str b u]) Q E s)
    (hh : A.handled = none) (f : Str → Str → Bool) (hf : ∀ (x y : Str) (t u : Tok) (s : Shared) (Q : Value → Shared → Prop) (E : Value → Shared → Prop), Q (.bool (f x y)) s → wpAny (model prog w) A.in1 (richCompare op (.str x t) (.str y u)) Q E s)
    (h : ∀ v h' tk, (v = .str a t ∨ v = .str b u) → (∀ c o, s.heap.get? c = some o → h'.get? c = some o) → Q v { s with heap := h', toks := tk }) :
    wpAny (model prog w) A (call (.builtin id) [.str a t, .str b u]) Q E s := by
  have hT : (s.heap.push { cls := .type "tuple", data := .seq #[.str a t, .str b u] }).IsTuple s.heap.objs.size #[.str a t, .str b u] := ⟨_, Heap.get?_push_size _ rfl, rfl, 0, rfl⟩
  refine hid (wpAny_pyIter_tuple hT ?_)
  have hsz : (s.heap.push { cls := .type "tuple", data := .seq #[.str a t, .str b u] }).objs.size = s.heap.objs.size + 1 := Heap.size_push ..
  refine ⟨_, [_, s.heap.objs.size], [_], _, _, _, _, rfl, Walks.tuple (A := A.in1) hh _ s.heap.objs.size (by rw [hsz]; exact Nat.ne_of_lt (Nat.lt_succ_self _)) #[.str a t, .str b u],
    ⟨⟨_, Heap.get?_push_size _ rfl, rfl, rfl⟩, hT.push _⟩, fun c hc => ?_, by simp, cmp_strs op f hf, fun v h' tk hP hk => ?_⟩
  · show c < ((s.heap.push _).push _).objs.size
    rw [Heap.size_push, hsz]
    rcases List.mem_cons.mp hc with rfl | hc
    · rw [hsz]; exact Nat.lt_succ_self _
    · rcases List.mem_cons.mp hc with rfl | hc
      · exact Nat.lt_succ_of_lt (Nat.lt_succ_self _)
      · cases hc
  · refine h v h' tk ?_ fun c o e => ?_
    · generalize argBest _ _ = i at hP
      match i, hP with
      | 0, hP => exact .inl (Option.some.inj hP).symm
      | 1, hP => exact .inr (Option.some.inj hP).symm
      | i + 2, hP => simp at hP
    · refine hk c o (fun hm => ?_) (Heap.get?_push_of_some _ (Heap.get?_push_of_some _ e))
      rcases List.mem_cons.mp hm with e1 | hm
      · have := Heap.lt_size e; rw [e1, hsz] at this; exact Nat.lt_irrefl _ (Nat.lt_of_succ_lt this)
      · cases hm
abbrev rTwo : List V → Hp → VK → Prop := fun xs H Q => ∃ i j, xs = [V.str i, V.str j] ∧ Q (.str i) H ∧ Q (.str j) H
theorem call_minS (hc : X.calm = true) : CallR X (.builtin "min") rTwo := by
  intro pins s σ H xs us Q I r h
  obtain ⟨i, j, rfl, q1, q2⟩ := h
  obtain ⟨u, w', rfl, ⟨t, rfl⟩, ⟨t', rfl⟩⟩ := vals2 r
  refine two_str (op := .Lt) (fun h => call_min_two h) (I.ok.hd hc) (fun x y => decide (x.cps.toList < y.cps.toList)) (fun x y t u s Q E h => lt_str h) fun v h' tk hv k => ?_
  rcases hv with rfl | rfl
  · exact ⟨.str i, H, I.kept k, ⟨t, rfl⟩, q1⟩
  · exact ⟨.str j, H, I.kept k, ⟨t', rfl⟩, q2⟩
theorem call_maxS (hc : X.calm = true) : CallR X (.builtin "max") rTwo := by
  intro pins s σ H xs us Q I r h
  obtain ⟨i, j, rfl, q1, q2⟩ := h
  obtain ⟨u, w', rfl, ⟨t, rfl⟩, ⟨t', rfl⟩⟩ := vals2 r
  refine two_str (op := .Gt) (fun h => call_max_two h) (I.ok.hd hc) (fun x y => decide (y.cps.toList < x.cps.toList)) (fun x y t u s Q E h => PySem.P.gt_str h) fun v h' tk hv k => ?_
  rcases hv with rfl | rfl
  · exact ⟨.str i, H, I.kept k, ⟨t, rfl⟩, q1⟩
  · exact ⟨.str j, H, I.kept k, ⟨t', rfl⟩, q2⟩
end

end L2.K47
namespace L2
open PySem PySem.Spec PyProof.Rows
mutual
theorem Dp.same {K : PySem.W.Frag} {H H' : Hp} (e : Same H H') : ∀ (d : PyData) (v : V), Dp K H v d → Dp K H' v d
  | .none, _, h => by cases h; exact .non
  | .bool b, _, h => by cases h; exact .bl b
  | .int i, _, h => by cases h; exact .int i
  | .str x, _, h => by cases h; exact .str x
  | .list ds, _, h => by
    cases h with
    | lst hs ha => exact .lst (e.seq hs) (DpAll.same e ds _ ha)
  | .tuple ds, _, h => by
    cases h with
    | tup hs ha => exact .tup (SqT.same e hs) (DpAll.same e ds _ ha)
  | .dict _, _, h => by cases h
theorem DpAll.same {K : PySem.W.Frag} {H H' : Hp} (e : Same H H') : ∀ (ds : List PyData) (vs : List V), DpAll K H vs ds → DpAll K H' vs ds
  | [], _, h => by cases h; exact .nil
  | d :: ds, _, h => by
    cases h with
    | cons h1 h2 => exact .cons (Dp.same e d _ h1) (DpAll.same e ds _ h2)
end
mutual
/-- no list in it, no dict -/
def noL : PyData → Bool
  | .list _ => false
  | .dict _ => false
  | .tuple ds => noLAll ds
  | _ => true
def noLAll : List PyData → Bool
  | [] => true
  | d :: ds => noL d && noLAll ds
end
theorem noLAll_map {α : Type} (f : α → PyData) (h : ∀ a, noL (f a) = true) : ∀ l : List α, noLAll (l.map f) = true
  | [] => rfl
  | a :: l => by rw [List.map_cons, noLAll, h a, noLAll_map f h l]; rfl
/-- where everything that is a tuple (or frozen) stays, data without lists stay -/
def Tups (H H' : Hp) : Prop := ∀ b o, H b = some o → ((∃ xs, o = .tup xs) ∨ ∃ q u, o = .frz q u) → H' b = some o
theorem FrM.tups {M : Addr → Prop} {H H' : Hp} (x : FrM M H H') : Tups H H' := fun b o e k => (x b o e).1 (.inr (by
  rcases k with ⟨_, rfl⟩ | ⟨_, _, rfl⟩ <;> rfl))
theorem Tups.sqT {K : PySem.W.Frag} {H H' : Hp} {a : Addr} {xs : List V} (e : Tups H H') (h : SqT K H a xs) : SqT K H' a xs := by
  rcases h with (h | ⟨o, h⟩) | h
  · exact .inl (.inl (e _ _ h (.inl ⟨_, rfl⟩)))
  · exact .inl (.inr ⟨o, e _ _ h (.inr ⟨_, _, rfl⟩)⟩)
  · exact .inr h
mutual
theorem Dp.tups {K : PySem.W.Frag} {H H' : Hp} (e : Tups H H') : ∀ (d : PyData) (v : V), noL d = true → Dp K H v d → Dp K H' v d
  | .none, _, _, h => by cases h; exact .non
  | .bool b, _, _, h => by cases h; exact .bl b
  | .int i, _, _, h => by cases h; exact .int i
  | .str x, _, _, h => by cases h; exact .str x
  | .list ds, _, n, h => by cases n
  | .tuple ds, _, n, h => by
    cases h with
    | tup hs ha => exact .tup (e.sqT hs) (DpAll.tups e ds _ n ha)
  | .dict _, _, _, h => by cases h
theorem DpAll.tups {K : PySem.W.Frag} {H H' : Hp} (e : Tups H H') : ∀ (ds : List PyData) (vs : List V), noLAll ds = true → DpAll K H vs ds → DpAll K H' vs ds
  | [], _, _, h => by cases h; exact .nil
  | d :: ds, _, n, h => by
    rw [noLAll, Bool.and_eq_true] at n
    cases h with
    | cons h1 h2 => exact .cons (Dp.tups e d _ n.1 h1) (DpAll.tups e ds _ n.2 h2)
end
theorem noLAll_append : ∀ {ds es : List PyData}, noLAll ds = true → noLAll es = true → noLAll (ds ++ es) = true
  | [], _, _, h => h
  | d :: ds, es, h, k => by
    rw [noLAll, Bool.and_eq_true] at h
    rw [List.cons_append, noLAll, h.1, noLAll_append h.2 k]
    rfl
theorem Tups.lst {H : Hp} {a : Addr} {xs : List V} {o : HO} (e : H a = some (.lst xs)) : Tups H (upd H a o) := fun b q h k => by
  rw [upd_ne]
  · exact h
  · intro z
    rw [z, e] at h
    cases Option.some.inj h
    rcases k with ⟨_, k⟩ | ⟨_, _, k⟩ <;> cases k
section
variable {K : PySem.W.Frag} {H H' : Hp}
theorem DpAll.length : ∀ {vs : List V} {ds : List PyData}, DpAll K H vs ds → vs.length = ds.length
  | [], _, h => by cases h; rfl
  | v :: vs, _, h => by
    cases h with
    | cons _ h => rw [List.length_cons, List.length_cons, DpAll.length h]
theorem DpAll.snoc : ∀ {vs : List V} {ds : List PyData} {v : V} {d : PyData}, DpAll K H vs ds → Dp K H v d → DpAll K H (vs ++ [v]) (ds ++ [d])
  | [], _, _, _, h, k => by cases h; exact .cons k .nil
  | _ :: vs, _, _, _, h, k => by
    cases h with
    | cons h t => exact .cons h (DpAll.snoc t k)
theorem DpAll.get : ∀ {vs : List V} {ds : List PyData} {i : Nat} {v : V}, DpAll K H vs ds → vs[i]? = some v → ∃ d, ds[i]? = some d ∧ Dp K H v d
  | [], _, _, _, _, e => by simp at e
  | _ :: vs, _, 0, _, h, e => by
    cases h with
    | cons h t =>
      simp at e
      subst e
      exact ⟨_, rfl, h⟩
  | _ :: vs, _, i + 1, _, h, e => by
    cases h with
    | cons h t =>
      obtain ⟨d, h1, h2⟩ := DpAll.get (i := i) t (by simpa using e)
      exact ⟨d, by simpa using h1, h2⟩
theorem DpAll.strs : ∀ {ks : List Str} {vs : List V}, DpAll K H vs (ks.map PyData.str) → vs = ks.map V.str
  | [], _, h => by cases h; rfl
  | k :: ks, _, h => by
    cases h with
    | cons h1 h2 =>
      cases h1
      rw [List.map_cons, ← DpAll.strs h2]
theorem DpAll.ofStrs : ∀ (ks : List Str), DpAll K H (ks.map V.str) (ks.map PyData.str)
  | [] => .nil
  | k :: ks => .cons (.str k) (DpAll.ofStrs ks)
theorem DpAll.bls : ∀ {bs : List Bool} {vs : List V}, DpAll K H vs (bs.map PyData.bool) → vs = bs.map V.bl
  | [], _, h => by cases h; rfl
  | k :: ks, _, h => by
    cases h with
    | cons h1 h2 =>
      cases h1
      rw [List.map_cons, ← DpAll.bls h2]
end

/-! ### comprehensions: what is gathered, as data; the heap only grows -/
section
variable {K : PySem.W.Frag} {J : It} {n : Nat} {G : Hp → Prop} {Y : Nat → Hp → V → Hp → Prop}
theorem lc_data (w : Walk J n G Y) {g : TG} {tt : TT} {te : TE} {vs : List Nat} {σ : St} {H1 : Hp} {D : Addr} {Qd : Hp → Prop} (hD : H1 D = none) (hG : ∀ H, Same H1 H → G H) (o : Nat → List PyData) (ho : o 0 = []) (hn : n < sizeLine)
    (hs : ∀ i x H H' (K1 : V → Hp → Prop) (K0 : Hp → Prop), i < n → Same H1 H → Y i H x H' → (∀ y d H4, Same H H4 → Dp K H4 y d → noL d = true → o (i + 1) = o i ++ [d] → K1 y H4) → (∀ H4, Same H H4 → o (i + 1) = o i → K0 H4) →
      g x (wipe σ vs) H' fun σ2 H2 => wipe σ2 vs = wipe σ vs ∧ tt σ2 H2 fun b H3 => if b = true then te σ2 H3 K1 else K0 H3)
    (hd : ∀ H ys, Same H1 H → H D = some (.lst ys) → DpAll K H ys (o n) → Qd H) :
    ∃ W : Nat → Nat → Hp → Prop, (∃ m, W 0 m (upd H1 D (.lst []))) ∧ ∀ i m H, W i m H →
      (J.stop i H ∧ Qd H) ∨ (J.go i H ∧ ∃ Nx : Hp → Prop, (∀ H', Nx H' → ∃ m', m' < m ∧ W (i + 1) m' H') ∧ ∀ x H', J.yld i H x H' → g x (wipe σ vs) H' fun σ2 H2 => wipe σ2 vs = wipe σ vs ∧ tt σ2 H2 fun b H3 =>
        if b = true then te σ2 H3 fun y H4 => ∃ acc, H4 D = some (.lst acc) ∧ acc.length < sizeLine ∧ Nx (upd H4 D (.lst (acc ++ [y]))) else Nx H3) := by
  have up : ∀ {H4 : Hp} {u : HO}, Same H1 H4 → Same H1 (upd H4 D u) := fun s b q e => (upd_ne (ne_of_none e hD)).trans (s b q e)
  refine lc_it w (fun i H => Same H1 H ∧ ∃ ys, H D = some (.lst ys) ∧ ys.length ≤ i ∧ noLAll (o i) = true ∧ DpAll K H ys (o i)) ?_ (fun i H hi p => hG H p.1) ?_ ?_
  · refine ⟨up (Same.refl _), [], upd_same, Nat.le_refl _, ?_⟩
    rw [ho]
    exact ⟨rfl, .nil⟩
  · rintro i x H H' hi ⟨s1, ys, hy, hl, hnl, hda⟩ hY
    refine hs i x H H' _ _ hi s1 hY (fun y d H4 s4 hd nd e => ?_) fun H4 s4 e => ?_
    · have hy4 := s4 _ _ hy
      refine ⟨ys, hy4, by omega, up (s1.trans s4), ys ++ [y], upd_same, by simp; omega, ?_⟩
      rw [e]
      exact ⟨noLAll_append hnl (by rw [noLAll, nd]; rfl), DpAll.snoc (DpAll.tups (Tups.lst hy4) _ _ hnl (DpAll.same s4 _ _ hda)) (Dp.tups (Tups.lst hy4) _ _ nd hd)⟩
    · refine ⟨s1.trans s4, ys, s4 _ _ hy, by omega, ?_⟩
      rw [e]
      exact ⟨hnl, DpAll.same s4 _ _ hda⟩
  · rintro H ⟨s1, ys, hy, _, _, hda⟩
    exact hd H ys s1 hy hda
end
end L2
/-! K47, part F0: the text by places; calls of defs whose promises are known by name -/
namespace L2.K47
open PySem PySem.Spec PyProof.Rows

def top (i : Nat) : Stmt := PySem.Challenge.pw_wholecommits_k47_whole_transactions_apar.main.body.getD i (.Pass ⟨0, 0, 0, 0⟩)
abbrev sIsInt : Stmt := top 4
abbrev sIsWithin : Stmt := top 5
abbrev sIsPair : Stmt := top 6
abbrev sIsKey : Stmt := top 7
abbrev sIsWorth : Stmt := top 8
abbrev sRising : Stmt := top 16
abbrev sAreKeys : Stmt := top 17
abbrev sIsRange : Stmt := top 18
abbrev sAreRanges : Stmt := top 19
abbrev sIsWrite : Stmt := top 20
abbrev sAreWrites : Stmt := top 21
abbrev sDInit : Stmt := inClass (top 23) 0
abbrev sDParts : Stmt := inClass (top 23) 1
abbrev sDEq : Stmt := inClass (top 23) 2
abbrev sNumbered : Stmt := top 24
abbrev sBadPart : Stmt := top 25
abbrev sCheckKey : Stmt := top 27
abbrev sWithin : Stmt := top 28
abbrev sTInit : Stmt := inClass (top 29) 0
abbrev sTCheck : Stmt := inClass (top 29) 1
abbrev sTStands : Stmt := inClass (top 29) 2
abbrev sTGet : Stmt := inClass (top 29) 3
abbrev sTBetween : Stmt := inClass (top 29) 4
abbrev sTPut : Stmt := inClass (top 29) 5
abbrev sTDrop : Stmt := inClass (top 29) 6
abbrev sTEnd : Stmt := inClass (top 29) 7
abbrev sTIsOpen : Stmt := inClass (top 29) 8
abbrev sTSawKeys : Stmt := inClass (top 29) 9
abbrev sTSawRanges : Stmt := inClass (top 29) 10
abbrev sTWrote : Stmt := inClass (top 29) 11
abbrev sTDealing : Stmt := inClass (top 29) 12
abbrev sLHand : Stmt := top 31
abbrev sLDraw : Stmt := top 32
abbrev sLAny : Stmt := top 33
abbrev sLKey : Stmt := top 34
abbrev sLWorth : Stmt := top 35
abbrev sLSnap : Stmt := top 36
abbrev sLWalked : Stmt := top 37
abbrev sLAccount : Stmt := top 38
abbrev sLGot : Stmt := top 39
abbrev sLRanged : Stmt := top 40
abbrev sLParts : Stmt := top 41
abbrev sLStep : Stmt := top 42
abbrev sLMadeOver : Stmt := top 43
abbrev sLMade : Stmt := top 44
abbrev sLDealt : Stmt := top 45
abbrev sLRight : Stmt := top 46
abbrev sLaw : Stmt := top 47

/-- no exception is wished for -/
abbrev E0 : XK := fun _ _ _ => False
/-- the def x of the module, with its promise -/
structure GOk (P : Program) (w : World) (K : PySem.W.Frag) (mg : Str → Option Value) (base : Heap) (k : Nat) (x : Str) (sp : Sp) : Prop where
  ex : ∃ (f : Addr) (fd : FuncData) (ps : List Str), FnOk P w K mg base CX0 k f fd ps sp ∧ mg x = some (.ref f) ∧ PySem.W.keepIn K (.ref f) = true ∧ Binds K fd ps []
/-- the method m of the class at C, with its promise -/
structure MOk (P : Program) (w : World) (K : PySem.W.Frag) (mg : Str → Option Value) (base : Heap) (C : Addr) (k : Nat) (m : Str) (sp : Sp) : Prop where
  ex : ∃ (f : Addr) (fd : FuncData) (ps : List Str), FnOk P w K mg base CX0 k f fd ps sp ∧ Cls K C ∧ Meth K C m f ∧ Binds K fd ps []
/-- the class x at C is made by an __init__ of this promise -/
structure COk (P : Program) (w : World) (K : PySem.W.Frag) (mg : Str → Option Value) (base : Heap) (C : Addr) (k : Nat) (x : Str) (sp : Sp) : Prop where
  ex : ∃ (f : Addr) (fd : FuncData) (ps : List Str), FnOk P w K mg base CX0 k f fd ps sp ∧ mg x = some (.ref C) ∧ Mk K C f ∧ Binds K fd ps []
section
variable {X : Cx} {k j : Nat} {x m : Str} {sp : Sp} {C : Addr} {p pos apos : Pos} {e o : Expr} {es : List Expr} {t : TA} {ta : TE}
theorem pe_g (G : GOk X.prog X.w X.K X.mg X.base k x sp) (hr : Room j X.A) (hg : Gl X x) (ha : PA X (e :: es) t) (hkj : k ≤ j := by decide) (hdb : (x == ("__debug__" : Str)) = false := by decide) (he : starEach (e :: es) X.env = (false, eval e X.env) :: starEach es X.env := by rfl)
    (hpl : (backTo pos (starEach es X.env)).any (·.1) = false := by rfl) : PE X (.Call (.Name x p) (e :: es) [] pos) (tCall sp [] E0 t) := by
  obtain ⟨f, fd, ps, F, hm, hk, hb⟩ := G.ex
  exact pe_call F (hr.mono hkj) hg hm hk hb .nil pass0 ha hdb he hpl
theorem pe_m {pl : Sem Bool} (he : PE X o ta) (G : MOk X.prog X.w X.K X.mg X.base C k m sp) (hr : Room j X.A) (ha : PA X (e :: es) t) (hkj : k ≤ j := by decide)
    (hst : starEach (e :: es) X.env = (false, eval e X.env) :: starEach es X.env := by rfl) (hpl : (backTo pos (starEach es X.env)).any (·.1) = false := by rfl)
    (ht : eval (.Call (.Attribute o m apos) (e :: es) [] pos) X.env = (do
      let ov ← eval o X.env
      standAt apos.atName
      let (f, first) ← holding [ov] (getMethod ov m pl)
      callWith pos f first (backTo pos (starEach (e :: es) X.env)) (backToKw pos (keywordEach [] X.env))) := by rfl) :
    PE X (.Call (.Attribute o m apos) (e :: es) [] pos) (tMeth C m sp [] E0 ta t) := by
  obtain ⟨f, fd, ps, F, hc, hm, hb⟩ := G.ex
  exact pe_meth he hc hm F (hr.mono hkj) hb .nil pass0 ha hst hpl ht
theorem pe_m0 {pl : Sem Bool} (he : PE X o ta) (G : MOk X.prog X.w X.K X.mg X.base C k m sp) (hr : Room j X.A) (hkj : k ≤ j := by decide)
    (ht : eval (.Call (.Attribute o m apos) [] [] pos) X.env = (do
      let ov ← eval o X.env
      standAt apos.atName
      let (f, first) ← holding [ov] (getMethod ov m pl)
      callWith pos f first (backTo pos (starEach [] X.env)) (backToKw pos (keywordEach [] X.env))) := by rfl) :
    PE X (.Call (.Attribute o m apos) [] [] pos) (tMeth C m sp [] E0 ta tNil) := by
  obtain ⟨f, fd, ps, F, hc, hm, hb⟩ := G.ex
  exact pe_meth0 he hc hm F (hr.mono hkj) hb .nil pass0 ht
theorem pe_c (G : COk X.prog X.w X.K X.mg X.base C k x sp) (hr : Room j X.A) (hg : Gl X x) (ha : PA X (e :: es) t) (hkj : k + 1 ≤ j := by decide) (hdb : (x == ("__debug__" : Str)) = false := by decide) (he : starEach (e :: es) X.env = (false, eval e X.env) :: starEach es X.env := by rfl)
    (hpl : (backTo pos (starEach es X.env)).any (·.1) = false := by rfl) : PE X (.Call (.Name x p) (e :: es) [] pos) (tMake C sp [] E0 t) := by
  obtain ⟨f, fd, ps, F, hm, hM, hb⟩ := G.ex
  exact pe_make hM F (hr.mono hkj) hg hm hb .nil pass0 ha hdb he hpl
end
/-- a def that stands at f, to be called by its name -/
structure Df (K : PySem.W.Frag) (mg : Str → Option Value) (x qual : Str) (st : Stmt) (ps : List Str) : Prop where
  ex : ∃ (f : Addr) (fd : FuncData), Fun K x qual st f fd ∧ Binds K fd ps [] ∧ mg x = some (.ref f)
/-- a method that stands at f -/
structure Mf (K : PySem.W.Frag) (C : Addr) (x qual : Str) (st : Stmt) (ps : List Str) : Prop where
  ex : ∃ (f : Addr) (fd : FuncData), Fun K x qual st f fd ∧ Binds K fd ps [] ∧ Cls K C ∧ Meth K C x f
/-- a class with its __init__ -/
structure Cf (K : PySem.W.Frag) (mg : Str → Option Value) (C : Addr) (x qual : Str) (st : Stmt) (ps : List Str) : Prop where
  ex : ∃ (f : Addr) (fd : FuncData), Fun K "__init__" qual st f fd ∧ Binds K fd ps [] ∧ mg x = some (.ref C) ∧ Mk K C f
section
variable {P : Program} {w : World} {K : PySem.W.Frag} {mg : Str → Option Value} {base : Heap} {x qual : Str} {st : Stmt} {N ps : List Str} {k : Nat} {sp : Sp} {C : Addr}
theorem Df.ok (D : Df K mg x qual st ps) (h : ∀ f fd, Fun K x qual st f fd → FnOk P w K mg base CX0 k f fd ps sp) : GOk P w K mg base k x sp := by
  obtain ⟨f, fd, F, b, m⟩ := D.ex
  exact ⟨f, fd, ps, h f fd F, m, F.kp, b⟩
theorem Mf.ok (D : Mf K C x qual st ps) (h : ∀ f fd, Fun K x qual st f fd → FnOk P w K mg base CX0 k f fd ps sp) : MOk P w K mg base C k x sp := by
  obtain ⟨f, fd, F, b, c, m⟩ := D.ex
  exact ⟨f, fd, ps, h f fd F, c, m, b⟩
theorem Cf.ok (D : Cf K mg C x qual st ps) (h : ∀ f fd, Fun K "__init__" qual st f fd → FnOk P w K mg base CX0 k f fd ps sp) : COk P w K mg base C k x sp := by
  obtain ⟨f, fd, F, b, m, M⟩ := D.ex
  exact ⟨f, fd, ps, h f fd F, m, M, b⟩
end
end L2.K47
/-! K47, part F1: the domain: keys, worths, ranges, rows of a dict; sorted rows are one -/
namespace L2.K47
open PySem PySem.Spec PyProof.Rows

def key10 : List Str := ["a", "b", "ba", "c", "d", "m", "zz", "abcdefghijkl", "az", "aa"]
def lettersS : Str := "abcdefghijklmnopqrstuvwxyz"
def KeyOk (k : Str) : Prop := k ∈ key10
theorem KeyOk.len {k : Str} (h : KeyOk k) : 1 ≤ k.length ∧ k.length ≤ 12 := by
  have all : ∀ k ∈ key10, 1 ≤ k.length ∧ k.length ≤ 12 := by decide +kernel
  exact all k h
theorem KeyOk.letters {k : Str} (h : KeyOk k) : ∀ c ∈ k.cps.toList, c ∈ lettersS.cps.toList := by
  have all : ∀ k ∈ key10, ∀ c ∈ k.cps.toList, c ∈ lettersS.cps.toList := by decide +kernel
  exact all k h
def WorthOk (z : Int) : Prop := -10 ^ 18 ≤ z ∧ z ≤ 10 ^ 18

/-! ### order of texts -/
abbrev leS (a b : Str) : Prop := a.cps.toList ≤ b.cps.toList
abbrev ltS (a b : Str) : Prop := a.cps.toList < b.cps.toList
theorem leS_trans {a b c : Str} (h : leS a b) (k : leS b c) : leS a c := List.le_trans h k
theorem leS_total (a b : Str) : leS a b ∨ leS b a := List.le_total _ _
theorem str_ext {a b : Str} (h : a.cps.toList = b.cps.toList) : a = b := by
  cases a; cases b
  congr
  exact Array.toList_inj.mp h
theorem leS_antisymm {a b : Str} (h : leS a b) (k : leS b a) : a = b := str_ext (List.le_antisymm h k)
theorem ltS_of {a b : Str} (h : leS a b) (n : a ≠ b) : ltS a b := by
  by_cases k : ltS a b
  · exact k
  · exact absurd (leS_antisymm h (List.not_lt.mp k)) n
theorem leS_of {a b : Str} (h : ltS a b) : leS a b := List.le_of_lt h

/-- rows in a total order are one -/
theorem sorted_unique {α : Type} {r : α → α → Prop} (anti : ∀ a b, r a b → r b a → a = b) : ∀ {l m : List α}, l.Perm m → l.Pairwise r → m.Pairwise r → l = m
  | [], m, p, _, _ => (List.nil_perm.mp p).symm
  | a :: l, [], p, _, _ => absurd (List.perm_nil.mp p) (by simp)
  | a :: l, b :: m, p, hl, hm => by
    rw [List.pairwise_cons] at hl hm
    have e : a = b := by
      have h1 : a ∈ b :: m := p.mem_iff.mp List.mem_cons_self
      have h2 : b ∈ a :: l := p.mem_iff.mpr List.mem_cons_self
      rcases List.mem_cons.mp h1 with e | h1
      · exact e
      · rcases List.mem_cons.mp h2 with e | h2
        · exact e.symm
        · exact anti a b (hl.1 b h2) (hm.1 a h1)
    subst e
    rw [sorted_unique anti ((List.perm_cons a).mp p) hl.2 hm.2]
theorem asc_unique {l m : List Str} (p : l.Perm m) (h : Asc l) (k : Asc m) : l = m := sorted_unique (fun _ _ => leS_antisymm) p h k

/-- the texts in their order -/
def srtS (l : List Str) : List Str := l.mergeSort fun a b => decide (leS a b)
theorem srtS_perm (l : List Str) : (srtS l).Perm l := List.mergeSort_perm _ _
theorem srtS_asc (l : List Str) : Asc (srtS l) := by
  have h := List.pairwise_mergeSort (le := fun a b : Str => decide (leS a b)) (fun a b c h k => decide_eq_true (leS_trans (of_decide_eq_true h) (of_decide_eq_true k))) (fun a b => by
    rcases leS_total a b with h | h
    · simp [h]
    · simp [h]) l
  exact h.imp fun h => of_decide_eq_true h
theorem srtS_eq {l m : List Str} (p : m.Perm l) (h : Asc m) : m = srtS l := asc_unique (p.trans (srtS_perm l).symm) h (srtS_asc l)
theorem srtS_congr {l m : List Str} (p : l.Perm m) : srtS l = srtS m := srtS_eq ((srtS_perm l).trans p) (srtS_asc l)
theorem mem_srtS {l : List Str} {k : Str} : k ∈ srtS l ↔ k ∈ l := (srtS_perm l).mem_iff
/-- each less than the next -/
def AscL (ks : List Str) : Prop := ks.Pairwise ltS
theorem srtS_strict {l : List Str} (nd : l.Nodup) : AscL (srtS l) := by
  have h := (srtS_asc l).and ((srtS_perm l).nodup_iff.mpr nd)
  exact h.imp fun ⟨h, n⟩ => ltS_of h n
theorem filter_srtS (f : Str → Bool) (l : List Str) : srtS (l.filter f) = (srtS l).filter f :=
  (srtS_eq ((srtS_perm l).filter f) ((srtS_asc l).filter f)).symm

theorem nodup_le {α : Type} [DecidableEq α] : ∀ {l m : List α}, l.Nodup → (∀ x ∈ l, x ∈ m) → l.length ≤ m.length
  | [], _, _, _ => Nat.zero_le _
  | x :: l, m, nd, h => by
    rw [List.nodup_cons] at nd
    have hx := h x List.mem_cons_self
    have ih := nodup_le (l := l) (m := m.erase x) nd.2 fun y hy => (List.mem_erase_of_ne (fun e => nd.1 (by rw [← e]; exact hy))).mpr (h y (List.mem_cons_of_mem _ hy))
    rw [List.length_erase_of_mem hx] at ih
    have := List.length_pos_of_mem hx
    rw [List.length_cons]
    omega
theorem perm_of_mem {α : Type} [DecidableEq α] {l m : List α} (h : l.Nodup) (k : m.Nodup) (e : ∀ a, a ∈ l ↔ a ∈ m) : l.Perm m := (List.perm_ext_iff_of_nodup h k).mpr e

/-! ### rows of a dict -/
abbrev KVs := List (Key × V)
def kStr : Key → Str
  | .inr k => k
  | .inl _ => ⟨#[]⟩
def keysOf (d : KVs) : List Str := d.map fun p => kStr p.1
def VOk (v : V) : Prop := v = .non ∨ ∃ z, v = .int z ∧ WorthOk z
/-- a dict of keys and worths or None -/
structure WK (d : KVs) : Prop where
  row : ∀ p ∈ d, (∃ k, p.1 = .inr k ∧ KeyOk k) ∧ VOk p.2
  nd : (d.map (·.1)).Nodup
theorem WK.keys {d : KVs} (h : WK d) : d.map (·.1) = (keysOf d).map Sum.inr := by
  have all : ∀ l : KVs, (∀ p ∈ l, ∃ k, p.1 = Sum.inr k) → l.map (·.1) = (keysOf l).map Sum.inr := by
    intro l
    induction l with
    | nil => intro _; rfl
    | cons p l ih =>
      intro h
      obtain ⟨k, e⟩ := h p List.mem_cons_self
      unfold keysOf at ih ⊢
      rw [List.map_cons, List.map_cons, List.map_cons, ih fun q hq => h q (List.mem_cons_of_mem _ hq), e]
      rfl
  exact all d fun p hp => let ⟨⟨k, e, _⟩, _⟩ := h.row p hp; ⟨k, e⟩
theorem WK.ndk {d : KVs} (h : WK d) : (keysOf d).Nodup := by
  have n := h.nd
  rw [h.keys] at n
  exact (List.pairwise_map.mp n).imp fun h e => h (by rw [e])
theorem WK.key {d : KVs} (h : WK d) {k : Str} (hk : k ∈ keysOf d) : KeyOk k := by
  obtain ⟨p, hp, e⟩ := List.mem_map.mp hk
  obtain ⟨⟨k', e', ok⟩, _⟩ := h.row p hp
  rw [e'] at e
  rw [← e]
  exact ok
theorem WK.len {d : KVs} (h : WK d) : d.length ≤ 10 := by
  have := nodup_le (m := key10) h.ndk fun k hk => h.key hk
  rw [show d.length = (keysOf d).length from (List.length_map _).symm]
  exact this
theorem WK.nil : WK [] := ⟨fun p hp => (by cases hp), List.nodup_nil⟩
theorem valV_mem {d : KVs} {k : Key} {v : V} (h : valV d k = some v) : (k, v) ∈ d := by
  unfold valV at h
  cases e : d.find? fun kv => decide (kv.1 = k) with
  | none => rw [e] at h; cases h
  | some p =>
    rw [e] at h
    have h1 := List.find?_some e
    have h2 := List.mem_of_find?_eq_some e
    have h3 : p.1 = k := of_decide_eq_true h1
    have h4 : p.2 = v := Option.some.inj h
    rw [← h3, ← h4]
    exact h2
theorem valV_has {d : KVs} {k : Key} : (valV d k).isSome = true ↔ k ∈ d.map (·.1) := by
  rw [← valV_any, List.any_eq_true, List.mem_map]
  constructor
  · rintro ⟨p, hp, e⟩
    exact ⟨p, hp, of_decide_eq_true e⟩
  · rintro ⟨p, hp, e⟩
    exact ⟨p, hp, decide_eq_true e⟩
theorem mem_keysOf {d : KVs} (h : WK d) {k : Str} : k ∈ keysOf d ↔ (valV d (.inr k)).isSome = true := by
  rw [valV_has, h.keys, List.mem_map]
  constructor
  · intro hk
    exact ⟨k, hk, rfl⟩
  · rintro ⟨k', hk, e⟩
    cases e
    exact hk
theorem WK.val {d : KVs} (h : WK d) {k : Str} (hk : k ∈ keysOf d) : ∃ v, valV d (.inr k) = some v ∧ VOk v := by
  obtain ⟨v, e⟩ := Option.isSome_iff_exists.mp ((mem_keysOf h).mp hk)
  exact ⟨v, e, (h.row _ (valV_mem e)).2⟩
theorem WK.vok {d : KVs} (h : WK d) {k : Key} {v : V} (e : valV d k = some v) : VOk v := (h.row _ (valV_mem e)).2
theorem putK_keys (d : KVs) (k : Key) (v : V) : (k ∈ d.map (·.1) ∧ (putK d k v).map (·.1) = d.map (·.1)) ∨ (¬ k ∈ d.map (·.1) ∧ (putK d k v).map (·.1) = d.map (·.1) ++ [k]) := by
  unfold putK
  by_cases h : (d.any fun kv => decide (kv.1 = k)) = true
  · have h' : k ∈ d.map (·.1) := by
      rw [valV_any] at h
      exact valV_has.mp h
    refine .inl ⟨h', ?_⟩
    rw [if_pos h, List.map_map]
    refine List.map_congr_left fun p hp => ?_
    show (if p.1 = k then (p.1, v) else p).1 = p.1
    split <;> rfl
  · have h' : ¬ k ∈ d.map (·.1) := fun q => h (by rw [valV_any]; exact valV_has.mpr q)
    refine .inr ⟨h', ?_⟩
    rw [if_neg h, List.map_append]
    rfl
theorem WK.put {d : KVs} (h : WK d) {k : Str} {v : V} (hk : KeyOk k) (hv : VOk v) : WK (putK d (.inr k) v) := by
  refine ⟨fun p hp => ?_, ?_⟩
  · unfold putK at hp
    split at hp
    · obtain ⟨q, hq, e⟩ := List.mem_map.mp hp
      by_cases c : q.1 = Sum.inr k
      · rw [if_pos c] at e
        rw [← e]
        exact ⟨(h.row q hq).1, hv⟩
      · rw [if_neg c] at e
        rw [← e]
        exact h.row q hq
    · rcases List.mem_append.mp hp with hp | hp
      · exact h.row p hp
      · rw [List.mem_singleton.mp hp]
        exact ⟨⟨k, rfl, hk⟩, hv⟩
  · rcases putK_keys d (.inr k) v with ⟨_, e⟩ | ⟨c, e⟩
    · rw [e]
      exact h.nd
    · rw [e]
      exact List.nodup_append.mpr ⟨h.nd, by simp, fun a ha b hb e => c (by rw [List.mem_singleton] at hb; rw [← hb, ← e]; exact ha)⟩
/-- a state: worths alone -/
structure SK (d : KVs) : Prop where
  wk : WK d
  some_ : ∀ p ∈ d, p.2 ≠ .non
theorem SK.nil : SK [] := ⟨.nil, fun p hp => (by cases hp)⟩
theorem SK.put {d : KVs} (h : SK d) {k : Str} {z : Int} (hk : KeyOk k) (hz : WorthOk z) : SK (putK d (.inr k) (.int z)) := by
  refine ⟨h.wk.put hk (.inr ⟨z, rfl, hz⟩), fun p hp => ?_⟩
  unfold putK at hp
  split at hp
  · obtain ⟨q, hq, e⟩ := List.mem_map.mp hp
    by_cases c : q.1 = Sum.inr k
    · rw [if_pos c] at e
      rw [← e]
      exact fun z => nomatch z
    · rw [if_neg c] at e
      rw [← e]
      exact h.some_ q hq
  · rcases List.mem_append.mp hp with hp | hp
    · exact h.some_ p hp
    · rw [List.mem_singleton.mp hp]
      exact fun z => nomatch z

/-! ### data -/
def vData : V → PyData
  | .int z => .int z
  | .bl b => .bool b
  | .str x => .str x
  | _ => .none
theorem VOk.dp {K : PySem.W.Frag} {H : Hp} {v : V} (h : VOk v) : Dp K H v (vData v) := by
  rcases h with rfl | ⟨z, rfl, _⟩
  · exact .non
  · exact .int z
theorem vData_noL (v : V) : noL (vData v) = true := by cases v <;> rfl
/-- a pair of a key and what stands there -/
def prData (p : Str × V) : PyData := .tuple [.str p.1, vData p.2]
theorem prData_noL (p : Str × V) : noL (prData p) = true := by
  show (true && (noL (vData p.2) && true)) = true
  rw [vData_noL]
  rfl
theorem rgData_noL (r : Rg) : noL (rgData r) = true := by
  have h := noLAll_map PyData.str (fun _ => rfl) r.2.2
  show (true && (true && (noLAll (r.2.2.map .str) && true))) = true
  rw [h]
  rfl
end L2.K47
/-! K47, part G1: the checks of one thing -/
namespace L2.K47
open PySem PySem.Spec PyProof.Rows

/-- what the module's names are: the built-in ones nobody writes, the constants -/
structure Bt (mg : Str → Option Value) : Prop where
  isi : mg "isinstance" = none
  len : mg "len" = none
  all : mg "all" = none
  zip : mg "zip" = none
  sorted : mg "sorted" = none
  tuple : mg "tuple" = none
  dict : mg "dict" = none
  set : mg "set" = none
  list : mg "list" = none
  min : mg "min" = none
  max : mg "max" = none
  abs : mg "abs" = none
  int : mg "int" = none
  str : mg "str" = none
  bool : mg "bool" = none
  range : mg "range" = none
  letters : ∃ u, mg "LETTERS" = some u ∧ RelV (.str lettersS) u
  mletters : ∃ u, mg "MOST_LETTERS" = some u ∧ RelV (.int 12) u
  mworth : ∃ u, mg "MOST_WORTH" = some u ∧ RelV (.int (10 ^ 18)) u

theorem tyx_sqT {K : PySem.W.Frag} {H : Hp} {a : Addr} {xs : List V} (h : SqT K H a xs) : TyX K H (.ref a) (.type "tuple") := by
  rcases h with (h | ⟨o, h⟩) | ⟨o, its, n, h, c, _⟩
  · exact .base (.tup h)
  · exact .fTuple h
  · exact .kTuple h c
/-! ### promises -/
def spIsInt : Sp := fun vs H Q _ => ∃ z : Int, vs = [.int z] ∧ Q (.bl true) H
def spWithin3 : Sp := fun vs H Q _ => ∃ z a b : Int, vs = [.int z, .int a, .int b] ∧ a ≤ z ∧ z ≤ b ∧ Q (.bl true) H
def spIsPair (K : PySem.W.Frag) : Sp := fun vs H Q _ => ∃ (a : Addr) (xs : List V), vs = [.ref a] ∧ SqT K H a xs ∧ xs.length = 2 ∧ Q (.bl true) H
def spIsKey : Sp := fun vs H Q _ => ∃ k : Str, vs = [.str k] ∧ KeyOk k ∧ ∀ H', Same H H' → Q (.bl true) H'
def spIsWorth : Sp := fun vs H Q _ => ∃ z : Int, vs = [.int z] ∧ WorthOk z ∧ Q (.bl true) H
section
variable {P : Program} {w : World} {K : PySem.W.Frag} {mg : Str → Option Value} {base : Heap} {f : Addr} {fd : FuncData}
theorem scIsInt : FnScope ["thing"] ["thing"] (defScope sIsInt) := ⟨rfl, rfl, rfl, by decide +kernel, rfl, by decide +kernel, by decide +kernel⟩
theorem ok_isInt (B : Bt mg) (F : Fun K "is_integer" "is_integer" sIsInt f fd) : FnOk P w K mg base CX0 1 f fd ["thing"] spIsInt := by
  refine F.ok scIsInt (fun vs H Q E h => ?_) (fun cdv A outer s H vs Q E hr h => ?_)
  · obtain ⟨z, rfl, _⟩ := h
    rfl
  · obtain ⟨z, rfl, q⟩ := h
    refine ⟨_, pss_one (ps_ret (pe_and (pe_callB call_isi (by rfl) B.isi boot_isinstance (pa_cons (pv 0) (pa_cons (pe_bltn (v := .ty "int") (by rfl) B.int PyProof.Rows.boot_int rfl) pa_nil)))
      (pe_one (pe_not (pe_callB call_isi (by rfl) B.isi boot_isinstance (pa_cons (pv 0) (pa_cons (pe_bltn (v := .ty "bool") (by rfl) B.bool PyProof.Rows.boot_bool rfl) pa_nil))))))), ?_⟩
    refine ⟨_, rfl, _, _, _, _, true, rfl, .ty _, .base (.int z), kit_ty (by decide +kernel), true, rfl, ?_⟩
    refine ⟨_, rfl, _, _, _, _, false, rfl, .ty _, .base (.int z), kit_ty (by decide +kernel), false, rfl, ?_⟩
    exact q
theorem scWithin3 : FnScope ["thing", "least", "most"] ["thing", "least", "most"] (defScope sIsWithin) := ⟨rfl, rfl, rfl, by decide +kernel, rfl, by decide +kernel, by decide +kernel⟩
theorem ok_within3 (B : Bt mg) (F : Fun K "is_within" "is_within" sIsWithin f fd) (G1 : GOk P w K mg base 1 "is_integer" spIsInt) : FnOk P w K mg base CX0 2 f fd ["thing", "least", "most"] spWithin3 := by
  refine F.ok scWithin3 (fun vs H Q E h => ?_) (fun cdv A outer s H vs Q E hr h => ?_)
  · obtain ⟨z, a, b, rfl, _⟩ := h
    rfl
  · obtain ⟨z, a, b, rfl, h1, h2, q⟩ := h
    refine ⟨_, pss_one (ps_ret (pe_and (pe_g G1 hr (by rfl) (pa_cons (pv 0) pa_nil)) (pe_one (pe_chain op_le op_le (pv 1) (pv 0) (pv 2))))), ?_⟩
    refine ⟨_, rfl, z, rfl, true, rfl, ?_⟩
    refine ⟨_, rfl, _, rfl, _, _, rfl, rfl, _, rfl, ?_⟩
    rw [decide_eq_true h1]
    refine iteT ⟨_, rfl, _, _, rfl, rfl, ?_⟩
    show Q (V.bl (decide (z ≤ b))) H
    rw [decide_eq_true h2]
    exact q
theorem scIsPair : FnScope ["thing"] ["thing"] (defScope sIsPair) := ⟨rfl, rfl, rfl, by decide +kernel, rfl, by decide +kernel, by decide +kernel⟩
theorem ok_isPair (B : Bt mg) (F : Fun K "is_pair" "is_pair" sIsPair f fd) : FnOk P w K mg base CX0 1 f fd ["thing"] (spIsPair K) := by
  refine F.ok scIsPair (fun vs H Q E h => ?_) (fun cdv A outer s H vs Q E hr h => ?_)
  · obtain ⟨a, xs, rfl, _⟩ := h
    rfl
  · obtain ⟨a, xs, rfl, hS, hl, q⟩ := h
    refine ⟨_, pss_one (ps_ret (pe_and (pe_callB call_isi (by rfl) B.isi boot_isinstance (pa_cons (pv 0) (pa_cons (pe_bltn (v := .ty "tuple") (by rfl) B.tuple PyProof.Rows.boot_tuple rfl) pa_nil)))
      (pe_one (pe_cmpR op_eq (pe_callB call_len_seq (by rfl) B.len PySem.boot_len (pa_cons (pv 0) pa_nil)) pe_int (nomark _))))), ?_⟩
    refine ⟨_, rfl, _, _, _, _, true, rfl, .ty _, tyx_sqT hS, kit_ty (by decide +kernel), true, rfl, ?_⟩
    refine ⟨_, rfl, _, _, rfl, .inr hS, rfl, ?_⟩
    rw [hl]
    exact q
theorem scIsKey : FnScope ["thing", "sign"] ["thing"] (defScope sIsKey) := ⟨rfl, rfl, rfl, by decide +kernel, rfl, by decide +kernel, by decide +kernel⟩
theorem small_size {n : Nat} (h : n ≤ 10000) : n < sizeLine := Nat.lt_of_le_of_lt h (by decide)
theorem ok_isKey (B : Bt mg) (F : Fun K "is_key" "is_key" sIsKey f fd) : FnOk P w K mg base CX0 1 f fd ["thing"] spIsKey := by
  refine F.ok scIsKey (fun vs H Q E h => ?_) (fun cdv A outer s H vs Q E hr h => ?_)
  · obtain ⟨k, rfl, _⟩ := h
    rfl
  · obtain ⟨k, rfl, hk, q⟩ := h
    obtain ⟨uL, mL, rL⟩ := B.letters
    obtain ⟨uM, mM, rM⟩ := B.mletters
    obtain ⟨l1, l2⟩ := hk.len
    refine ⟨_, pss_cons (ps_if (PW.pt (pw_or (pt_not (pt_val (pe_callB call_isi (by rfl) B.isi boot_isinstance (pa_cons (pv 0) (pa_cons (pe_bltn (v := .ty "str") (by rfl) B.str PyProof.Rows.boot_str rfl) pa_nil)))))
        (pw_or1 (pt_not (pt_chain op_le op_le pe_int (pe_callB call_len_str (by rfl) B.len PySem.boot_len (pa_cons (pv 0) pa_nil)) (pe_glob (by rfl) mM rM)))))) (pss_one (ps_ret pe_bl)) pss_nil)
      (pss_one (ps_ret (pe_callB (cr_all rfl) (by rfl) B.all PyProof.Rows.boot_all (pa_cons
        (pe_lc (own := [("sign", 1)]) (g := gName 1) (tt := tYes) (by rfl) scIsKey.nd (pi_str (pv 0)) (blkOk_by (own := [("sign", 1)]) (N := ["thing", "sign"]) (sc := defScope sIsKey) (by decide +kernel))
          (fun _ _ _ _ _ => pg_name (i := 1) scIsKey.nd rfl (Or.inl rfl)) (fun _ _ _ _ _ => pts_nil) (fun _ _ _ _ _ => pe_cmpR op_in_sign (pv 1) (pe_glob (by rfl) mL rL) rfl)) pa_nil)))), ?_⟩
    refine ⟨_, rfl, _, _, _, _, true, rfl, .ty _, .base (.str k), kit_ty (by decide +kernel), true, rfl, iteF ?_⟩
    refine ⟨_, rfl, _, rfl, Nat.le_of_lt (small_size (by omega)), _, _, rfl, rfl, _, rfl, ?_⟩
    rw [decide_eq_true (show (1 : Int) ≤ (k.length : Nat) by omega)]
    refine iteT ⟨_, _, rfl, rfl, _, rfl, ?_⟩
    rw [decide_eq_true (show ((k.length : Nat) : Int) ≤ 12 by omega)]
    refine iteF ?_
    refine ⟨_, rfl, _, rfl, fun D hD => lc_data (K := K) walk_str hD (fun _ _ => trivial) (fun i => (List.replicate i true).map PyData.bool) rfl (small_size (by show k.length ≤ _; omega)) ?_ ?_⟩
    · rintro i x H1 H2 K1 K0 hi s1 ⟨rfl, c, hc, rfl⟩ k1 _
      refine ⟨rfl, ⟨_, rfl, c, lettersS, rfl, rfl, ?_⟩⟩
      have hm : c ∈ lettersS.cps.toList := hk.letters c (by
        rw [← Array.getElem?_toList] at hc
        exact List.mem_of_getElem? hc)
      rw [decide_eq_true hm]
      exact k1 _ _ _ (Same.refl _) (.bl true) rfl (by rw [List.replicate_succ', List.map_append]; rfl)
    · intro H1 ys s1 hy hd
      refine ⟨_, _, rfl, SqL.of (by rw [hy, DpAll.bls hd]), ?_⟩
      have e : (List.replicate k.cps.size true).all id = true := by simp
      rw [e]
      exact q _ s1
theorem scIsWorth : FnScope ["thing"] ["thing"] (defScope sIsWorth) := ⟨rfl, rfl, rfl, by decide +kernel, rfl, by decide +kernel, by decide +kernel⟩
theorem ok_isWorth (B : Bt mg) (F : Fun K "is_worth" "is_worth" sIsWorth f fd) (G : GOk P w K mg base 2 "is_within" spWithin3) : FnOk P w K mg base CX0 3 f fd ["thing"] spIsWorth := by
  refine F.ok scIsWorth (fun vs H Q E h => ?_) (fun cdv A outer s H vs Q E hr h => ?_)
  · obtain ⟨k, rfl, _⟩ := h
    rfl
  · obtain ⟨k, rfl, hk, q⟩ := h
    obtain ⟨uM, mM, rM⟩ := B.mworth
    refine ⟨_, pss_one (ps_ret (pe_g G hr (by rfl) (pa_cons (pv 0) (pa_cons (pe_un un_neg (pe_glob (by rfl) mM rM)) (pa_cons (pe_glob (by rfl) mM rM) pa_nil))))), ?_⟩
    refine ⟨_, rfl, _, rfl, ?_⟩
    exact ⟨k, _, _, rfl, hk.1, hk.2, q⟩
end
end L2.K47
/-! K47, part G2: the checks of keys, ranges and writes -/
namespace L2.K47
open PySem PySem.Spec PyProof.Rows

section
variable {K : PySem.W.Frag} {a b : Addr} {xs ys : List V}
theorem walk_zipT {n : Nat} (hn : n = min xs.length ys.length) : Walk (RZ.ItzT K a b) n (fun H => SqT K H a xs ∧ SqT K H b ys) (YPair (fun i => xs[i]?) (fun i => ys[i]?)) := by
  subst hn
  refine ⟨fun i _ hi q => ?_, fun _ q => ⟨xs, ys, q.1, q.2, by omega⟩, fun i H v H' _ q y => ?_⟩
  · have h1 : i < xs.length := by omega
    have h2 : i < ys.length := by omega
    exact ⟨xs, ys, xs[i], ys[i], q.1, q.2, by simp [h1], by simp [h2]⟩
  · obtain ⟨T, x, z, h1, h2, h3, h4, h5⟩ := y
    exact ⟨T, x, z, h1, h2, h3, h4 xs q.1, h5 ys q.2⟩
end
/-- each is less than the next -/
def Rise (ds : List PyData) : Prop := ∀ (i : Nat) d e, ds[i]? = some d → ds[i + 1]? = some e → PySem.W.alike d e = true ∧ d ≠ .none ∧ d.depth ≤ 8 ∧ PySem.W.dataLt d e = true
theorem cut1 (xs : List V) : cutV xs (some 1) none = xs.drop 1 := by
  unfold cutV
  have e1 : HT.sIx xs.length 0 (some 1) = min 1 xs.length := HT.sIx_nat _ _ 1
  rw [e1, HT.sIx_none]
  cases xs with
  | nil => rfl
  | cons x xs =>
    have e2 : min 1 (x :: xs).length = 1 := by simp
    rw [e2]
    exact List.take_of_length_le (by simp)
def spRising (K : PySem.W.Frag) : Sp := fun vs H Q _ => ∃ (a : Addr) (xs : List V) (ds : List PyData), vs = [.ref a] ∧ (SqL K H a xs ∨ SqT K H a xs) ∧ DpAll K H xs ds ∧ noLAll ds = true ∧ Rise ds ∧ xs.length ≤ 1000 ∧ ∀ H', Same H H' → Q (.bl true) H'
section
variable {P : Program} {w : World} {K : PySem.W.Frag} {mg : Str → Option Value} {base : Heap} {f : Addr} {fd : FuncData}
abbrev NRis : List Str := ["things", "one", "other"]
theorem scRising : FnScope NRis ["things"] (defScope sRising) := ⟨rfl, rfl, rfl, by decide +kernel, rfl, by decide +kernel, by decide +kernel⟩
theorem ok_rising (B : Bt mg) (F : Fun K "is_rising" "is_rising" sRising f fd) : FnOk P w K mg base CX0 1 f fd ["things"] (spRising K) := by
  refine F.ok scRising (fun vs H Q E h => ?_) (fun cdv A outer s H vs Q E hr h => ?_)
  · obtain ⟨a, xs, ds, rfl, _⟩ := h
    rfl
  · obtain ⟨a, xs, ds, rfl, hS, hda, hnl, hris, hlen, q⟩ := h
    have hdl := DpAll.length hda
    have dsx : ∀ (i : Nat) (x : V) (H' : Hp), Same H H' → xs[i]? = some x → ∃ d, ds[i]? = some d ∧ Dp K H' x d := fun i x H' s e => DpAll.get (DpAll.same s _ _ hda) e
    -- the turns, for either kind of walk
    have turn : ∀ (p : Addr) (H1 : Hp), Same H H1 → ∀ (i : Nat) (x : V) (H2 H3 : Hp) (K1 : V → Hp → Prop), i < xs.length - 1 → Same H1 H2 → YPair (fun i => xs[i]?) (fun i => (xs.drop 1)[i]?) i H2 x H3 →
        (∀ y d H4, Same H2 H4 → Dp K H4 y d → noL d = true → (List.replicate (i + 1) true).map PyData.bool = (List.replicate i true).map PyData.bool ++ [d] → K1 y H4) →
        ∃ T u v, x = .ref T ∧ H3 T = some (.tup [u, v]) ∧ (∃ d e, Dp K H3 u d ∧ Dp K H3 v e ∧ PySem.W.alike d e = true ∧ d ≠ .none ∧ d.depth ≤ 8 ∧ K1 (.bl (PySem.W.dataLt d e)) H3) := by
      rintro p H1 s1 i x H2 H3 K1 hi s2 ⟨T, u, v, rfl, hT, rfl, hu, hv⟩ k1
      have s3 : Same H2 (upd H2 T (.tup [u, v])) := Same.new (Same.refl _) hT
      obtain ⟨d, hd, du⟩ := dsx i u _ ((s1.trans s2).trans s3) hu
      have hv' : xs[i + 1]? = some v := by
        have hv2 : (xs.drop 1)[i]? = some v := hv
        rw [List.getElem?_drop] at hv2
        rw [show i + 1 = 1 + i from Nat.add_comm _ _]
        exact hv2
      obtain ⟨e, he, dv⟩ := dsx (i + 1) v _ ((s1.trans s2).trans s3) hv'
      obtain ⟨r1, r2, r3, r4⟩ := hris i d e hd he
      refine ⟨T, u, v, rfl, upd_same, d, e, du, dv, r1, r2, r3, ?_⟩
      rw [r4]
      exact k1 _ _ _ s3 (.bl true) rfl (by rw [List.replicate_succ', List.map_append]; rfl)
    have last : ∀ (H1 : Hp) (D : Addr) (H2 : Hp) (ys : List V), Same H H1 → Same H1 H2 → H2 D = some (.lst ys) → DpAll K H2 ys ((List.replicate (xs.length - 1) true).map PyData.bool) → rAll K [.ref D] H2 Q := by
      intro H1 D H2 ys s1 s2 hy hd
      refine ⟨_, _, rfl, SqL.of (by rw [hy, DpAll.bls hd]), ?_⟩
      have e : (List.replicate (xs.length - 1) true).all id = true := by simp
      rw [e]
      exact q _ (s1.trans s2)
    have hmin : xs.length - 1 = min xs.length (xs.drop 1).length := by rw [List.length_drop]; omega
    rcases hS with hS | hS
    · refine ⟨_, pss_one (ps_ret (pe_callB (cr_all rfl) (by rfl) B.all PyProof.Rows.boot_all (pa_cons
        (pe_lc (own := [("one", 1), ("other", 2)]) (g := gTup K 2 (gCons (gName 1) (gCons (gName 2) gNil))) (tt := tYes) (by rfl) scRising.nd (RZ.pi_zipA (by rfl) B.zip (pa_cons (pv 0) (pa_cons (pe_slice sl_list (pv 0) (po_some pe_int) po_none) pa_nil)))
          (blkOk_by (own := [("one", 1), ("other", 2)]) (N := NRis) (sc := defScope sRising) (by decide +kernel))
          (fun _ _ _ _ _ => pg_tup rfl (pgs_cons (pg_name (i := 1) scRising.nd rfl (Or.inl rfl)) (pgs_cons (pg_name (i := 2) scRising.nd rfl (Or.inl rfl)) pgs_nil))) (fun _ _ _ _ _ => pts_nil)
          (fun _ _ _ _ _ => pe_cmpR (r := rLtD K) (op_ltD hr.units) (pv 1) (pv 2) (nomark _))) pa_nil))), ?_⟩
      refine ⟨_, rfl, _, rfl, 1, rfl, a, xs, rfl, hS, fun p np => ?_⟩
      rw [cut1]
      have s1 : Same H (upd H p (.lst (xs.drop 1))) := Same.new (Same.refl _) np
      refine ⟨_, _, xs, xs.drop 1, rfl, .inl ⟨s1.seq hS, SqL.of upd_same, fun D hD => lc_data (K := K) (walk_zip hmin) hD (fun H2 s2 => ⟨(s1.trans s2).seq hS, SqL.of (s2 _ _ upd_same)⟩) (fun i => (List.replicate i true).map PyData.bool) rfl (small_size (by omega)) ?_ ?_⟩⟩
      · intro i x H2 H3 K1 K0 hi s2 hY k1 _
        obtain ⟨T, u, v, rfl, hT, d, e, du, dv, r1, r2, r3, k⟩ := turn p _ s1 i x H2 H3 K1 hi s2 hY k1
        exact ⟨T, [u, v], rfl, SqT.of hT, rfl, _, _, rfl, _, _, rfl, rfl, rfl, _, rfl, _, rfl, d, e, du, dv, r1, r2, r3, k⟩
      · intro H2 ys s2 hy hd
        exact last _ D H2 ys s1 s2 hy hd
    · refine ⟨_, pss_one (ps_ret (pe_callB (cr_all rfl) (by rfl) B.all PyProof.Rows.boot_all (pa_cons
        (pe_lc (own := [("one", 1), ("other", 2)]) (g := gTup K 2 (gCons (gName 1) (gCons (gName 2) gNil))) (tt := tYes) (by rfl) scRising.nd (RZ.pi_zipA (by rfl) B.zip (pa_cons (pv 0) (pa_cons (pe_slice sl_tupA (pv 0) (po_some pe_int) po_none) pa_nil)))
          (blkOk_by (own := [("one", 1), ("other", 2)]) (N := NRis) (sc := defScope sRising) (by decide +kernel))
          (fun _ _ _ _ _ => pg_tup rfl (pgs_cons (pg_name (i := 1) scRising.nd rfl (Or.inl rfl)) (pgs_cons (pg_name (i := 2) scRising.nd rfl (Or.inl rfl)) pgs_nil))) (fun _ _ _ _ _ => pts_nil)
          (fun _ _ _ _ _ => pe_cmpR (r := rLtD K) (op_ltD hr.units) (pv 1) (pv 2) (nomark _))) pa_nil))), ?_⟩
      have hw0 : HT.sIx xs.length 0 (some 1) = 0 → xs.drop 1 = xs := fun e => by
        have e1 : HT.sIx xs.length 0 (some 1) = min 1 xs.length := HT.sIx_nat _ _ 1
        rw [e1] at e
        cases xs with
        | nil => rfl
        | cons x xs =>
          simp at e
      refine ⟨_, rfl, _, rfl, 1, rfl, a, xs, rfl, hS, fun hw => ?_, fun hw p np => ?_⟩
      · have s1 : Same H H := Same.refl _
        have hp : SqT K H a (xs.drop 1) := by rw [hw0 hw.1]; exact hS
        refine ⟨_, _, xs, xs.drop 1, rfl, .inr ⟨SqT.same s1 hS, hp, fun D hD => lc_data (K := K) (walk_zipT hmin) hD (fun H2 s2 => ⟨SqT.same (s1.trans s2) hS, SqT.same s2 hp⟩) (fun i => (List.replicate i true).map PyData.bool) rfl (small_size (by omega)) ?_ ?_⟩⟩
        · intro i x H2 H3 K1 K0 hi s2 hY k1 _
          obtain ⟨T, u, v, rfl, hT, d, e, du, dv, r1, r2, r3, k⟩ := turn a _ s1 i x H2 H3 K1 hi s2 hY k1
          exact ⟨T, [u, v], rfl, SqT.of hT, rfl, _, _, rfl, _, _, rfl, rfl, rfl, _, rfl, _, rfl, d, e, du, dv, r1, r2, r3, k⟩
        · intro H2 ys s2 hy hd
          exact last _ D H2 ys s1 s2 hy hd
      · have s1 : Same H (upd H p (.tup (cutV xs (some 1) none))) := Same.new (Same.refl _) np
        have hp : SqT K (upd H p (.tup (cutV xs (some 1) none))) p (xs.drop 1) := SqT.of (by rw [← cut1]; exact upd_same)
        refine ⟨_, _, xs, xs.drop 1, rfl, .inr ⟨SqT.same s1 hS, hp, fun D hD => lc_data (K := K) (walk_zipT hmin) hD (fun H2 s2 => ⟨SqT.same (s1.trans s2) hS, SqT.same s2 hp⟩) (fun i => (List.replicate i true).map PyData.bool) rfl (small_size (by omega)) ?_ ?_⟩⟩
        · intro i x H2 H3 K1 K0 hi s2 hY k1 _
          obtain ⟨T, u, v, rfl, hT, d, e, du, dv, r1, r2, r3, k⟩ := turn p _ s1 i x H2 H3 K1 hi s2 hY k1
          exact ⟨T, [u, v], rfl, SqT.of hT, rfl, _, _, rfl, _, _, rfl, rfl, rfl, _, rfl, _, rfl, d, e, du, dv, r1, r2, r3, k⟩
        · intro H2 ys s2 hy hd
          exact last _ D H2 ys s1 s2 hy hd

/-! ### keys -/
theorem AscL.nodup {gs : List Str} (h : AscL gs) : gs.Nodup := h.imp fun {a b} h e => by
  rw [e] at h
  exact absurd h (List.lt_irrefl _)
theorem AscL.len {gs : List Str} (h : AscL gs) (k : ∀ g ∈ gs, KeyOk g) : gs.length ≤ 10 := nodup_le (m := key10) h.nodup k
theorem AscL.next {gs : List Str} (h : AscL gs) {i : Nat} {a b : Str} (ha : gs[i]? = some a) (hb : gs[i + 1]? = some b) : ltS a b := by
  obtain ⟨h1, e1⟩ := List.getElem?_eq_some_iff.mp ha
  obtain ⟨h2, e2⟩ := List.getElem?_eq_some_iff.mp hb
  have := List.pairwise_iff_getElem.mp h i (i + 1) h1 h2 (Nat.lt_succ_self i)
  rw [e1, e2] at this
  exact this
theorem rise_strs {gs : List Str} (h : AscL gs) : Rise (gs.map PyData.str) := by
  intro i d e hd he
  rw [List.getElem?_map] at hd he
  cases ha : gs[i]? with
  | none => rw [ha] at hd; cases hd
  | some a =>
    cases hb : gs[i + 1]? with
    | none => rw [hb] at he; cases he
    | some b =>
      rw [ha] at hd
      rw [hb] at he
      cases hd
      cases he
      refine ⟨rfl, (fun z => nomatch z), Nat.zero_le _, ?_⟩
      rw [PySem.W.dataLt_str]
      exact decide_eq_true (h.next ha hb)
def spAreKeys (K : PySem.W.Frag) : Sp := fun vs H Q _ => ∃ (a : Addr) (gs : List Str), vs = [.ref a] ∧ SqT K H a (gs.map V.str) ∧ AscL gs ∧ (∀ g ∈ gs, KeyOk g) ∧ ∀ H', Same H H' → Q (.bl true) H'
abbrev NAk : List Str := ["thing", "key"]
theorem scAreKeys : FnScope NAk ["thing"] (defScope sAreKeys) := ⟨rfl, rfl, rfl, by decide +kernel, rfl, by decide +kernel, by decide +kernel⟩
theorem bools_snoc (i : Nat) : (List.replicate (i + 1) true).map PyData.bool = (List.replicate i true).map PyData.bool ++ [.bool true] := by rw [List.replicate_succ', List.map_append]; rfl
theorem ok_areKeys (B : Bt mg) (F : Fun K "are_keys" "are_keys" sAreKeys f fd) (G1 : GOk P w K mg base 1 "is_key" spIsKey) (G2 : GOk P w K mg base 1 "is_rising" (spRising K)) : FnOk P w K mg base CX0 2 f fd ["thing"] (spAreKeys K) := by
  refine F.ok scAreKeys (fun vs H Q E h => ?_) (fun cdv A outer s H vs Q E hr h => ?_)
  · obtain ⟨a, gs, rfl, _⟩ := h
    rfl
  · obtain ⟨a, gs, rfl, hS, hA, hk, q⟩ := h
    have hl := hA.len hk
    refine ⟨_, pss_one (ps_ret (pe_and (pe_callB call_isi (by rfl) B.isi boot_isinstance (pa_cons (pv 0) (pa_cons (pe_bltn (v := .ty "tuple") (by rfl) B.tuple PyProof.Rows.boot_tuple rfl) pa_nil)))
      (pe_and (pe_callB (cr_all rfl) (by rfl) B.all PyProof.Rows.boot_all (pa_cons
        (pe_lc (own := [("key", 1)]) (g := gName 1) (tt := tYes) (by rfl) scAreKeys.nd (pi_tup (pv 0)) (blkOk_by (own := [("key", 1)]) (N := NAk) (sc := defScope sAreKeys) (by decide +kernel))
          (fun _ _ _ _ _ => pg_name (i := 1) scAreKeys.nd rfl (Or.inl rfl)) (fun _ _ _ _ _ => pts_nil) (fun _ _ _ _ _ => pe_g G1 hr (by rfl) (pa_cons (pv 1) pa_nil))) pa_nil))
      (pe_one (pe_g G2 hr (by rfl) (pa_cons (pv 0) pa_nil)))))), ?_⟩
    refine ⟨_, rfl, _, _, _, _, true, rfl, .ty _, tyx_sqT hS, kit_ty (by decide +kernel), true, rfl, iteT ?_⟩
    refine ⟨_, rfl, a, rfl, ⟨_, hS⟩, fun D hD => lc_data (K := K) (walk_tup (xs := gs.map V.str)) hD (fun H2 s2 => SqT.same s2 hS) (fun i => (List.replicate i true).map PyData.bool) rfl (small_size (by simp; omega)) ?_ ?_⟩
    · rintro i x H1 H2 K1 K0 hi s1 ⟨rfl, hx⟩ k1 _
      rw [List.getElem?_map] at hx
      cases hg : gs[i]? with
      | none => rw [hg] at hx; cases hx
      | some g =>
        rw [hg] at hx
        cases hx
        exact ⟨rfl, _, rfl, g, rfl, hk g (List.mem_of_getElem? hg), fun H3 s3 => k1 _ _ _ s3 (.bl true) rfl (bools_snoc i)⟩
    · intro H1 ys s1 hy hd
      refine ⟨_, _, rfl, SqL.of (by rw [hy, DpAll.bls hd]), true, ?_, iteT ?_⟩
      · simp
      · refine ⟨_, rfl, a, _, gs.map PyData.str, rfl, .inr (SqT.same s1 hS), DpAll.ofStrs gs, noLAll_map _ (fun _ => rfl) _, rise_strs hA, by simp; omega, fun H2 s2 => q H2 (s1.trans s2)⟩

/-! ### ranges -/
structure RgOk (r : Rg) : Prop where
  lo : KeyOk r.1
  hi : KeyOk r.2.1
  le : leS r.1 r.2.1
  asc : AscL r.2.2
  own : ∀ k ∈ r.2.2, KeyOk k ∧ leS r.1 k ∧ leS k r.2.1
theorem dp_rg {H : Hp} {a : Addr} {r : Rg} (h : RgAt K H a r) : ∃ o, SqT K H a [.str r.1, .str r.2.1, .ref o] ∧ SqT K H o (r.2.2.map V.str) := by
  cases h with
  | tup hs ha =>
    cases ha with
    | cons h1 h2 =>
      cases h1
      cases h2 with
      | cons h1 h2 =>
        cases h1
        cases h2 with
        | cons h1 h2 =>
          cases h2
          cases h1 with
          | tup h3 h4 =>
            rw [DpAll.strs h4] at h3
            exact ⟨_, hs, h3⟩
def spIsRange (K : PySem.W.Frag) : Sp := fun vs H Q _ => ∃ (a : Addr) (r : Rg), vs = [.ref a] ∧ RgAt K H a r ∧ RgOk r ∧ ∀ H', Same H H' → Q (.bl true) H'
abbrev NIr : List Str := ["thing", "low", "high", "own", "key"]
theorem scIsRange : FnScope NIr ["thing"] (defScope sIsRange) := ⟨rfl, rfl, rfl, by decide +kernel, rfl, by decide +kernel, by decide +kernel⟩
theorem ok_isRange (B : Bt mg) (F : Fun K "is_range" "is_range" sIsRange f fd) (G1 : GOk P w K mg base 1 "is_key" spIsKey) (G2 : GOk P w K mg base 2 "are_keys" (spAreKeys K)) : FnOk P w K mg base CX0 3 f fd ["thing"] (spIsRange K) := by
  refine F.ok scIsRange (fun vs H Q E h => ?_) (fun cdv A outer s H vs Q E hr h => ?_)
  · obtain ⟨a, r, rfl, _⟩ := h
    rfl
  · obtain ⟨a, r, rfl, hR, ok, q⟩ := h
    obtain ⟨o, hS, hO⟩ := dp_rg hR
    have hl := ok.asc.len fun g hg => (ok.own g hg).1
    refine ⟨_, pss_cons (ps_if (PW.pt (pw_or (pt_not (pt_val (pe_callB call_isi (by rfl) B.isi boot_isinstance (pa_cons (pv 0) (pa_cons (pe_bltn (v := .ty "tuple") (by rfl) B.tuple PyProof.Rows.boot_tuple rfl) pa_nil)))))
        (pw_or (pt_cmpR op_ne (pe_callB call_len_seq (by rfl) B.len PySem.boot_len (pa_cons (pv 0) pa_nil)) pe_int (nomark _))
        (pw_or (pt_not (pt_val (pe_g G1 hr (by rfl) (pa_cons (pe_ix ix_tup (pv 0) pe_int (fun _ _ => rfl)) pa_nil))))
        (pw_or1 (pt_not (pt_val (pe_g G1 hr (by rfl) (pa_cons (pe_ix ix_tup (pv 0) pe_int (fun _ _ => rfl)) pa_nil)))))))) ) (pss_one (ps_ret pe_bl)) pss_nil)
      (pss_cons (ps_asg (pv 0) (pg_tup rfl (pgs_cons (pg_name (i := 1) scIsRange.nd rfl (Or.inr rfl)) (pgs_cons (pg_name (i := 2) scIsRange.nd rfl (Or.inr rfl)) (pgs_cons (pg_name (i := 3) scIsRange.nd rfl (Or.inl rfl)) pgs_nil)))))
      (pss_one (ps_ret (pe_and (pe_cmpR op_le_str (pv 1) (pv 2) (nomark _)) (pe_and (pe_g G2 hr (by rfl) (pa_cons (pv 3) pa_nil)) (pe_one (pe_callB (cr_all rfl) (by rfl) B.all PyProof.Rows.boot_all (pa_cons
        (pe_lc (own := [("key", 4)]) (g := gName 4) (tt := tYes) (by rfl) scIsRange.nd (pi_tup (pv 3)) (blkOk_by (own := [("key", 4)]) (N := NIr) (sc := defScope sIsRange) (by decide +kernel))
          (fun _ _ _ _ _ => pg_name (i := 4) scIsRange.nd rfl (Or.inl rfl)) (fun _ _ _ _ _ => pts_nil) (fun _ _ _ _ _ => pe_chain op_le_str op_le_str (pv 1) (pv 4) (pv 2))) pa_nil)))))))), ?_⟩
    refine ⟨_, rfl, _, _, _, _, true, rfl, .ty _, tyx_sqT hS, kit_ty (by decide +kernel), true, rfl, iteF ?_⟩
    refine ⟨_, rfl, _, _, rfl, .inr hS, rfl, _, rfl, iteF ?_⟩
    refine ⟨_, rfl, _, _, _, _, rfl, rfl, hS, atI_nat rfl, r.1, rfl, ok.lo, fun H1 s1 => ⟨true, rfl, iteF ?_⟩⟩
    refine ⟨_, rfl, _, _, _, _, rfl, rfl, SqT.same s1 hS, atI_nat rfl, r.2.1, rfl, ok.hi, fun H2 s2 => ⟨true, rfl, iteF ?_⟩⟩
    have s12 := s1.trans s2
    refine ⟨_, rfl, a, _, rfl, SqT.same s12 hS, rfl, _, _, rfl, _, _, rfl, _, _, rfl, rfl, ?_⟩
    refine ⟨_, rfl, _, rfl, _, _, rfl, rfl, _, rfl, ?_⟩
    have n1 : ¬ ltS r.2.1 r.1 := List.not_lt.mpr ok.le
    rw [decide_eq_false n1]
    refine iteT ?_
    refine ⟨_, rfl, o, r.2.2, rfl, SqT.same s12 hO, ok.asc, fun g hg => (ok.own g hg).1, fun H3 s3 => ⟨true, rfl, iteT ?_⟩⟩
    have s13 := s12.trans s3
    refine ⟨_, rfl, o, rfl, ⟨_, SqT.same s13 hO⟩, fun D hD => lc_data (K := K) (walk_tup (xs := r.2.2.map V.str)) hD (fun H4 s4 => SqT.same (s13.trans s4) hO) (fun i => (List.replicate i true).map PyData.bool) rfl (small_size (by simp; omega)) ?_ ?_⟩
    · rintro i x H4 H5 K1 K0 hi s4 ⟨rfl, hx⟩ k1 _
      rw [List.getElem?_map] at hx
      cases hg : r.2.2[i]? with
      | none => rw [hg] at hx; cases hx
      | some g =>
        rw [hg] at hx
        cases hx
        obtain ⟨_, g1, g2⟩ := ok.own g (List.mem_of_getElem? hg)
        refine ⟨rfl, _, rfl, _, rfl, _, _, rfl, rfl, _, rfl, ?_⟩
        rw [decide_eq_false (List.not_lt.mpr g1)]
        refine iteT ⟨_, rfl, _, _, rfl, rfl, ?_⟩
        show K1 (V.bl (!decide (ltS r.2.1 g))) _
        rw [decide_eq_false (List.not_lt.mpr g2)]
        exact k1 _ _ _ (Same.refl _) (.bl true) rfl (bools_snoc i)
    · intro H4 ys s4 hy hd
      refine ⟨_, _, rfl, SqL.of (by rw [hy, DpAll.bls hd]), ?_⟩
      have e : (List.replicate (List.map V.str r.2.2).length true).all id = true := by simp
      rw [e]
      exact q _ (s13.trans s4)
end
end L2.K47
/-! K47, part G3: the checks of ranges and writes in rows; the parts of a dealing -/
namespace L2.K47
open PySem PySem.Spec PyProof.Rows

theorem all_rep (n : Nat) : (List.replicate n true).all id = true := by simp
section
variable {P : Program} {w : World} {K : PySem.W.Frag} {mg : Str → Option Value} {base : Heap} {f : Addr} {fd : FuncData}
/-- ranges, each less than the next -/
def AscRL (rs : List Rg) : Prop := rs.Pairwise fun r q => PySem.W.dataLt (rgData r) (rgData q) = true
theorem rise_rgs {rs : List Rg} (h : AscRL rs) : Rise (rs.map rgData) := by
  intro i d e hd he
  rw [List.getElem?_map] at hd he
  cases ha : rs[i]? with
  | none => rw [ha] at hd; cases hd
  | some a =>
    cases hb : rs[i + 1]? with
    | none => rw [hb] at he; cases he
    | some b =>
      rw [ha] at hd
      rw [hb] at he
      cases hd
      cases he
      obtain ⟨h1, e1⟩ := List.getElem?_eq_some_iff.mp ha
      obtain ⟨h2, e2⟩ := List.getElem?_eq_some_iff.mp hb
      have hlt := List.pairwise_iff_getElem.mp h i (i + 1) h1 h2 (Nat.lt_succ_self i)
      rw [e1, e2] at hlt
      refine ⟨alike_rg a b, (fun z => nomatch z), ?_, hlt⟩
      rw [depth_rg]
      decide
theorem dp_rg_ref {H : Hp} {v : V} {r : Rg} (h : Dp K H v (rgData r)) : ∃ b, v = .ref b := by
  cases h with
  | tup _ _ => exact ⟨_, rfl⟩
theorem dp_pr {H : Hp} {v : V} {p : Str × V} (hv : VOk p.2) (h : Dp K H v (prData p)) : ∃ b, v = .ref b ∧ SqT K H b [.str p.1, p.2] := by
  cases h with
  | tup hs ha =>
    cases ha with
    | cons h1 h2 =>
      cases h1
      cases h2 with
      | cons h1 h2 =>
        cases h2
        rcases hv with e | ⟨z, e, _⟩
        · rw [e] at h1
          cases h1
          exact ⟨_, rfl, by rw [e]; exact hs⟩
        · rw [e] at h1
          cases h1
          exact ⟨_, rfl, by rw [e]; exact hs⟩
def spAreRanges (K : PySem.W.Frag) : Sp := fun vs H Q _ => ∃ (a : Addr) (xs : List V) (rs : List Rg), vs = [.ref a] ∧ SqT K H a xs ∧ DpAll K H xs (rs.map rgData) ∧ AscRL rs ∧ (∀ r ∈ rs, RgOk r) ∧ rs.length ≤ 64 ∧ ∀ H', Same H H' → Q (.bl true) H'
abbrev NAr : List Str := ["thing", "one"]
theorem scAreRanges : FnScope NAr ["thing"] (defScope sAreRanges) := ⟨rfl, rfl, rfl, by decide +kernel, rfl, by decide +kernel, by decide +kernel⟩
theorem ok_areRanges (B : Bt mg) (F : Fun K "are_ranges" "are_ranges" sAreRanges f fd) (G1 : GOk P w K mg base 3 "is_range" (spIsRange K)) (G2 : GOk P w K mg base 1 "is_rising" (spRising K)) : FnOk P w K mg base CX0 4 f fd ["thing"] (spAreRanges K) := by
  refine F.ok scAreRanges (fun vs H Q E h => ?_) (fun cdv A outer s H vs Q E hr h => ?_)
  · obtain ⟨a, xs, rs, rfl, _⟩ := h
    rfl
  · obtain ⟨a, xs, rs, rfl, hS, hda, hA, hk, hl, q⟩ := h
    have hxl : xs.length = rs.length := by rw [DpAll.length hda, List.length_map]
    refine ⟨_, pss_one (ps_ret (pe_and (pe_callB call_isi (by rfl) B.isi boot_isinstance (pa_cons (pv 0) (pa_cons (pe_bltn (v := .ty "tuple") (by rfl) B.tuple PyProof.Rows.boot_tuple rfl) pa_nil)))
      (pe_and (pe_callB (cr_all rfl) (by rfl) B.all PyProof.Rows.boot_all (pa_cons
        (pe_lc (own := [("one", 1)]) (g := gName 1) (tt := tYes) (by rfl) scAreRanges.nd (pi_tup (pv 0)) (blkOk_by (own := [("one", 1)]) (N := NAr) (sc := defScope sAreRanges) (by decide +kernel))
          (fun _ _ _ _ _ => pg_name (i := 1) scAreRanges.nd rfl (Or.inl rfl)) (fun _ _ _ _ _ => pts_nil) (fun _ _ _ _ _ => pe_g G1 hr (by rfl) (pa_cons (pv 1) pa_nil))) pa_nil))
      (pe_one (pe_g G2 hr (by rfl) (pa_cons (pv 0) pa_nil)))))), ?_⟩
    refine ⟨_, rfl, _, _, _, _, true, rfl, .ty _, tyx_sqT hS, kit_ty (by decide +kernel), true, rfl, iteT ?_⟩
    refine ⟨_, rfl, a, rfl, ⟨_, hS⟩, fun D hD => lc_data (K := K) (walk_tup (xs := xs)) hD (fun H2 s2 => SqT.same s2 hS) (fun i => (List.replicate i true).map PyData.bool) rfl (small_size (by omega)) ?_ ?_⟩
    · rintro i x H1 H2 K1 K0 hi s1 ⟨rfl, hx⟩ k1 _
      obtain ⟨d, hd, hx'⟩ := DpAll.get hda hx
      rw [List.getElem?_map] at hd
      cases hg : rs[i]? with
      | none => rw [hg] at hd; cases hd
      | some g =>
        rw [hg] at hd
        cases hd
        obtain ⟨b, rfl⟩ := dp_rg_ref hx'
        exact ⟨rfl, _, rfl, b, g, rfl, Dp.same s1 _ _ hx', hk g (List.mem_of_getElem? hg), fun H3 s3 => k1 _ _ _ s3 (.bl true) rfl (bools_snoc i)⟩
    · intro H1 ys s1 hy hd
      refine ⟨_, _, rfl, SqL.of (by rw [hy, DpAll.bls hd]), true, ?_, iteT ?_⟩
      · rw [all_rep]
      · refine ⟨_, rfl, a, _, rs.map rgData, rfl, .inr (SqT.same s1 hS), DpAll.same s1 _ _ hda, noLAll_map _ rgData_noL _, rise_rgs hA, by omega, fun H2 s2 => q H2 (s1.trans s2)⟩

def spIsWrite (K : PySem.W.Frag) : Sp := fun vs H Q _ => ∃ (a : Addr) (k : Str) (v : V), vs = [.ref a] ∧ SqT K H a [.str k, v] ∧ KeyOk k ∧ VOk v ∧ ∀ H', Same H H' → Q (.bl true) H'
theorem scIsWrite : FnScope ["thing"] ["thing"] (defScope sIsWrite) := ⟨rfl, rfl, rfl, by decide +kernel, rfl, by decide +kernel, by decide +kernel⟩
theorem ok_isWrite (B : Bt mg) (F : Fun K "is_write" "is_write" sIsWrite f fd) (G1 : GOk P w K mg base 1 "is_pair" (spIsPair K)) (G2 : GOk P w K mg base 1 "is_key" spIsKey) (G3 : GOk P w K mg base 3 "is_worth" spIsWorth) : FnOk P w K mg base CX0 4 f fd ["thing"] (spIsWrite K) := by
  refine F.ok scIsWrite (fun vs H Q E h => ?_) (fun cdv A outer s H vs Q E hr h => ?_)
  · obtain ⟨a, k, v, rfl, _⟩ := h
    rfl
  · obtain ⟨a, k, v, rfl, hS, hk, hv, q⟩ := h
    refine ⟨_, pss_one (ps_ret (pe_and (pe_g G1 hr (by rfl) (pa_cons (pv 0) pa_nil)) (pe_and (pe_g G2 hr (by rfl) (pa_cons (pe_ix ix_tup (pv 0) pe_int (fun _ _ => rfl)) pa_nil))
      (pe_one (pe_or (pe_cmpR op_isN (pe_ix ix_tup (pv 0) pe_int (fun _ _ => rfl)) pe_non (nomark _)) (pe_one (pe_g G3 hr (by rfl) (pa_cons (pe_ix ix_tup (pv 0) pe_int (fun _ _ => rfl)) pa_nil)))))))), ?_⟩
    refine ⟨_, rfl, a, _, rfl, hS, rfl, true, rfl, iteT ?_⟩
    refine ⟨_, rfl, _, _, _, _, rfl, rfl, hS, atI_nat rfl, k, rfl, hk, fun H1 s1 => ⟨true, rfl, iteT ?_⟩⟩
    have hS1 := SqT.same s1 hS
    refine ⟨_, rfl, _, _, _, _, rfl, rfl, hS1, atI_nat rfl, rfl, _, rfl, ?_⟩
    rcases hv with rfl | ⟨z, rfl, hz⟩
    · exact iteT (q _ s1)
    · refine iteF ?_
      exact ⟨_, rfl, _, _, _, _, rfl, rfl, hS1, atI_nat rfl, z, rfl, hz, q _ s1⟩
/-- a row of writes -/
structure WrOk (ws : List (Str × V)) : Prop where
  asc : AscL (ws.map (·.1))
  row : ∀ p ∈ ws, KeyOk p.1 ∧ VOk p.2
theorem WrOk.len {ws : List (Str × V)} (h : WrOk ws) : ws.length ≤ 10 := by
  have := h.asc.len fun g hg => by
    obtain ⟨p, hp, e⟩ := List.mem_map.mp hg
    rw [← e]
    exact (h.row p hp).1
  rw [List.length_map] at this
  exact this
def spAreWrites (K : PySem.W.Frag) : Sp := fun vs H Q _ => ∃ (a : Addr) (xs : List V) (ws : List (Str × V)), vs = [.ref a] ∧ SqT K H a xs ∧ DpAll K H xs (ws.map prData) ∧ WrOk ws ∧ ∀ H', Same H H' → Q (.bl true) H'
abbrev NAw : List Str := ["thing", "one", "key", "worth"]
theorem scAreWrites : FnScope NAw ["thing"] (defScope sAreWrites) := ⟨rfl, rfl, rfl, by decide +kernel, rfl, by decide +kernel, by decide +kernel⟩
theorem ok_areWrites (B : Bt mg) (F : Fun K "are_writes" "are_writes" sAreWrites f fd) (G1 : GOk P w K mg base 4 "is_write" (spIsWrite K)) (G2 : GOk P w K mg base 1 "is_rising" (spRising K)) : FnOk P w K mg base CX0 5 f fd ["thing"] (spAreWrites K) := by
  refine F.ok scAreWrites (fun vs H Q E h => ?_) (fun cdv A outer s H vs Q E hr h => ?_)
  · obtain ⟨a, xs, ws, rfl, _⟩ := h
    rfl
  · obtain ⟨a, xs, ws, rfl, hS, hda, ok, q⟩ := h
    have hl := ok.len
    have hxl : xs.length = ws.length := by rw [DpAll.length hda, List.length_map]
    have at_ : ∀ (i : Nat) (x : V), xs[i]? = some x → ∃ p, ws[i]? = some p ∧ Dp K H x (prData p) := fun i x hx => by
      obtain ⟨d, hd, hx'⟩ := DpAll.get hda hx
      rw [List.getElem?_map] at hd
      cases hg : ws[i]? with
      | none => rw [hg] at hd; cases hd
      | some g =>
        rw [hg] at hd
        cases hd
        exact ⟨g, rfl, hx'⟩
    refine ⟨_, pss_cons (ps_if (PW.pt (pw_or (pt_not (pt_val (pe_callB call_isi (by rfl) B.isi boot_isinstance (pa_cons (pv 0) (pa_cons (pe_bltn (v := .ty "tuple") (by rfl) B.tuple PyProof.Rows.boot_tuple rfl) pa_nil)))))
        (pw_or1 (pt_not (pt_val (pe_callB (cr_all rfl) (by rfl) B.all PyProof.Rows.boot_all (pa_cons
          (pe_lc (own := [("one", 1)]) (g := gName 1) (tt := tYes) (by rfl) scAreWrites.nd (pi_tup (pv 0)) (blkOk_by (own := [("one", 1)]) (N := NAw) (sc := defScope sAreWrites) (by decide +kernel))
            (fun _ _ _ _ _ => pg_name (i := 1) scAreWrites.nd rfl (Or.inl rfl)) (fun _ _ _ _ _ => pts_nil) (fun _ _ _ _ _ => pe_g G1 hr (by rfl) (pa_cons (pv 1) pa_nil))) pa_nil))))))) (pss_one (ps_ret pe_bl)) pss_nil)
      (pss_one (ps_ret (pe_g G2 hr (by rfl) (pa_cons
        (pe_lc (own := [("key", 2), ("worth", 3)]) (g := gTup K 2 (gCons (gName 2) (gCons (gName 3) gNil))) (tt := tYes) (by rfl) scAreWrites.nd (pi_tup (pv 0)) (blkOk_by (own := [("key", 2), ("worth", 3)]) (N := NAw) (sc := defScope sAreWrites) (by decide +kernel))
          (fun _ _ _ _ _ => pg_tup rfl (pgs_cons (pg_name (i := 2) scAreWrites.nd rfl (Or.inl rfl)) (pgs_cons (pg_name (i := 3) scAreWrites.nd rfl (Or.inl rfl)) pgs_nil))) (fun _ _ _ _ _ => pts_nil) (fun _ _ _ _ _ => pv 2)) pa_nil)))), ?_⟩
    refine ⟨_, rfl, _, _, _, _, true, rfl, .ty _, tyx_sqT hS, kit_ty (by decide +kernel), true, rfl, iteF ?_⟩
    refine ⟨_, rfl, a, rfl, ⟨_, hS⟩, fun D hD => lc_data (K := K) (walk_tup (xs := xs)) hD (fun H2 s2 => SqT.same s2 hS) (fun i => (List.replicate i true).map PyData.bool) rfl (small_size (by omega)) ?_ ?_⟩
    · rintro i x H1 H2 K1 K0 hi s1 ⟨rfl, hx⟩ k1 _
      obtain ⟨p, hp, hx'⟩ := at_ i x hx
      obtain ⟨hk, hv⟩ := ok.row p (List.mem_of_getElem? hp)
      obtain ⟨b, rfl, hb⟩ := dp_pr hv hx'
      exact ⟨rfl, _, rfl, b, p.1, p.2, rfl, SqT.same s1 hb, hk, hv, fun H3 s3 => k1 _ _ _ s3 (.bl true) rfl (bools_snoc i)⟩
    · intro H1 ys s1 hy hd
      refine ⟨_, _, rfl, SqL.of (by rw [hy, DpAll.bls hd]), true, ?_, iteF ?_⟩
      · rw [all_rep]
      · have hS1 := SqT.same s1 hS
        refine ⟨_, rfl, a, rfl, ⟨_, hS1⟩, fun D hD => lc_data (K := K) (walk_tup (xs := xs)) hD (fun H2 s2 => SqT.same s2 hS1) (fun i => ((ws.take i).map (·.1)).map PyData.str) rfl (small_size (by omega)) ?_ ?_⟩
        · rintro i x H2 H3 K1 K0 hi s2 ⟨rfl, hx⟩ k1 _
          obtain ⟨p, hp, hx'⟩ := at_ i x hx
          obtain ⟨hk, hv⟩ := ok.row p (List.mem_of_getElem? hp)
          obtain ⟨b, rfl, hb⟩ := dp_pr hv hx'
          refine ⟨b, _, rfl, SqT.same (s1.trans s2) hb, rfl, _, _, rfl, _, _, rfl, rfl, rfl, _, rfl, k1 _ _ _ (Same.refl _) (.str p.1) rfl ?_⟩
          rw [List.take_succ, hp]
          simp
        · intro H2 ys s2 hy hd
          have e : (ws.take xs.length).map (·.1) = ws.map (·.1) := by rw [hxl, List.take_length]
          rw [e] at hd
          refine ⟨D, ys, _, rfl, .inl (SqL.of hy), hd, noLAll_map _ (fun _ => rfl) _, rise_strs ok.asc, ?_, fun H3 s3 => q H3 ((s1.trans s2).trans s3)⟩
          rw [DpAll.length hd]
          simp
          omega
end
end L2.K47
/-! K47, part G4: dealings -/
namespace L2.K47
open PySem PySem.Spec PyProof.Rows

/-! ### attributes -/
section
variable {f g : Str} {v u : V} {fs : List (Str × V)} {n : Nat}
theorem look_hit : (putF f v fs).lookup f = some v := by rw [lookup_putF, if_pos rfl]
theorem look_skip (h : ¬ g = f) : (putF f v fs).lookup g = fs.lookup g := by rw [lookup_putF, if_neg h]
theorem lt_putF (h : fs.length < n) : (putF f v fs).length < n + 1 := Nat.lt_of_le_of_lt (length_putF f v fs) (Nat.succ_lt_succ h)
theorem putF_twice : ∀ fs : List (Str × V), putF f u (putF f v fs) = putF f u fs
  | [] => by
    show (if f = f then [(f, u)] else _) = [(f, u)]
    rw [if_pos rfl]
  | (k, x) :: r => by
    by_cases hk : k = f
    · have e1 : putF f v ((k, x) :: r) = (k, v) :: r := if_pos hk
      have e2 : putF f u ((k, x) :: r) = (k, u) :: r := if_pos hk
      rw [e1, e2]
      exact if_pos hk
    · have e1 : putF f v ((k, x) :: r) = (k, x) :: putF f v r := if_neg hk
      have e2 : putF f u ((k, x) :: r) = (k, x) :: putF f u r := if_neg hk
      rw [e1, e2]
      refine (show putF f u ((k, x) :: putF f v r) = (k, x) :: putF f u (putF f v r) from if_neg hk).trans ?_
      rw [putF_twice r]
end

/-! ### a dealing's parts -/
structure Dl where
  n : Int
  m : V
  gs : List Str
  rs : List Rg
  ws : List (Str × V)
structure DlOk (D : Dl) : Prop where
  n0 : 0 ≤ D.n
  num : (D.ws = [] ∧ D.m = .non) ∨ (D.ws ≠ [] ∧ ∃ z, D.m = .int z ∧ D.n < z)
  ga : AscL D.gs
  gk : ∀ g ∈ D.gs, KeyOk g
  ra : AscRL D.rs
  rk : ∀ r ∈ D.rs, RgOk r
  rl : D.rs.length ≤ 64
  wk : WrOk D.ws
abbrev gsData (gs : List Str) : PyData := .tuple (gs.map .str)
abbrev rsData (rs : List Rg) : PyData := .tuple (rs.map rgData)
abbrev wsData (ws : List (Str × V)) : PyData := .tuple (ws.map prData)
def dlData (D : Dl) : PyData := .tuple [.int D.n, vData D.m, gsData D.gs, rsData D.rs, wsData D.ws]
/-- the three rows stand at x3, x4, x5 -/
structure DAt (K : PySem.W.Frag) (H : Hp) (D : Dl) (x3 x4 x5 : V) : Prop where
  g : Dp K H x3 (gsData D.gs)
  r : Dp K H x4 (rsData D.rs)
  w : Dp K H x5 (wsData D.ws)
theorem DAt.same {K : PySem.W.Frag} {H H' : Hp} {D : Dl} {x3 x4 x5 : V} (h : DAt K H D x3 x4 x5) (s : Same H H') : DAt K H' D x3 x4 x5 := ⟨Dp.same s _ _ h.g, Dp.same s _ _ h.r, Dp.same s _ _ h.w⟩
theorem dp_tup {K : PySem.W.Frag} {H : Hp} {v : V} {ds : List PyData} (h : Dp K H v (.tuple ds)) : ∃ a xs, v = .ref a ∧ SqT K H a xs ∧ DpAll K H xs ds := by
  cases h with
  | tup hs ha => exact ⟨_, _, rfl, hs, ha⟩
/-! shapes -/
theorem KeyOk.lay {k : Str} (h : KeyOk k) : PyData.canLay0 (.str k) = true := by
  have all : ∀ k ∈ key10, PyData.canLay0 (.str k) = true := by decide +kernel
  exact all k h
theorem layAll_map {α : Type} {f : α → PyData} : ∀ {l : List α}, (∀ a ∈ l, (f a).canLay0 = true) → PyData.canLayAll0 (l.map f) = true
  | [], _ => by simp [PyData.canLayAll0]
  | a :: l, h => by
    rw [List.map_cons, PyData.canLayAll0, h a List.mem_cons_self, layAll_map fun b hb => h b (List.mem_cons_of_mem _ hb)]
    rfl
theorem depthAll_map {α : Type} {f : α → PyData} {n : Nat} (h : ∀ a, (f a).depth ≤ n) : ∀ l : List α, PyData.depthAll (l.map f) ≤ n
  | [] => by simp [PyData.depthAll]
  | a :: l => by
    have h1 := h a
    have h2 := depthAll_map h l
    rw [List.map_cons, PyData.depthAll]
    omega
theorem vData_lay {v : V} (h : VOk v) : (vData v).canLay0 = true := by
  rcases h with rfl | ⟨z, rfl, _⟩ <;> simp [vData, PyData.canLay0]
theorem vData_depth (v : V) : (vData v).depth = 0 := by cases v <;> simp [vData, PyData.depth]
theorem prData_lay {p : Str × V} (h : KeyOk p.1) (k : VOk p.2) : (prData p).canLay0 = true := by
  unfold prData
  rw [PyData.canLay0, PyData.canLayAll0, PyData.canLayAll0, PyData.canLayAll0, h.lay, vData_lay k]
  rfl
theorem prData_depth (p : Str × V) : (prData p).depth = 1 := by
  unfold prData
  simp [PyData.depth, PyData.depthAll, vData_depth]
theorem rgData_lay {r : Rg} (h : RgOk r) : (rgData r).canLay0 = true := by
  unfold rgData
  rw [PyData.canLay0, PyData.canLayAll0, PyData.canLayAll0, PyData.canLayAll0, PyData.canLayAll0, h.lo.lay, h.hi.lay, PyData.canLay0, layAll_map fun k hk => (h.own k hk).1.lay]
  rfl
theorem gsData_lay {gs : List Str} (h : ∀ g ∈ gs, KeyOk g) : (gsData gs).canLay0 = true := by
  rw [PyData.canLay0]
  exact layAll_map fun g hg => (h g hg).lay
theorem rsData_lay {rs : List Rg} (h : ∀ r ∈ rs, RgOk r) : (rsData rs).canLay0 = true := by
  rw [PyData.canLay0]
  exact layAll_map fun g hg => rgData_lay (h g hg)
theorem wsData_lay {ws : List (Str × V)} (h : ∀ p ∈ ws, KeyOk p.1 ∧ VOk p.2) : (wsData ws).canLay0 = true := by
  rw [PyData.canLay0]
  exact layAll_map fun g hg => prData_lay (h g hg).1 (h g hg).2
theorem gsData_depth (gs : List Str) : (gsData gs).depth ≤ 1 := by
  have := depthAll_map (f := PyData.str) (n := 0) (fun _ => by simp [PyData.depth]) gs
  rw [PyData.depth]
  omega
theorem rsData_depth (rs : List Rg) : (rsData rs).depth ≤ 3 := by
  have := depthAll_map (f := rgData) (n := 2) (fun r => by rw [depth_rg]; exact Nat.le_refl _) rs
  rw [PyData.depth]
  omega
theorem wsData_depth (ws : List (Str × V)) : (wsData ws).depth ≤ 2 := by
  have := depthAll_map (f := prData) (n := 1) (fun r => by rw [prData_depth]; exact Nat.le_refl _) ws
  rw [PyData.depth]
  omega
theorem shaped_of {d : PyData} {n : Nat} (h : d.canLay0 = true) (k : d.depth ≤ n) (hn : n ≤ 64 := by decide) : SeqAt.shaped d = true := by
  show (d.canLay0 && decide (d.depth ≤ 64)) = true
  rw [h, decide_eq_true (Nat.le_trans k hn)]
  rfl
theorem mData_lay {D : Dl} (h : DlOk D) : (vData D.m).canLay0 = true := by
  rcases h.num with ⟨_, e⟩ | ⟨_, z, e, _⟩ <;> rw [e] <;> simp [vData, PyData.canLay0]
theorem dlData_lay {D : Dl} (h : DlOk D) : (dlData D).canLay0 = true := by
  unfold dlData
  rw [PyData.canLay0, PyData.canLayAll0, PyData.canLayAll0, PyData.canLayAll0, PyData.canLayAll0, PyData.canLayAll0, PyData.canLayAll0, mData_lay h, gsData_lay h.gk, rsData_lay h.rk, wsData_lay h.wk.row]
  simp [PyData.canLay0]
theorem dlData_shaped {D : Dl} (h : DlOk D) : SeqAt.shaped (dlData D) = true := by
  refine shaped_of (n := 5) (dlData_lay h) ?_
  have h1 := gsData_depth D.gs
  have h2 := rsData_depth D.rs
  have h3 := wsData_depth D.ws
  unfold dlData
  generalize gsData D.gs = a at h1 ⊢
  generalize rsData D.rs = b at h2 ⊢
  generalize wsData D.ws = c at h3 ⊢
  simp only [PyData.depth, PyData.depthAll, vData_depth]
  omega
theorem dlData_refl {D : Dl} (h : DlOk D) : PyData.eqv (dlData D) (dlData D) = true := SeqAt.eqv_refl _ (dlData_lay h)
theorem DlOk.mdp {K : PySem.W.Frag} {H : Hp} {D : Dl} (h : DlOk D) : Dp K H D.m (vData D.m) := by
  rcases h.num with ⟨_, e⟩ | ⟨_, z, e, _⟩
  · rw [e]; exact .non
  · rw [e]; exact .int z
theorem dl_dp {K : PySem.W.Frag} {H : Hp} {D : Dl} {x3 x4 x5 : V} {t : Addr} (ok : DlOk D) (h : DAt K H D x3 x4 x5) (ht : SqT K H t [.int D.n, D.m, x3, x4, x5]) : Dp K H (.ref t) (dlData D) :=
  .tup ht (.cons (.int _) (.cons ok.mdp (.cons h.g (.cons h.r (.cons h.w .nil)))))

/-- a dealing's attributes -/
def DF (n : Int) (m x3 x4 x5 : V) : List (Str × V) := putF "writes" x5 (putF "ranges" x4 (putF "gets" x3 (putF "number" m (putF "snapshot" (.int n) []))))
section
variable {n : Int} {m x3 x4 x5 : V}
theorem DF_w : (DF n m x3 x4 x5).lookup ("writes" : Str) = some x5 := look_hit
theorem DF_r : (DF n m x3 x4 x5).lookup ("ranges" : Str) = some x4 := (look_skip (by decide +kernel)).trans look_hit
theorem DF_g : (DF n m x3 x4 x5).lookup ("gets" : Str) = some x3 := (look_skip (by decide +kernel)).trans ((look_skip (by decide +kernel)).trans look_hit)
theorem DF_m : (DF n m x3 x4 x5).lookup ("number" : Str) = some m := (look_skip (by decide +kernel)).trans ((look_skip (by decide +kernel)).trans ((look_skip (by decide +kernel)).trans look_hit))
theorem DF_n : (DF n m x3 x4 x5).lookup ("snapshot" : Str) = some (.int n) := (look_skip (by decide +kernel)).trans ((look_skip (by decide +kernel)).trans ((look_skip (by decide +kernel)).trans ((look_skip (by decide +kernel)).trans look_hit)))
theorem DF_parts : (DF n m x3 x4 x5).lookup ("parts" : Str) = none := (look_skip (by decide +kernel)).trans ((look_skip (by decide +kernel)).trans ((look_skip (by decide +kernel)).trans ((look_skip (by decide +kernel)).trans ((look_skip (by decide +kernel)).trans rfl))))
end
/-- what the walk asks of the class Dealing -/
structure DT (K : PySem.W.Frag) (mg : Str → Option Value) (C : Addr) : Prop where
  cl : Cls K C
  mgD : mg "Dealing" = some (.ref C)
  nS : NoAttr K C "snapshot"
  nN : NoAttr K C "number"
  nG : NoAttr K C "gets"
  nR : NoAttr K C "ranges"
  nW : NoAttr K C "writes"
  ha : PySem.W.findIn K (.ref C) "__class__" = some (some (.builtin "object.__class__"))
  hn : PySem.W.specialIn K (.builtin "object.__class__") "__get__" = some (some (.builtin "getset_descriptor.__get__"))
  htk : PySem.W.takesIn K (.builtin "object.__class__") = some true
  hm : PySem.W.mroIn K C (.type "object") = some true

section
variable {P : Program} {w : World} {K : PySem.W.Frag} {mg : Str → Option Value} {base : Heap} {f C : Addr} {fd : FuncData}
def spNumbered (K : PySem.W.Frag) : Sp := fun vs H Q _ => ∃ (n : Int) (m : V) (a : Addr) (xs : List V), vs = [.int n, m, .ref a] ∧ SqT K H a xs ∧ ((xs = [] ∧ m = .non) ∨ (xs ≠ [] ∧ ∃ z, m = .int z ∧ n < z)) ∧ Q (.bl true) H
theorem scNumbered : FnScope ["snapshot", "number", "writes"] ["snapshot", "number", "writes"] (defScope sNumbered) := ⟨rfl, rfl, rfl, by decide +kernel, rfl, by decide +kernel, by decide +kernel⟩
theorem ok_numbered (B : Bt mg) (F : Fun K "is_numbered" "is_numbered" sNumbered f fd) (G1 : GOk P w K mg base 1 "is_integer" spIsInt) : FnOk P w K mg base CX0 2 f fd ["snapshot", "number", "writes"] (spNumbered K) := by
  refine F.ok scNumbered (fun vs H Q E h => ?_) (fun cdv A outer s H vs Q E hr h => ?_)
  · obtain ⟨n, m, a, xs, rfl, _⟩ := h
    rfl
  · obtain ⟨n, m, a, xs, rfl, hS, hc, q⟩ := h
    refine ⟨_, pss_cons (ps_if (PW.pt (pw_and (pt_val (pe_callB call_isi (by rfl) B.isi boot_isinstance (pa_cons (pv 2) (pa_cons (pe_bltn (v := .ty "tuple") (by rfl) B.tuple PyProof.Rows.boot_tuple rfl) pa_nil))))
        (pw_and1 (pt_cmpR op_eq (pe_callB call_len_seq (by rfl) B.len PySem.boot_len (pa_cons (pv 2) pa_nil)) pe_int (nomark _))))) (pss_one (ps_ret (pe_cmpR op_isN (pv 1) pe_non (nomark _)))) pss_nil)
      (pss_cons (ps_if (pt_cmpR op_isN (pv 1) pe_non (nomark _)) (pss_one (ps_ret (pe_not (pe_callB call_isi (by rfl) B.isi boot_isinstance (pa_cons (pv 2) (pa_cons (pe_bltn (v := .ty "tuple") (by rfl) B.tuple PyProof.Rows.boot_tuple rfl) pa_nil)))))) pss_nil)
      (pss_one (ps_ret (pe_and (pe_g G1 hr (by rfl) (pa_cons (pv 1) pa_nil)) (pe_one (pe_cmpR op_gt (pv 1) (pv 0) (nomark _))))))), ?_⟩
    refine ⟨_, rfl, _, _, _, _, true, rfl, .ty _, tyx_sqT hS, kit_ty (by decide +kernel), true, rfl, iteT ?_⟩
    refine ⟨_, rfl, _, _, rfl, .inr hS, rfl, _, rfl, ?_⟩
    rcases hc with ⟨rfl, rfl⟩ | ⟨hx, z, rfl, hz⟩
    · refine iteT ⟨_, rfl, rfl, ?_⟩
      exact q
    · have hd : decide (V.int (xs.length : Nat) = V.int 0) = false := decide_eq_false fun e => by
        injection e with e
        exact hx (List.length_eq_zero_iff.mp (by omega))
      rw [hd]
      refine iteF ⟨_, rfl, rfl, _, rfl, iteF ?_⟩
      refine ⟨_, rfl, z, rfl, true, rfl, iteT ⟨_, rfl, _, rfl, _, _, rfl, rfl, ?_⟩⟩
      show Q (V.bl (decide (n < z))) H
      rw [decide_eq_true hz]
      exact q
def spBad (K : PySem.W.Frag) : Sp := fun vs H Q _ => ∃ (D : Dl) (x3 x4 x5 : V), vs = [.int D.n, D.m, x3, x4, x5] ∧ DlOk D ∧ DAt K H D x3 x4 x5 ∧ ∀ H', Same H H' → Q .non H'
abbrev NBad : List Str := ["snapshot", "number", "gets", "ranges", "writes"]
theorem scBad : FnScope NBad NBad (defScope sBadPart) := ⟨rfl, rfl, rfl, by decide +kernel, rfl, by decide +kernel, by decide +kernel⟩
theorem ok_badPart (B : Bt mg) (F : Fun K "bad_part" "bad_part" sBadPart f fd) (G1 : GOk P w K mg base 1 "is_integer" spIsInt) (G2 : GOk P w K mg base 2 "is_numbered" (spNumbered K)) (G3 : GOk P w K mg base 2 "are_keys" (spAreKeys K))
    (G4 : GOk P w K mg base 4 "are_ranges" (spAreRanges K)) (G5 : GOk P w K mg base 5 "are_writes" (spAreWrites K)) : FnOk P w K mg base CX0 6 f fd NBad (spBad K) := by
  refine F.ok scBad (fun vs H Q E h => ?_) (fun cdv A outer s H vs Q E hr h => ?_)
  · obtain ⟨D, x3, x4, x5, rfl, _⟩ := h
    rfl
  · obtain ⟨D, x3, x4, x5, rfl, ok, hD, q⟩ := h
    refine ⟨_, pss_cons (ps_if (PW.pt (pw_or (pt_not (pt_val (pe_g G1 hr (by rfl) (pa_cons (pv 0) pa_nil)))) (pw_or1 (pt_cmpR op_lt (pv 0) pe_int (nomark _))))) (pss_one (ps_ret pe_str)) pss_nil)
      (pss_cons (ps_if (pt_not (pt_val (pe_g G2 hr (by rfl) (pa_cons (pv 0) (pa_cons (pv 1) (pa_cons (pv 4) pa_nil)))))) (pss_one (ps_ret pe_str)) pss_nil)
      (pss_cons (ps_if (pt_not (pt_val (pe_g G3 hr (by rfl) (pa_cons (pv 2) pa_nil)))) (pss_one (ps_ret pe_str)) pss_nil)
      (pss_cons (ps_if (pt_not (pt_val (pe_g G4 hr (by rfl) (pa_cons (pv 3) pa_nil)))) (pss_one (ps_ret pe_str)) pss_nil)
      (pss_one (ps_ret (pe_ifExp (pt_val (pe_g G5 hr (by rfl) (pa_cons (pv 4) pa_nil))) pe_non pe_str)))))), ?_⟩
    refine ⟨_, rfl, D.n, rfl, true, rfl, iteF ?_⟩
    have n0 := ok.n0
    refine ⟨_, rfl, _, _, rfl, rfl, _, rfl, ?_⟩
    rw [decide_eq_false (show ¬ D.n < 0 by omega)]
    refine iteF ?_
    obtain ⟨a5, xs5, e5, s5, d5⟩ := dp_tup hD.w
    obtain ⟨a3, xs3, e3, s3, d3⟩ := dp_tup hD.g
    obtain ⟨a4, xs4, e4, s4, d4⟩ := dp_tup hD.r
    subst e5 e3 e4
    have hl5 := DpAll.length d5
    rw [List.length_map] at hl5
    have hs3 := DpAll.strs d3
    subst hs3
    refine ⟨_, rfl, _, rfl, _, rfl, D.n, D.m, a5, xs5, rfl, s5, ?_, true, rfl, iteF ?_⟩
    · rcases ok.num with ⟨e, k⟩ | ⟨e, k⟩
      · exact .inl ⟨List.length_eq_zero_iff.mp (by rw [hl5, e]; rfl), k⟩
      · exact .inr ⟨fun z => e (List.length_eq_zero_iff.mp (by rw [← hl5, z]; rfl)), k⟩
    refine ⟨_, rfl, a3, D.gs, rfl, s3, ok.ga, ok.gk, fun H1 m1 => ⟨true, rfl, iteF ?_⟩⟩
    refine ⟨_, rfl, a4, xs4, D.rs, rfl, SqT.same m1 s4, DpAll.same m1 _ _ d4, ok.ra, ok.rk, ok.rl, fun H2 m2 => ⟨true, rfl, iteF ?_⟩⟩
    refine ⟨_, rfl, a5, xs5, D.ws, rfl, SqT.same (m1.trans m2) s5, DpAll.same (m1.trans m2) _ _ d5, ok.wk, fun H3 m3 => ⟨true, rfl, iteT ?_⟩⟩
    exact q _ ((m1.trans m2).trans m3)
def spDInit (K : PySem.W.Frag) (C : Addr) : Sp := fun vs H Q _ => ∃ (p dx : Addr) (D : Dl) (x3 x4 x5 : V), vs = [.ref p, .int D.n, D.m, x3, x4, x5] ∧ H p = some (.ins C dx []) ∧ DlOk D ∧ DAt K H D x3 x4 x5 ∧
  ∀ H' : Hp, H' p = some (.ins C dx (DF D.n D.m x3 x4 x5)) → (∀ b o, H b = some o → b ≠ p → H' b = some o) → Q .non H'
abbrev NDi : List Str := ["self", "snapshot", "number", "gets", "ranges", "writes", "bad"]
theorem scDInit : FnScope NDi ["self", "snapshot", "number", "gets", "ranges", "writes"] (defScope sDInit) := ⟨rfl, rfl, rfl, by decide +kernel, rfl, by decide +kernel, by decide +kernel⟩
theorem ok_dinit (T : DT K mg C) (F : Fun K "__init__" "Dealing.__init__" sDInit f fd) (G1 : GOk P w K mg base 6 "bad_part" (spBad K)) : FnOk P w K mg base CX0 7 f fd ["self", "snapshot", "number", "gets", "ranges", "writes"] (spDInit K C) := by
  refine F.ok scDInit (fun vs H Q E h => ?_) (fun cdv A outer s H vs Q E hr h => ?_)
  · obtain ⟨p, dx, D, x3, x4, x5, rfl, _⟩ := h
    rfl
  · obtain ⟨p, dx, D, x3, x4, x5, rfl, hp, ok, hD, q⟩ := h
    refine ⟨_, pss_cons (ps_set (i := 6) scDInit.nd rfl (Or.inl rfl) (pe_g G1 hr (by rfl) (pa_cons (pv 1) (pa_cons (pv 2) (pa_cons (pv 3) (pa_cons (pv 4) (pa_cons (pv 5) pa_nil)))))))
      (pss_cons (ps_if (pt_cmpR op_notN (pv 6) pe_non (nomark _)) (pss_one ps_never) pss_nil)
      (pss_cons (ps_fld (pv 0) (pv 1) rfl) (pss_cons (ps_fld (pv 0) (pv 2) rfl) (pss_cons (ps_fld (pv 0) (pv 3) rfl) (pss_cons (ps_fld (pv 0) (pv 4) rfl) (pss_one (ps_fld (pv 0) (pv 5) rfl))))))), ?_⟩
    refine ⟨_, rfl, _, rfl, _, rfl, _, rfl, _, rfl, D, x3, x4, x5, rfl, ok, hD, fun H1 s1 => ?_⟩
    refine ⟨_, rfl, rfl, _, rfl, iteF ?_⟩
    have l0 : ([] : List (Str × V)).length < 1 := Nat.zero_lt_one
    refine ⟨_, rfl, _, rfl, p, C, dx, _, rfl, s1 _ _ hp, T.cl, T.nS, (by show 0 < 1000; decide), ?_⟩
    refine ⟨_, rfl, _, rfl, p, C, dx, _, rfl, upd_same, T.cl, T.nN, Nat.lt_of_lt_of_le (lt_putF l0) (by decide), ?_⟩
    refine ⟨_, rfl, _, rfl, p, C, dx, _, rfl, upd_same, T.cl, T.nG, Nat.lt_of_lt_of_le (lt_putF (lt_putF l0)) (by decide), ?_⟩
    refine ⟨_, rfl, _, rfl, p, C, dx, _, rfl, upd_same, T.cl, T.nR, Nat.lt_of_lt_of_le (lt_putF (lt_putF (lt_putF l0))) (by decide), ?_⟩
    refine ⟨_, rfl, _, rfl, p, C, dx, _, rfl, upd_same, T.cl, T.nW, Nat.lt_of_lt_of_le (lt_putF (lt_putF (lt_putF (lt_putF l0)))) (by decide), ?_⟩
    refine q _ upd_same fun b o e hb => ?_
    rw [upd_ne hb, upd_ne hb, upd_ne hb, upd_ne hb, upd_ne hb]
    exact s1 _ _ e
def spDParts (C : Addr) : Sp := fun vs H Q _ => ∃ (p dx : Addr) (n : Int) (m x3 x4 x5 : V), vs = [.ref p] ∧ H p = some (.ins C dx (DF n m x3 x4 x5)) ∧ ∀ t, H t = none → Q (.ref t) (upd H t (.tup [.int n, m, x3, x4, x5]))
theorem scDParts : FnScope ["self"] ["self"] (defScope sDParts) := ⟨rfl, rfl, rfl, by decide +kernel, rfl, by decide +kernel, by decide +kernel⟩
theorem ok_dparts (T : DT K mg C) (F : Fun K "parts" "Dealing.parts" sDParts f fd) : FnOk P w K mg base CX0 1 f fd ["self"] (spDParts C) := by
  refine F.ok scDParts (fun vs H Q E h => ?_) (fun cdv A outer s H vs Q E hr h => ?_)
  · obtain ⟨p, dx, n, m, x3, x4, x5, rfl, _⟩ := h
    rfl
  · obtain ⟨p, dx, n, m, x3, x4, x5, rfl, hp, q⟩ := h
    refine ⟨_, pss_one (ps_ret (pe_tup (pa_cons (pe_fld (pv 0) rfl) (pa_cons (pe_fld (pv 0) rfl) (pa_cons (pe_fld (pv 0) rfl) (pa_cons (pe_fld (pv 0) rfl) (pa_cons (pe_fld (pv 0) rfl) pa_nil))))))), ?_⟩
    refine ⟨_, rfl, p, C, dx, _, _, rfl, hp, T.cl, T.nS, DF_n, _, rfl, p, C, dx, _, _, rfl, hp, T.cl, T.nN, DF_m, _, rfl, p, C, dx, _, _, rfl, hp, T.cl, T.nG, DF_g, _, rfl, p, C, dx, _, _, rfl, hp, T.cl, T.nR, DF_r,
      _, rfl, p, C, dx, _, _, rfl, hp, T.cl, T.nW, DF_w, (by show 5 ≤ sizeLine; decide), fun t ht => q t ht⟩
/-- two dealings of the same parts -/
def DlEq (K : PySem.W.Frag) (C : Addr) (a b : Addr) (H : Hp) : Prop := ∃ (dx dy : Addr) (D : Dl) (x3 x4 x5 y3 y4 y5 : V), H a = some (.ins C dx (DF D.n D.m x3 x4 x5)) ∧ H b = some (.ins C dy (DF D.n D.m y3 y4 y5)) ∧ DlOk D ∧ DAt K H D x3 x4 x5 ∧ DAt K H D y3 y4 y5
theorem scDEq : FnScope ["self", "other"] ["self", "other"] (defScope sDEq) := ⟨rfl, rfl, rfl, by decide +kernel, rfl, by decide +kernel, by decide +kernel⟩
theorem ok_deq (B : Bt mg) (T : DT K mg C) (F : Fun K "__eq__" "Dealing.__eq__" sDEq f fd) (M : MOk P w K mg base C 1 "parts" (spDParts C)) : FnOk P w K mg base CX0 2 f fd ["self", "other"] (spEq (DlEq K C)) := by
  refine F.ok scDEq (fun vs H Q E h => ?_) (fun cdv A outer s H vs Q E hr h => ?_)
  · obtain ⟨a, b, rfl, _⟩ := h
    rfl
  · obtain ⟨a, b, rfl, ⟨dx, dy, D, x3, x4, x5, y3, y4, y5, ha, hb, ok, hx, hy⟩, q⟩ := h
    refine ⟨_, pss_one (ps_ret (pe_and (pe_callB call_isi (by rfl) B.isi boot_isinstance (pa_cons (pv 1) (pa_cons (pe_glob (v := .ref C) (by rfl) T.mgD rfl) pa_nil)))
      (pe_one (pe_cmpR (op_eqD hr.units) (pe_m0 (pv 0) M hr) (pe_m0 (pv 1) M hr) (nomark _))))), ?_⟩
    refine ⟨_, rfl, _, _, _, _, true, rfl, .own C, .base (.ins hb T.cl T.ha T.hn T.htk T.hm), (by unfold PySem.W.kitOne; rw [if_pos (by simp)]), true, rfl, iteT ?_⟩
    refine ⟨_, rfl, a, dx, _, rfl, ha, DF_parts, a, dx, _, _, _, _, _, rfl, ha, fun t ht => ?_⟩
    have s1 : Same H (upd H t (.tup [.int D.n, D.m, x3, x4, x5])) := Same.new (Same.refl _) ht
    refine ⟨_, rfl, b, dy, _, rfl, s1 _ _ hb, DF_parts, b, dy, _, _, _, _, _, rfl, s1 _ _ hb, fun u hu => ?_⟩
    have s2 : Same H (upd (upd H t (.tup [.int D.n, D.m, x3, x4, x5])) u (.tup [.int D.n, D.m, y3, y4, y5])) := Same.new s1 hu
    refine ⟨dlData D, dlData D, dl_dp ok (hx.same s2) (SqT.of (by rw [upd_ne (ne_of_none upd_same hu), upd_same])), dl_dp ok (hy.same s2) (SqT.of upd_same), dlData_shaped ok, dlData_shaped ok, ?_⟩
    rw [dlData_refl ok]
    exact q _ s2
end
end L2.K47
/-! K47, part H0: sorted rows of ranges are one; what a dict gives between two keys -/
namespace L2.K47
open PySem PySem.Spec PyProof.Rows

theorem toks_strs : ∀ {l m : List Str}, PySem.W.keyToksAll (l.map PyData.str) = PySem.W.keyToksAll (m.map PyData.str) → l = m
  | [], [], _ => rfl
  | [], y :: m, e => by
    simp only [List.map_nil, List.map_cons, PySem.W.keyToksAll] at e
    injection e with e1 _
    injection e1 with e1
    cases e1
  | x :: l, [], e => by
    simp only [List.map_nil, List.map_cons, PySem.W.keyToksAll] at e
    injection e with e1 _
    injection e1 with e1
    cases e1
  | x :: l, y :: m, e => by
    simp only [List.map_cons, PySem.W.keyToksAll, PySem.W.keyToks, List.cons_append, List.nil_append] at e
    injection e with _ e
    injection e with e1 e2
    injection e1 with e1
    rw [str_ext e1, toks_strs e2]
theorem toks_rg {r q : Rg} (e : PySem.W.keyToks (rgData r) = PySem.W.keyToks (rgData q)) : r = q := by
  obtain ⟨a, b, c⟩ := r
  obtain ⟨a', b', c'⟩ := q
  simp only [rgData, PySem.W.keyToks, PySem.W.keyToksAll, List.cons_append, List.nil_append] at e
  injection e with _ e
  injection e with e1 e
  injection e with _ e
  injection e with e2 e
  injection e with _ e
  injection e1 with e1
  injection e2 with e2
  have e3 := toks_strs (List.append_cancel_right e)
  rw [str_ext e1, str_ext e2, e3]
theorem rgLe_antisymm {r q : Rg} (h : rgLe r q) (k : rgLe q r) : r = q := toks_rg (PyProof.Rows.lex_total _ _ k h)
theorem rgLt_of {r q : Rg} (h : rgLe r q) (n : r ≠ q) : PySem.W.dataLt (rgData r) (rgData q) = true := by
  cases k : PySem.W.dataLt (rgData r) (rgData q) with
  | true => rfl
  | false => exact absurd (rgLe_antisymm h k) n
theorem ascR_unique {l m : List Rg} (p : l.Perm m) (h : AscR l) (k : AscR m) : l = m := sorted_unique (fun _ _ => rgLe_antisymm) p h k
theorem srtR_ex (L : List Rg) : ∃ ys : List Rg, ys.Perm L ∧ AscR ys := by
  have pm := List.mergeSort_perm (L.map fun r => ((V.non, rgData r) : VD)) leD
  have pw := PySem.W.sort_pairwise leD_total (L.map fun r => ((V.non, rgData r) : VD))
  obtain ⟨ys, h1, h2⟩ := perm_of_map pm L rfl
  refine ⟨ys, h1, ?_⟩
  rw [h2] at pw
  refine (List.pairwise_map.mp pw).imp fun {a b} h => ?_
  have h' : (!PySem.W.dataLt (rgData b) (rgData a)) = true := h
  rw [Bool.not_eq_true'] at h'
  exact h'
/-- the ranges in their order -/
noncomputable def srtR (L : List Rg) : List Rg := Classical.choose (srtR_ex L)
theorem srtR_perm (L : List Rg) : (srtR L).Perm L := (Classical.choose_spec (srtR_ex L)).1
theorem srtR_asc (L : List Rg) : AscR (srtR L) := (Classical.choose_spec (srtR_ex L)).2
theorem srtR_eq {l m : List Rg} (p : m.Perm l) (h : AscR m) : m = srtR l := ascR_unique (p.trans (srtR_perm l).symm) h (srtR_asc l)
theorem srtR_congr {l m : List Rg} (p : l.Perm m) : srtR l = srtR m := srtR_eq ((srtR_perm l).trans p) (srtR_asc l)
theorem srtR_strict {l : List Rg} (nd : l.Nodup) : AscRL (srtR l) := by
  have h := (srtR_asc l).and ((srtR_perm l).nodup_iff.mpr nd)
  exact h.imp fun ⟨h, n⟩ => rgLt_of h n

/-! ### between two keys -/
def inR (lo hi k : Str) : Bool := (!decide (ltS k lo)) && (!decide (ltS hi k))
theorem inR_iff {lo hi k : Str} : inR lo hi k = true ↔ leS lo k ∧ leS k hi := by
  unfold inR
  rw [Bool.and_eq_true, Bool.not_eq_true', Bool.not_eq_true', decide_eq_false_iff_not, decide_eq_false_iff_not]
  exact ⟨fun h => ⟨List.not_lt.mp h.1, List.not_lt.mp h.2⟩, fun h => ⟨List.not_lt.mpr h.1, List.not_lt.mpr h.2⟩⟩
/-- the own keys from lo to hi -/
def ownF (W : KVs) (lo hi : Str) : List Str := (srtS (keysOf W)).filter (inR lo hi)
/-- the rows of a state from lo to hi -/
def rowsF (S : KVs) (lo hi : Str) : List (Str × V) := (ownF S lo hi).map fun k => (k, (valV S (.inr k)).getD .non)
/-- .. as rows of a dict -/
def asKV (l : List (Str × V)) : KVs := l.map fun p => (.inr p.1, p.2)
/-- what is found: the state's rows, then the own -/
def foundF (S W : KVs) (lo hi : Str) : KVs := (ownF W lo hi).foldl (fun d k => putK d (.inr k) ((valV W (.inr k)).getD .non)) (mergeK [] (asKV (rowsF S lo hi)))
/-- what is told -/
def toldF (F : KVs) : List (Str × V) := ((srtS (keysOf F)).filter fun k => !decide ((valV F (.inr k)).getD .non = .non)).map fun k => (k, (valV F (.inr k)).getD .non)
/-- what was written, in order -/
def wroteF (W : KVs) : List (Str × V) := (srtS (keysOf W)).map fun k => (k, (valV W (.inr k)).getD .non)

theorem mem_ownF {W : KVs} {lo hi k : Str} (h : k ∈ ownF W lo hi) : k ∈ keysOf W ∧ inR lo hi k = true := by
  obtain ⟨h1, h2⟩ := List.mem_filter.mp h
  exact ⟨mem_srtS.mp h1, h2⟩
theorem ownF_rg {W : KVs} {lo hi : Str} (h : WK W) (hlo : KeyOk lo) (hhi : KeyOk hi) (hle : leS lo hi) : RgOk (lo, hi, ownF W lo hi) where
  lo := hlo
  hi := hhi
  le := hle
  asc := (srtS_strict h.ndk).filter _
  own := fun k hk => by
    obtain ⟨h1, h2⟩ := mem_ownF hk
    exact ⟨h.key h1, inR_iff.mp h2⟩
theorem rowsF_row {S : KVs} {lo hi : Str} (h : WK S) : ∀ p ∈ rowsF S lo hi, KeyOk p.1 ∧ VOk p.2 := fun p hp => by
  obtain ⟨k, hk, e⟩ := List.mem_map.mp hp
  obtain ⟨h1, _⟩ := mem_ownF hk
  obtain ⟨v, e1, hv⟩ := h.val h1
  rw [← e]
  exact ⟨h.key h1, by show VOk ((valV S (.inr k)).getD .non); rw [e1]; exact hv⟩
theorem wk_fold {α : Type} {k : α → Str} {v : α → V} : ∀ (l : List α) {d : KVs}, WK d → (∀ a ∈ l, KeyOk (k a) ∧ VOk (v a)) → WK (l.foldl (fun d a => putK d (.inr (k a)) (v a)) d)
  | [], _, h, _ => h
  | a :: l, d, h, k => wk_fold l (h.put (k a List.mem_cons_self).1 (k a List.mem_cons_self).2) fun b hb => k b (List.mem_cons_of_mem _ hb)
theorem mergeK_fold : ∀ (l : List (Str × V)) (d : KVs), mergeK d (asKV l) = l.foldl (fun d p => putK d (.inr p.1) p.2) d
  | [], _ => rfl
  | p :: l, d => mergeK_fold l (putK d (.inr p.1) p.2)
theorem foundF_wk {S W : KVs} {lo hi : Str} (hS : WK S) (hW : WK W) : WK (foundF S W lo hi) := by
  unfold foundF
  refine wk_fold (k := fun k => k) (v := fun k => (valV W (.inr k)).getD .non) _ ?_ fun k hk => ?_
  · rw [mergeK_fold]
    exact wk_fold (k := fun p : Str × V => p.1) (v := fun p : Str × V => p.2) _ .nil (rowsF_row hS)
  · obtain ⟨h1, _⟩ := mem_ownF hk
    obtain ⟨v, e1, hv⟩ := hW.val h1
    rw [e1]
    exact ⟨hW.key h1, hv⟩
theorem toldF_row {F : KVs} (h : WK F) : ∀ p ∈ toldF F, KeyOk p.1 ∧ VOk p.2 := fun p hp => by
  obtain ⟨k, hk, e⟩ := List.mem_map.mp hp
  have h1 := mem_srtS.mp (List.mem_filter.mp hk).1
  obtain ⟨v, e1, hv⟩ := h.val h1
  rw [← e]
  exact ⟨h.key h1, by show VOk ((valV F (.inr k)).getD .non); rw [e1]; exact hv⟩
theorem wroteF_ok {W : KVs} (h : WK W) : WrOk (wroteF W) where
  asc := by
    unfold wroteF
    rw [List.map_map]
    exact (show AscL (srtS (keysOf W)) from srtS_strict h.ndk) |> fun q => by
      have e : ((fun p : Str × V => p.1) ∘ fun k => (k, (valV W (.inr k)).getD .non)) = id := rfl
      rw [e, List.map_id]
      exact q
  row := fun p hp => by
    obtain ⟨k, hk, e⟩ := List.mem_map.mp hp
    have h1 := mem_srtS.mp hk
    obtain ⟨v, e1, hv⟩ := h.val h1
    rw [← e]
    exact ⟨h.key h1, by show VOk ((valV W (.inr k)).getD .non); rw [e1]; exact hv⟩
end L2.K47
/-! K47, part H1: the walk over a state; the two lambdas -/
namespace L2.K47
open PySem PySem.Spec PyProof.Rows LamX NdefX

theorem take_get {α : Type} {l : List α} {i : Nat} {x : α} (h : l[i]? = some x) : l.take (i + 1) = l.take i ++ [x] := by rw [List.take_succ, h]; rfl
theorem take_filter {α : Type} {f : α → Bool} {l : List α} {i : Nat} {x : α} (h : l[i]? = some x) : (l.take (i + 1)).filter f = (l.take i).filter f ++ (if f x = true then [x] else []) := by
  rw [take_get h, List.filter_append]
  congr 1
  cases e : f x <;> simp [e]
theorem map_str_at {l : List Str} {i : Nat} {x : V} (h : (l.map V.str)[i]? = some x) : ∃ k, l[i]? = some k ∧ x = .str k := by
  rw [List.getElem?_map] at h
  cases e : l[i]? with
  | none => rw [e] at h; cases h
  | some k =>
    rw [e] at h
    exact ⟨k, rfl, (Option.some.inj h).symm⟩
theorem DGet.of {H : Hp} {a : Addr} {d : KVs} {k : Str} {v : V} (e : H a = some (.dK d)) (h : valV d (.inr k) = some v) : DGet H a (.str k) (some v) := by
  rw [← h]
  exact DGet.k (k := Sum.inr k) e
section
variable {P : Program} {w : World} {K : PySem.W.Frag} {mg : Str → Option Value} {base : Heap} {f C : Addr} {fd : FuncData}
def spWalked (K : PySem.W.Frag) : Sp := fun vs H Q _ => ∃ (u : Addr) (S : KVs) (lo hi : Str), vs = [.ref u, .str lo, .str hi] ∧ H u = some (.dK S) ∧ WK S ∧
  ∀ (a : Addr) (xs : List V) (H' : Hp), Same H H' → H a = none → H' a = some (.lst xs) → DpAll K H' xs ((rowsF S lo hi).map prData) → Q (.ref a) H'
abbrev NWk : List Str := ["_law_state", "_law_low", "_law_high", "_law_key_here"]
theorem scWalked : FnScope NWk ["_law_state", "_law_low", "_law_high"] (defScope sLWalked) := ⟨rfl, rfl, rfl, by decide +kernel, rfl, by decide +kernel, by decide +kernel⟩
theorem ok_walked (B : Bt mg) (F : Fun K "_law_walked" "_law_walked" sLWalked f fd) : FnOk P w K mg base CX0 1 f fd ["_law_state", "_law_low", "_law_high"] (spWalked K) := by
  refine F.ok scWalked (fun vs H Q E h => ?_) (fun cdv A outer s H vs Q E hr h => ?_)
  · obtain ⟨u, S, lo, hi, rfl, _⟩ := h
    rfl
  · obtain ⟨u, S, lo, hi, rfl, hu, hS, q⟩ := h
    refine ⟨_, pss_one (ps_ret (pe_lc (own := [("_law_key_here", 3)]) (g := gName 3) (by rfl) scWalked.nd (pi_list (pe_callB (cr_sortDict rfl hr.units) (by rfl) B.sorted PyProof.Rows.boot_sorted (pa_cons (pv 0) pa_nil)))
      (blkOk_by (own := [("_law_key_here", 3)]) (N := NWk) (sc := defScope sLWalked) (by decide +kernel)) (fun _ _ _ _ _ => pg_name (i := 3) scWalked.nd rfl (Or.inl rfl))
      (fun _ _ _ _ _ => pts_one (pt_chain op_le_str op_le_str (pv 1) (pv 3) (pv 2))) (fun _ _ _ _ _ => pe_tup (pa_cons (pv 3) (pa_cons (pe_dget (hu_of hr) (pv 0) (pv 3) (fun _ _ => rfl)) pa_nil))))), ?_⟩
    refine ⟨_, rfl, u, S, keysOf S, rfl, .inl hu, hS.keys, fun ys p pm as np => ?_⟩
    have ey := srtS_eq pm as
    subst ey
    have s1 : Same H (upd H p (.lst ((srtS (keysOf S)).map V.str))) := Same.new (Same.refl _) np
    have hl : (srtS (keysOf S)).length ≤ 10 := by
      rw [(srtS_perm _).length_eq]
      have := hS.len
      unfold keysOf
      rw [List.length_map]
      exact this
    refine ⟨p, rfl, ⟨_, SqL.of upd_same⟩, fun D hD => lc_data (K := K) (walk_list (xs := (srtS (keysOf S)).map V.str)) hD (fun H2 s2 => SqL.of (s2 _ _ upd_same))
      (fun i => ((((srtS (keysOf S)).take i).filter (inR lo hi)).map fun k => (k, (valV S (.inr k)).getD .non)).map prData) (by simp) (small_size (by simp; omega)) ?_ ?_⟩
    · rintro i x H2 H3 K1 K0 hi' s2 ⟨rfl, hx⟩ k1 k0
      obtain ⟨k, hk, rfl⟩ := map_str_at hx
      have hm : k ∈ keysOf S := mem_srtS.mp (List.mem_of_getElem? hk)
      obtain ⟨v, ev, hv⟩ := hS.val hm
      have hu2 := s2 _ _ (s1 _ _ hu)
      have hstep := take_filter (f := inR lo hi) hk
      refine ⟨rfl, _, rfl, _, rfl, _, _, rfl, rfl, _, rfl, ?_⟩
      by_cases c1 : ltS k lo
      · rw [decide_eq_true c1]
        refine ⟨_, rfl, iteF ?_⟩
        refine k0 _ (Same.refl _) ?_
        have c : inR lo hi k = false := by unfold inR; rw [decide_eq_true c1]; rfl
        rw [hstep, c]
        simp
      · rw [decide_eq_false c1]
        refine iteT ⟨_, rfl, _, _, rfl, rfl, ?_⟩
        by_cases c2 : ltS hi k
        · refine ⟨_, rfl, ?_⟩
          rw [decide_eq_true c2]
          refine iteF (k0 _ (Same.refl _) ?_)
          have c : inR lo hi k = false := by unfold inR; rw [decide_eq_true c2, Bool.not_true, Bool.and_false]
          rw [hstep, c]
          simp
        · refine ⟨_, rfl, ?_⟩
          rw [decide_eq_false c2]
          refine iteT ⟨_, rfl, _, rfl, _, rfl, u, v, rfl, DGet.of hu2 ev, (by show 2 ≤ sizeLine; decide), fun T hT => ?_⟩
          have c : inR lo hi k = true := by unfold inR; rw [decide_eq_false c1, decide_eq_false c2]; rfl
          refine k1 _ (prData (k, v)) _ (Same.new (Same.refl _) hT) (.tup (SqT.of upd_same) (.cons (.str k) (.cons hv.dp .nil))) (prData_noL _) ?_
          rw [hstep, c]
          simp [ev]
    · intro H2 ys s2 hy hd
      rw [List.length_map, List.take_length] at hd
      exact q D ys H2 (s1.trans s2) (s1.free hD) hy hd
end

/-! ### the lambdas of _law_made_over -/
/-- the i-th argument of its one call -/
def lamParts (i : Nat) : Arguments × Expr × Scope := match defBody sLMadeOver with
  | [.Return (some (.Call _ args _ _)) _] => match args[i]? with
    | some (.Lambda p b s _) => (p, b, s)
    | _ => (defArgs sLMadeOver, .Constant .none 0 ⟨0, 0, 0, 0⟩, defScope sLMadeOver)
  | _ => (defArgs sLMadeOver, .Constant .none 0 ⟨0, 0, 0, 0⟩, defScope sLMadeOver)
abbrev qLam : Str := "_law_made_over.<locals>.<lambda>"
def mkLook (c cd : Addr) : LM := ⟨qLam, (lamParts 1).1, (lamParts 1).2.1, (lamParts 1).2.2, [("_law_state", c)], cd⟩
def mkWalk (c cd : Addr) : LM := ⟨qLam, (lamParts 2).1, (lamParts 2).2.1, (lamParts 2).2.2, [("_law_state", c)], cd⟩
def spLook : SpL := fun z vs H Q _ => ∃ (u : Addr) (S : KVs) (k : Str), z = .ref u ∧ vs = [.str k] ∧ H u = some (.dK S) ∧ Q ((valV S (.inr k)).getD .non) H
def spWalkL (K : PySem.W.Frag) : SpL := fun z vs H Q _ => ∃ (u : Addr) (S : KVs) (lo hi : Str), z = .ref u ∧ vs = [.str lo, .str hi] ∧ H u = some (.dK S) ∧ WK S ∧
  ∀ (a : Addr) (xs : List V) (H' : Hp), Same H H' → H a = none → H' a = some (.lst xs) → DpAll K H' xs ((rowsF S lo hi).map prData) → Q (.ref a) H'
section
variable {P : Program} {w : World} {K : PySem.W.Frag} {mg : Str → Option Value} {base : Heap}
theorem ok_look (c cd : Addr) : LamOk P w K mg base 1 (mkLook c cd) c ["_law_key_here"] spLook := by
  have sc : NScope ["_law_key_here", "_law_state"] ["_law_key_here"] ["_law_state"] (lamParts 1).2.2 := nscope_by (by decide +kernel)
  refine lamok_of (N := ["_law_key_here", "_law_state"]) (y := "_law_state") rfl sc (fun pm ctv us hl => match us, hl with | [_], _ => rfl) (fun z vs H Q E h => ?_) fun f A outer s H vs z Q E hr h => ?_
  · obtain ⟨u, S, k, _, rfl, _⟩ := h
    rfl
  · obtain ⟨u, S, k, rfl, rfl, hu, q⟩ := h
    refine ⟨_, pe_dget1 (hu_of hr) (pv 1) (pv 0) ⟨rfl, rfl, rfl, rfl⟩, fun hc => ?_⟩
    have hne : u ≠ c := ne_of hu hc (by unfold CellO; intro e; cases e)
    have hu' : unc H c u = some (.dK S) := (unc_ne hne).trans hu
    refine ⟨_, rfl, u, rfl, .inl ⟨S, .inl hu'⟩, _, rfl, _, DGet.k (k := Sum.inr k) hu', fun _ => ?_⟩
    rw [unc_back hc]
    exact q
theorem ok_walkL (G : GOk P w K mg base 1 "_law_walked" (spWalked K)) (c cd : Addr) : LamOk P w K mg base 2 (mkWalk c cd) c ["_law_low", "_law_high"] (spWalkL K) := by
  have sc : NScope ["_law_low", "_law_high", "_law_state"] ["_law_low", "_law_high"] ["_law_state"] (lamParts 2).2.2 := nscope_by (by decide +kernel)
  refine lamok_of (N := ["_law_low", "_law_high", "_law_state"]) (y := "_law_state") rfl sc (fun pm ctv us hl => match us, hl with | [_, _], _ => rfl) (fun z vs H Q E h => ?_) fun f A outer s H vs z Q E hr h => ?_
  · obtain ⟨u, S, lo, hi, _, rfl, _⟩ := h
    rfl
  · obtain ⟨u, S, lo, hi, rfl, rfl, hu, hS, q⟩ := h
    refine ⟨_, pe_g G hr (by rfl) (pa_cons (pv 2) (pa_cons (pv 0) (pa_cons (pv 1) pa_nil))), fun hc => ?_⟩
    have hne : u ≠ c := ne_of hu hc (by unfold CellO; intro e; cases e)
    have hu' : unc H c u = some (.dK S) := (unc_ne hne).trans hu
    refine ⟨_, rfl, _, rfl, _, rfl, u, S, lo, hi, rfl, hu', hS, fun a xs H' s1 na hx hd h0 => ?_⟩
    have s2 : Same H (upd H' c (CellO c (.ref u))) := fun b o e => by
      by_cases hb : b = c
      · rw [hb] at e ⊢
        rw [upd_same, ← hc, e]
      · rw [upd_ne hb]
        exact s1 b o ((unc_ne hb).trans e)
    have hac : a ≠ c := fun e => by rw [e, h0] at hx; cases hx
    refine q a xs _ s2 ?_ ((upd_ne hac).trans hx) (DpAll.same (Same.new (Same.refl _) h0) _ _ hd)
    exact (unc_ne hac).symm.trans na
end
end L2.K47
/-! K47, part H2: transactions: made, ended, got, put, dropped -/
namespace L2.K47
open PySem PySem.Spec PyProof.Rows LamX NdefX

/-- what a transaction holds: its snapshot, the two lambdas, three dicts, whether it is open -/
structure Tr where
  n : Int
  fl : Addr
  fw : Addr
  w : Addr
  kd : Addr
  rd : Addr
  op : Bool
def Tr.fs (T : Tr) : List (Str × V) := putF "kept_open" (.bl T.op) (putF "kept_ranges" (.ref T.rd) (putF "kept_keys" (.ref T.kd) (putF "kept_writes" (.ref T.w) (putF "kept_walk" (.ref T.fw) (putF "kept_look" (.ref T.fl) (putF "kept_snapshot" (.int T.n) []))))))
section
variable {T : Tr}
theorem Tr.l_open : T.fs.lookup ("kept_open" : Str) = some (.bl T.op) := look_hit
theorem Tr.l_rd : T.fs.lookup ("kept_ranges" : Str) = some (.ref T.rd) := (look_skip (by decide +kernel)).trans look_hit
theorem Tr.l_kd : T.fs.lookup ("kept_keys" : Str) = some (.ref T.kd) := (look_skip (by decide +kernel)).trans ((look_skip (by decide +kernel)).trans look_hit)
theorem Tr.l_w : T.fs.lookup ("kept_writes" : Str) = some (.ref T.w) := (look_skip (by decide +kernel)).trans ((look_skip (by decide +kernel)).trans ((look_skip (by decide +kernel)).trans look_hit))
theorem Tr.l_fw : T.fs.lookup ("kept_walk" : Str) = some (.ref T.fw) := (look_skip (by decide +kernel)).trans ((look_skip (by decide +kernel)).trans ((look_skip (by decide +kernel)).trans ((look_skip (by decide +kernel)).trans look_hit)))
theorem Tr.l_fl : T.fs.lookup ("kept_look" : Str) = some (.ref T.fl) := (look_skip (by decide +kernel)).trans ((look_skip (by decide +kernel)).trans ((look_skip (by decide +kernel)).trans ((look_skip (by decide +kernel)).trans ((look_skip (by decide +kernel)).trans look_hit))))
theorem Tr.l_n : T.fs.lookup ("kept_snapshot" : Str) = some (.int T.n) := (look_skip (by decide +kernel)).trans ((look_skip (by decide +kernel)).trans ((look_skip (by decide +kernel)).trans ((look_skip (by decide +kernel)).trans ((look_skip (by decide +kernel)).trans ((look_skip (by decide +kernel)).trans look_hit)))))
theorem Tr.l_no {m : Str} (h : ¬ m = "kept_open" ∧ ¬ m = "kept_ranges" ∧ ¬ m = "kept_keys" ∧ ¬ m = "kept_writes" ∧ ¬ m = "kept_walk" ∧ ¬ m = "kept_look" ∧ ¬ m = "kept_snapshot") : T.fs.lookup m = none :=
  (look_skip h.1).trans ((look_skip h.2.1).trans ((look_skip h.2.2.1).trans ((look_skip h.2.2.2.1).trans ((look_skip h.2.2.2.2.1).trans ((look_skip h.2.2.2.2.2.1).trans ((look_skip h.2.2.2.2.2.2).trans rfl))))))
end
/-- what the walk asks of the class Transaction -/
structure TT (K : PySem.W.Frag) (mg : Str → Option Value) (C : Addr) : Prop where
  cl : Cls K C
  mgT : mg "Transaction" = some (.ref C)
  nS : NoAttr K C "kept_snapshot"
  nL : NoAttr K C "kept_look"
  nWk : NoAttr K C "kept_walk"
  nW : NoAttr K C "kept_writes"
  nK : NoAttr K C "kept_keys"
  nR : NoAttr K C "kept_ranges"
  nO : NoAttr K C "kept_open"
/-- a lambda over the state at u; N says what is known of where it, its code and its cell stand -/
def LookAt (N : Addr → Prop) (H : Hp) (fl u : Addr) : Prop := ∃ c cd, H fl = some (LamO fl (mkLook c cd)) ∧ H cd = some (CodeO cd qLam) ∧ H c = some (CellO c (.ref u)) ∧ N fl ∧ N cd ∧ N c
def WalkAt (N : Addr → Prop) (H : Hp) (fw u : Addr) : Prop := ∃ c cd, H fw = some (LamO fw (mkWalk c cd)) ∧ H cd = some (CodeO cd qLam) ∧ H c = some (CellO c (.ref u)) ∧ N fw ∧ N cd ∧ N c
section
variable {N M : Addr → Prop} {H H' : Hp} {fl u : Addr}
theorem LookAt.same (h : LookAt N H fl u) (s : Same H H') : LookAt N H' fl u := let ⟨c, cd, a, b, d, n⟩ := h; ⟨c, cd, s _ _ a, s _ _ b, s _ _ d, n⟩
theorem WalkAt.same (h : WalkAt N H fl u) (s : Same H H') : WalkAt N H' fl u := let ⟨c, cd, a, b, d, n⟩ := h; ⟨c, cd, s _ _ a, s _ _ b, s _ _ d, n⟩
theorem LookAt.mono (h : LookAt N H fl u) (k : ∀ b, N b → M b) : LookAt M H fl u := let ⟨c, cd, a, b, d, n1, n2, n3⟩ := h; ⟨c, cd, a, b, d, k _ n1, k _ n2, k _ n3⟩
theorem WalkAt.mono (h : WalkAt N H fl u) (k : ∀ b, N b → M b) : WalkAt M H fl u := let ⟨c, cd, a, b, d, n1, n2, n3⟩ := h; ⟨c, cd, a, b, d, k _ n1, k _ n2, k _ n3⟩
theorem LookAt.fr (h : LookAt N H fl u) (x : FrM M H H') (k : ∀ b, N b → ¬ M b) : LookAt N H' fl u := let ⟨c, cd, a, b, d, n1, n2, n3⟩ := h; ⟨c, cd, x.at a (k _ n1), x.at b (k _ n2), x.at d (k _ n3), n1, n2, n3⟩
theorem WalkAt.fr (h : WalkAt N H fl u) (x : FrM M H H') (k : ∀ b, N b → ¬ M b) : WalkAt N H' fl u := let ⟨c, cd, a, b, d, n1, n2, n3⟩ := h; ⟨c, cd, x.at a (k _ n1), x.at b (k _ n2), x.at d (k _ n3), n1, n2, n3⟩
end
def gK (G : List Str) : KVs := G.map fun k => (.inr k, .bl true)
theorem gK_keys (G : List Str) : (gK G).map (·.1) = G.map Sum.inr := by
  unfold gK
  rw [List.map_map]
  rfl
/-- G with k in it -/
def addG (G : List Str) (k : Str) : List Str := if k ∈ G then G else G ++ [k]
theorem gK_put (G : List Str) (k : Str) : putK (gK G) (.inr k) (.bl true) = gK (addG G k) := by
  unfold putK addG
  have e : (gK G).any (fun kv => decide (kv.1 = Sum.inr k)) = true ↔ k ∈ G := by
    rw [valV_any, valV_has, gK_keys, List.mem_map]
    exact ⟨fun ⟨a, h, e⟩ => by cases e; exact h, fun h => ⟨k, h, rfl⟩⟩
  by_cases c : k ∈ G
  · rw [if_pos (e.mpr c), if_pos c]
    unfold gK
    rw [List.map_map]
    refine List.map_congr_left fun a _ => ?_
    show (if (Sum.inr a : Key) = Sum.inr k then ((Sum.inr a : Key), V.bl true) else (Sum.inr a, V.bl true)) = _
    split <;> rfl
  · rw [if_neg (fun q => c (e.mp q)), if_neg c]
    unfold gK
    rw [List.map_append]
    rfl

section
variable {P : Program} {w : World} {K : PySem.W.Frag} {mg : Str → Option Value} {base : Heap} {f C : Addr} {fd : FuncData}
def spCheckKey : Sp := fun vs H Q _ => ∃ k : Str, vs = [.str k] ∧ KeyOk k ∧ ∀ H', Same H H' → Q .non H'
theorem scCheckKey : FnScope ["key"] ["key"] (defScope sCheckKey) := ⟨rfl, rfl, rfl, by decide +kernel, rfl, by decide +kernel, by decide +kernel⟩
theorem ok_checkKey (F : Fun K "check_key" "check_key" sCheckKey f fd) (G : GOk P w K mg base 1 "is_key" spIsKey) : FnOk P w K mg base CX0 2 f fd ["key"] spCheckKey := by
  refine F.ok scCheckKey (fun vs H Q E h => ?_) (fun cdv A outer s H vs Q E hr h => ?_)
  · obtain ⟨k, rfl, _⟩ := h
    rfl
  · obtain ⟨k, rfl, hk, q⟩ := h
    refine ⟨_, pss_one (ps_if (pt_not (pt_val (pe_g G hr (by rfl) (pa_cons (pv 0) pa_nil)))) (pss_one ps_never) pss_nil), ?_⟩
    exact ⟨_, rfl, k, rfl, hk, fun H1 s1 => ⟨true, rfl, iteF (q _ s1)⟩⟩
def spWithin (K : PySem.W.Frag) : Sp := fun vs H Q _ => ∃ (lo hi : Str) (d : Addr) (W : KVs), vs = [.str lo, .str hi, .ref d] ∧ H d = some (.dK W) ∧ WK W ∧
  ∀ (a : Addr) (H' : Hp), Same H H' → H a = none → H' a = some (.lst ((ownF W lo hi).map V.str)) → Q (.ref a) H'
abbrev NWi : List Str := ["low", "high", "keys", "key"]
theorem scWithin : FnScope NWi ["low", "high", "keys"] (defScope sWithin) := ⟨rfl, rfl, rfl, by decide +kernel, rfl, by decide +kernel, by decide +kernel⟩
theorem keysOf_at {W : KVs} (h : WK W) {i : Nat} {k : Key} {v : V} (e : W[i]? = some (k, v)) : ∃ x, k = .inr x ∧ (keysOf W)[i]? = some x := by
  obtain ⟨⟨x, e1, _⟩, _⟩ := h.row _ (List.mem_of_getElem? e)
  have e1 : k = Sum.inr x := e1
  subst e1
  refine ⟨x, rfl, ?_⟩
  unfold keysOf
  rw [List.getElem?_map, e]
  rfl
theorem ok_within (B : Bt mg) (F : Fun K "within" "within" sWithin f fd) : FnOk P w K mg base CX0 1 f fd ["low", "high", "keys"] (spWithin K) := by
  refine F.ok scWithin (fun vs H Q E h => ?_) (fun cdv A outer s H vs Q E hr h => ?_)
  · obtain ⟨lo, hi, d, W, rfl, _⟩ := h
    rfl
  · obtain ⟨lo, hi, d, W, rfl, hd, hW, q⟩ := h
    refine ⟨_, pss_one (ps_ret (pe_callB (cr_sortTexts hr.units) (by rfl) B.sorted PyProof.Rows.boot_sorted (pa_cons
      (pe_lock (pe_lc (own := [("key", 3)]) (g := gName 3) (by rfl) scWithin.nd (pi_keys (pv 2))
        (blkOk_by (own := [("key", 3)]) (N := NWi) (sc := defScope sWithin) (by decide +kernel)) (fun _ _ _ _ _ => pg_name (i := 3) scWithin.nd rfl (Or.inl rfl))
        (fun _ _ _ _ _ => pts_one (pt_chain op_le_str op_le_str (pv 0) (pv 3) (pv 1))) (fun _ _ _ _ _ => pv 3))) pa_nil))), ?_⟩
    have hl := hW.len
    refine ⟨d, _, hd, trivial, fun od => ⟨_, rfl, d, od, rfl, .inl ⟨W, upd_same, fun D hD => lc_data (K := K) walk_keys hD (fun H2 s2 => s2 _ _ upd_same)
      (fun i => (((keysOf W).take i).filter (inR lo hi)).map PyData.str) (by simp) (small_size (by omega)) ?_ ?_⟩⟩⟩
    · rintro i x H2 H3 K1 K0 hi' s2 ⟨rfl, kk, v, hkv, rfl⟩ k1 k0
      obtain ⟨k, rfl, hk⟩ := keysOf_at hW hkv
      have hstep := take_filter (f := inR lo hi) hk
      refine ⟨rfl, _, rfl, _, rfl, _, _, rfl, rfl, _, rfl, ?_⟩
      by_cases c1 : ltS k lo
      · rw [decide_eq_true c1]
        refine ⟨_, rfl, iteF (k0 _ (Same.refl _) ?_)⟩
        have c : inR lo hi k = false := by unfold inR; rw [decide_eq_true c1]; rfl
        rw [hstep, c]
        simp
      · rw [decide_eq_false c1]
        refine iteT ⟨_, rfl, _, _, rfl, rfl, ?_⟩
        by_cases c2 : ltS hi k
        · refine ⟨_, rfl, ?_⟩
          rw [decide_eq_true c2]
          refine iteF (k0 _ (Same.refl _) ?_)
          have c : inR lo hi k = false := by unfold inR; rw [decide_eq_true c2, Bool.not_true, Bool.and_false]
          rw [hstep, c]
          simp
        · refine ⟨_, rfl, ?_⟩
          rw [decide_eq_false c2]
          refine iteT ⟨_, rfl, k1 _ (.str k) _ (Same.refl _) (.str k) rfl ?_⟩
          have c : inR lo hi k = true := by unfold inR; rw [decide_eq_false c1, decide_eq_false c2]; rfl
          rw [hstep, c]
          simp
    · intro H2 ys s2 hy hdd
      have e : (keysOf W).take W.length = keysOf W := by
        refine List.take_of_length_le ?_
        unfold keysOf
        rw [List.length_map]
        exact Nat.le_refl _
      rw [e] at hdd
      have hys := DpAll.strs hdd
      subst hys
      refine ⟨s2 _ _ upd_same, D, _, rfl, SqL.of (Eq.trans (upd_ne ?_) hy), fun zs p pm as np => ?_⟩
      · intro z
        rw [z] at hD
        rw [upd_same] at hD
        cases hD
      · have ez := srtS_eq pm as
        rw [filter_srtS] at ez
        have sH : Same H (upd H2 d (.dK W)) := Same.unlock hd s2
        refine q p _ (Same.new sH np) (sH.free np) ?_
        rw [upd_same, ez]
        rfl

/-! ### made, ended -/
def spTInit (P : Program) (w : World) (C : Addr) : Sp := fun vs H Q _ => ∃ (p dx : Addr) (n : Int) (fl fw : Addr), vs = [.ref p, .int n, .ref fl, .ref fw] ∧ H p = some (.ins C dx []) ∧
  ∀ (a k r : Addr) (H' : Hp), H' p = some (.ins C dx (Tr.fs ⟨n, fl, fw, a, k, r, true⟩)) → H a = none → H k = none → H r = none → a ≠ k → H' a = some (.dK []) → H' k = some (.dK []) → H' r = some (NDictO P w r []) →
    (∀ b o, H b = some o → b ≠ p → H' b = some o) → Q .non H'
theorem scTInit : FnScope ["self", "snapshot", "look", "walk"] ["self", "snapshot", "look", "walk"] (defScope sTInit) := ⟨rfl, rfl, rfl, by decide +kernel, rfl, by decide +kernel, by decide +kernel⟩
theorem ok_tinit (T : TT K mg C) (F : Fun K "__init__" "Transaction.__init__" sTInit f fd) : FnOk P w K mg base CX0 1 f fd ["self", "snapshot", "look", "walk"] (spTInit P w C) := by
  refine F.ok scTInit (fun vs H Q E h => ?_) (fun cdv A outer s H vs Q E hr h => ?_)
  · obtain ⟨p, dx, n, fl, fw, rfl, _⟩ := h
    rfl
  · obtain ⟨p, dx, n, fl, fw, rfl, hp, q⟩ := h
    refine ⟨_, pss_cons (ps_fld (pv 0) (pv 1) rfl) (pss_cons (ps_fld (pv 0) (pv 2) rfl) (pss_cons (ps_fld (pv 0) (pv 3) rfl) (pss_cons (ps_fld (pv 0) pe_dnewK rfl) (pss_cons (ps_fld (pv 0) pe_dnewK rfl)
      (pss_cons (ps_fld (pv 0) pe_dnewN rfl) (pss_one (ps_fld (pv 0) pe_bl rfl))))))), ?_⟩
    have l0 : ([] : List (Str × V)).length < 1 := Nat.zero_lt_one
    refine ⟨_, rfl, _, rfl, p, C, dx, _, rfl, hp, T.cl, T.nS, (by show 0 < 1000; decide), ?_⟩
    refine ⟨_, rfl, _, rfl, p, C, dx, _, rfl, upd_same, T.cl, T.nL, Nat.lt_of_lt_of_le (lt_putF l0) (by decide), ?_⟩
    refine ⟨_, rfl, _, rfl, p, C, dx, _, rfl, upd_same, T.cl, T.nWk, Nat.lt_of_lt_of_le (lt_putF (lt_putF l0)) (by decide), ?_⟩
    intro a na
    have pa : p ≠ a := ne_of_none upd_same na
    refine ⟨_, rfl, p, C, dx, _, rfl, (upd_ne pa).trans upd_same, T.cl, T.nW, Nat.lt_of_lt_of_le (lt_putF (lt_putF (lt_putF l0))) (by decide), ?_⟩
    intro k nk
    have pk : p ≠ k := ne_of_none upd_same nk
    refine ⟨_, rfl, p, C, dx, _, rfl, (upd_ne pk).trans upd_same, T.cl, T.nK, Nat.lt_of_lt_of_le (lt_putF (lt_putF (lt_putF (lt_putF l0)))) (by decide), ?_⟩
    intro r nr
    have pr : p ≠ r := ne_of_none upd_same nr
    refine ⟨_, rfl, p, C, dx, _, rfl, (upd_ne pr).trans upd_same, T.cl, T.nR, Nat.lt_of_lt_of_le (lt_putF (lt_putF (lt_putF (lt_putF (lt_putF l0))))) (by decide), ?_⟩
    refine ⟨_, rfl, p, C, dx, _, rfl, upd_same, T.cl, T.nO, Nat.lt_of_lt_of_le (lt_putF (lt_putF (lt_putF (lt_putF (lt_putF (lt_putF l0)))))) (by decide), ?_⟩
    rw [upd_ne pa.symm, upd_ne pa.symm, upd_ne pa.symm] at na
    rw [upd_ne pk.symm] at nk
    have ak : a ≠ k := fun e => by rw [e, upd_same] at nk; cases nk
    rw [upd_ne ak.symm, upd_ne pk.symm, upd_ne pk.symm, upd_ne pk.symm] at nk
    rw [upd_ne pr.symm] at nr
    have kr : k ≠ r := fun e => by rw [e, upd_same] at nr; cases nr
    rw [upd_ne kr.symm, upd_ne pr.symm] at nr
    have ar : a ≠ r := fun e => by rw [e, upd_same] at nr; cases nr
    rw [upd_ne ar.symm, upd_ne pr.symm, upd_ne pr.symm, upd_ne pr.symm] at nr
    refine q a k r _ upd_same na nk nr ak ?_ ?_ ?_ fun b o e hb => ?_
    · rw [upd_ne pa.symm, upd_ne pa.symm, upd_ne ar, upd_ne pa.symm, upd_ne ak, upd_ne pa.symm, upd_same]
    · rw [upd_ne pk.symm, upd_ne pk.symm, upd_ne kr, upd_ne pk.symm, upd_same]
    · rw [upd_ne pr.symm, upd_ne pr.symm, upd_same]
      rfl
    · have ba := ne_of_none e na
      have bk := ne_of_none e nk
      have br := ne_of_none e nr
      rw [upd_ne hb, upd_ne hb, upd_ne br, upd_ne hb, upd_ne bk, upd_ne hb, upd_ne ba, upd_ne hb, upd_ne hb, upd_ne hb]
      exact e
def spTCheck (C : Addr) : Sp := fun vs H Q _ => ∃ (t dx : Addr) (T : Tr), vs = [.ref t] ∧ H t = some (.ins C dx T.fs) ∧ T.op = true ∧ Q .non H
theorem scTCheck : FnScope ["self"] ["self"] (defScope sTCheck) := ⟨rfl, rfl, rfl, by decide +kernel, rfl, by decide +kernel, by decide +kernel⟩
theorem ok_tcheck (T : TT K mg C) (F : Fun K "check_open" "Transaction.check_open" sTCheck f fd) : FnOk P w K mg base CX0 1 f fd ["self"] (spTCheck C) := by
  refine F.ok scTCheck (fun vs H Q E h => ?_) (fun cdv A outer s H vs Q E hr h => ?_)
  · obtain ⟨t, dx, Tr, rfl, _⟩ := h
    rfl
  · obtain ⟨t, dx, Tr, rfl, ht, ho, q⟩ := h
    refine ⟨_, pss_one (ps_if (pt_not (pt_val (pe_fld (pv 0) rfl))) (pss_one ps_never) pss_nil), ?_⟩
    refine ⟨_, rfl, t, C, dx, _, _, rfl, ht, T.cl, T.nO, Tr.l_open, true, by rw [ho], iteF q⟩
def spTStands (C : Addr) : Sp := fun vs H Q _ => ∃ (t dx : Addr) (T : Tr), vs = [.ref t] ∧ H t = some (.ins C dx T.fs) ∧ Q (.int T.n) H
theorem scTStands : FnScope ["self"] ["self"] (defScope sTStands) := ⟨rfl, rfl, rfl, by decide +kernel, rfl, by decide +kernel, by decide +kernel⟩
theorem ok_tstands (T : TT K mg C) (F : Fun K "stands_at" "Transaction.stands_at" sTStands f fd) : FnOk P w K mg base CX0 1 f fd ["self"] (spTStands C) := by
  refine F.ok scTStands (fun vs H Q E h => ?_) (fun cdv A outer s H vs Q E hr h => ?_)
  · obtain ⟨t, dx, Tr, rfl, _⟩ := h
    rfl
  · obtain ⟨t, dx, Tr, rfl, ht, q⟩ := h
    exact ⟨_, pss_one (ps_ret (pe_fld (pv 0) rfl)), _, rfl, t, C, dx, _, _, rfl, ht, T.cl, T.nS, Tr.l_n, q⟩
def spTIsOpen (C : Addr) : Sp := fun vs H Q _ => ∃ (t dx : Addr) (T : Tr), vs = [.ref t] ∧ H t = some (.ins C dx T.fs) ∧ Q (.bl T.op) H
theorem scTIsOpen : FnScope ["self"] ["self"] (defScope sTIsOpen) := ⟨rfl, rfl, rfl, by decide +kernel, rfl, by decide +kernel, by decide +kernel⟩
theorem ok_tisopen (T : TT K mg C) (F : Fun K "is_open" "Transaction.is_open" sTIsOpen f fd) : FnOk P w K mg base CX0 1 f fd ["self"] (spTIsOpen C) := by
  refine F.ok scTIsOpen (fun vs H Q E h => ?_) (fun cdv A outer s H vs Q E hr h => ?_)
  · obtain ⟨t, dx, Tr, rfl, _⟩ := h
    rfl
  · obtain ⟨t, dx, Tr, rfl, ht, q⟩ := h
    exact ⟨_, pss_one (ps_ret (pe_fld (pv 0) rfl)), _, rfl, t, C, dx, _, _, rfl, ht, T.cl, T.nO, Tr.l_open, q⟩
theorem fs_len (T : Tr) : T.fs.length < 8 := lt_putF (lt_putF (lt_putF (lt_putF (lt_putF (lt_putF (lt_putF Nat.zero_lt_one))))))
def spTEnd (C : Addr) : Sp := fun vs H Q _ => ∃ (t dx : Addr) (T : Tr), vs = [.ref t] ∧ H t = some (.ins C dx T.fs) ∧ T.op = true ∧ Q .non (upd H t (.ins C dx (Tr.fs { T with op := false })))
theorem scTEnd : FnScope ["self"] ["self"] (defScope sTEnd) := ⟨rfl, rfl, rfl, by decide +kernel, rfl, by decide +kernel, by decide +kernel⟩
theorem ok_tend (T : TT K mg C) (F : Fun K "end" "Transaction.end" sTEnd f fd) (M : MOk P w K mg base C 1 "check_open" (spTCheck C)) : FnOk P w K mg base CX0 2 f fd ["self"] (spTEnd C) := by
  refine F.ok scTEnd (fun vs H Q E h => ?_) (fun cdv A outer s H vs Q E hr h => ?_)
  · obtain ⟨t, dx, Tr, rfl, _⟩ := h
    rfl
  · obtain ⟨t, dx, R, rfl, ht, ho, q⟩ := h
    refine ⟨_, pss_cons (ps_expr (pe_m0 (pv 0) M hr)) (pss_one (ps_fld (pv 0) pe_bl rfl)), ?_⟩
    refine ⟨_, rfl, t, dx, _, rfl, ht, Tr.l_no (by decide +kernel), t, dx, R, rfl, ht, ho, ?_⟩
    refine ⟨_, rfl, t, C, dx, _, rfl, ht, T.cl, T.nO, Nat.lt_of_lt_of_le (fs_len R) (by decide), ?_⟩
    have e : putF "kept_open" (.bl false) R.fs = Tr.fs { R with op := false } := putF_twice _
    show Q .non (upd H t (.ins C dx (putF "kept_open" (.bl false) R.fs)))
    rw [e]
    exact q
end
end L2.K47
/-! K47, part H3: transactions: get, put, drop, what was seen and written, the dealing -/
namespace L2.K47
open PySem PySem.Spec PyProof.Rows LamX NdefX

section
variable {P : Program} {w : World} {K : PySem.W.Frag} {mg : Str → Option Value} {base : Heap} {f C CD : Addr} {fd : FuncData}
def spTGet (C : Addr) : Sp := fun vs H Q _ => ∃ (t dx : Addr) (T : Tr) (W S : KVs) (G : List Str) (u : Addr) (k : Str), vs = [.ref t, .str k] ∧ H t = some (.ins C dx T.fs) ∧ T.op = true ∧ KeyOk k ∧ H T.w = some (.dK W) ∧
  H T.kd = some (.dK (gK G)) ∧ G.length ≤ 900 ∧ LookAt (fun _ => True) H T.fl u ∧ H u = some (.dK S) ∧ T.kd ≠ u ∧
  (∀ v, valV W (.inr k) = some v → ∀ H', Same H H' → Q v H') ∧
  (valV W (.inr k) = none → ∀ H', FrM (· = T.kd) H H' → H' T.kd = some (.dK (gK (addG G k))) → Q ((valV S (.inr k)).getD .non) H')
theorem scTGet : FnScope ["self", "key"] ["self", "key"] (defScope sTGet) := ⟨rfl, rfl, rfl, by decide +kernel, rfl, by decide +kernel, by decide +kernel⟩
theorem ok_tget (T : TT K mg C) (F : Fun K "get" "Transaction.get" sTGet f fd) (M : MOk P w K mg base C 1 "check_open" (spTCheck C)) (G : GOk P w K mg base 2 "check_key" spCheckKey) : FnOk P w K mg base CX0 3 f fd ["self", "key"] (spTGet C) := by
  refine F.ok scTGet (fun vs H Q E h => ?_) (fun cdv A outer s H vs Q E hr h => ?_)
  · obtain ⟨t, dx, T, W, S, G, u, k, rfl, _⟩ := h
    rfl
  · obtain ⟨t, dx, R, W, S, G', u, k, rfl, ht, ho, hk, hw, hkd, hG, hL, hu, hne, q1, q2⟩ := h
    refine ⟨_, pss_cons (ps_expr (pe_m0 (pv 0) M hr)) (pss_cons (ps_expr (pe_g G hr (by rfl) (pa_cons (pv 1) pa_nil)))
      (pss_cons (ps_if (pt_cmp (pc_din (hu_of hr) (pv 1) (pe_fld (pv 0) rfl))) (pss_one (ps_ret (pe_dget (hu_of hr) (pe_fld (pv 0) rfl) (pv 1) (fun _ _ => rfl)))) pss_nil)
      (pss_cons (ps_dput (hu_of hr) (pe_fld (pv 0) rfl) (pv 1) pe_bl rfl)
      (pss_one (ps_ret (pe_callF (m := "kept_look") (pv 0) (fun c cd => ok_look c cd) (fun _ _ => rfl) (hr.mono (by decide)) (pa_cons (pv 1) pa_nil))))))), ?_⟩
    refine ⟨_, rfl, t, dx, _, rfl, ht, Tr.l_no (by decide +kernel), t, dx, R, rfl, ht, ho, ?_⟩
    refine ⟨_, rfl, k, rfl, hk, fun H1 s1 => ?_⟩
    have ht1 := s1 _ _ ht
    have hw1 := s1 _ _ hw
    refine ⟨_, rfl, _, rfl, t, C, dx, _, _, rfl, ht1, T.cl, T.nW, Tr.l_w, R.w, _, rfl, DGet.k (k := Sum.inr k) hw1, _, rfl, ?_⟩
    cases e : valV W (Sum.inr k) with
    | some v =>
      refine iteT ⟨_, rfl, t, C, dx, _, _, rfl, ht1, T.cl, T.nW, Tr.l_w, _, rfl, R.w, v, rfl, DGet.of hw1 e, q1 v e _ s1⟩
    | none =>
      refine iteF ?_
      have hk1 := s1 _ _ hkd
      refine ⟨_, rfl, t, C, dx, _, _, rfl, ht1, T.cl, T.nK, Tr.l_kd, _, rfl, R.kd, _, rfl, DPut.k (k := Sum.inr k) hk1 (small1000 (by unfold gK; rw [List.length_map]; omega)), ?_⟩
      obtain ⟨c, cd, l1, l2, l3, _⟩ := hL.same s1
      have up : ∀ {b : Addr} {o : HO}, H1 b = some o → o ≠ .dK (gK G') → upd H1 R.kd (.dK (putK (gK G') (.inr k) (.bl true))) b = some o := fun {b o} e n => by
        rw [upd_ne (fun z => ?_)]
        · exact e
        · rw [z, hk1] at e
          exact n (Option.some.inj e).symm
      have ht2 := up ht1 (by intro z; cases z)
      refine ⟨_, rfl, t, C, dx, _, _, c, cd, rfl, ht2, T.cl, T.nL, Tr.l_fl, up l1 (by unfold LamO; intro z; cases z), _, rfl, up l1 (by unfold LamO; intro z; cases z), up l2 (by unfold CodeO; intro z; cases z), _,
        up l3 (by unfold CellO; intro z; cases z), u, S, k, rfl, rfl, (upd_ne hne.symm).trans (s1 _ _ hu), ?_⟩
      refine q2 e _ ((FrM.same s1).upd hk1 rfl rfl) ?_
      rw [upd_same, gK_put]
def spTPut (C : Addr) : Sp := fun vs H Q _ => ∃ (t dx : Addr) (T : Tr) (W : KVs) (k : Str) (z : Int), vs = [.ref t, .str k, .int z] ∧ H t = some (.ins C dx T.fs) ∧ T.op = true ∧ KeyOk k ∧ WorthOk z ∧ H T.w = some (.dK W) ∧ W.length ≤ 900 ∧
  ∀ H', FrM (· = T.w) H H' → H' T.w = some (.dK (putK W (.inr k) (.int z))) → Q .non H'
theorem scTPut : FnScope ["self", "key", "worth"] ["self", "key", "worth"] (defScope sTPut) := ⟨rfl, rfl, rfl, by decide +kernel, rfl, by decide +kernel, by decide +kernel⟩
theorem ok_tput (T : TT K mg C) (F : Fun K "put" "Transaction.put" sTPut f fd) (M : MOk P w K mg base C 1 "check_open" (spTCheck C)) (G : GOk P w K mg base 2 "check_key" spCheckKey) (G2 : GOk P w K mg base 3 "is_worth" spIsWorth) :
    FnOk P w K mg base CX0 4 f fd ["self", "key", "worth"] (spTPut C) := by
  refine F.ok scTPut (fun vs H Q E h => ?_) (fun cdv A outer s H vs Q E hr h => ?_)
  · obtain ⟨t, dx, T, W, k, z, rfl, _⟩ := h
    rfl
  · obtain ⟨t, dx, R, W, k, z, rfl, ht, ho, hk, hz, hw, hl, q⟩ := h
    refine ⟨_, pss_cons (ps_expr (pe_m0 (pv 0) M hr)) (pss_cons (ps_expr (pe_g G hr (by rfl) (pa_cons (pv 1) pa_nil)))
      (pss_cons (ps_if (pt_not (pt_val (pe_g G2 hr (by rfl) (pa_cons (pv 2) pa_nil)))) (pss_one ps_never) pss_nil)
      (pss_one (ps_dput (hu_of hr) (pe_fld (pv 0) rfl) (pv 1) (pv 2) rfl)))), ?_⟩
    refine ⟨_, rfl, t, dx, _, rfl, ht, Tr.l_no (by decide +kernel), t, dx, R, rfl, ht, ho, ?_⟩
    refine ⟨_, rfl, k, rfl, hk, fun H1 s1 => ?_⟩
    refine ⟨_, rfl, z, rfl, hz, true, rfl, iteF ?_⟩
    have hw1 := s1 _ _ hw
    refine ⟨_, rfl, _, rfl, t, C, dx, _, _, rfl, s1 _ _ ht, T.cl, T.nW, Tr.l_w, _, rfl, R.w, _, rfl, DPut.k (k := Sum.inr k) hw1 (small1000 (by omega)), ?_⟩
    exact q _ ((FrM.same s1).upd hw1 rfl rfl) upd_same
def spTDrop (C : Addr) : Sp := fun vs H Q _ => ∃ (t dx : Addr) (T : Tr) (W : KVs) (k : Str), vs = [.ref t, .str k] ∧ H t = some (.ins C dx T.fs) ∧ T.op = true ∧ KeyOk k ∧ H T.w = some (.dK W) ∧ W.length ≤ 900 ∧
  ∀ H', FrM (· = T.w) H H' → H' T.w = some (.dK (putK W (.inr k) .non)) → Q .non H'
theorem scTDrop : FnScope ["self", "key"] ["self", "key"] (defScope sTDrop) := ⟨rfl, rfl, rfl, by decide +kernel, rfl, by decide +kernel, by decide +kernel⟩
theorem ok_tdrop (T : TT K mg C) (F : Fun K "drop" "Transaction.drop" sTDrop f fd) (M : MOk P w K mg base C 1 "check_open" (spTCheck C)) (G : GOk P w K mg base 2 "check_key" spCheckKey) : FnOk P w K mg base CX0 3 f fd ["self", "key"] (spTDrop C) := by
  refine F.ok scTDrop (fun vs H Q E h => ?_) (fun cdv A outer s H vs Q E hr h => ?_)
  · obtain ⟨t, dx, T, W, k, rfl, _⟩ := h
    rfl
  · obtain ⟨t, dx, R, W, k, rfl, ht, ho, hk, hw, hl, q⟩ := h
    refine ⟨_, pss_cons (ps_expr (pe_m0 (pv 0) M hr)) (pss_cons (ps_expr (pe_g G hr (by rfl) (pa_cons (pv 1) pa_nil))) (pss_one (ps_dput (hu_of hr) (pe_fld (pv 0) rfl) (pv 1) pe_non rfl))), ?_⟩
    refine ⟨_, rfl, t, dx, _, rfl, ht, Tr.l_no (by decide +kernel), t, dx, R, rfl, ht, ho, ?_⟩
    refine ⟨_, rfl, k, rfl, hk, fun H1 s1 => ?_⟩
    have hw1 := s1 _ _ hw
    refine ⟨_, rfl, t, C, dx, _, _, rfl, s1 _ _ ht, T.cl, T.nW, Tr.l_w, _, rfl, R.w, _, rfl, DPut.k (k := Sum.inr k) hw1 (small1000 (by omega)), ?_⟩
    exact q _ ((FrM.same s1).upd hw1 rfl rfl) upd_same

/-! ### what was seen and written -/
def spSawKeys (K : PySem.W.Frag) (C : Addr) : Sp := fun vs H Q _ => ∃ (t dx : Addr) (T : Tr) (G : List Str), vs = [.ref t] ∧ H t = some (.ins C dx T.fs) ∧ H T.kd = some (.dK (gK G)) ∧
  ∀ (a : Addr) (H' : Hp), Same H H' → Dp K H' (.ref a) (gsData (srtS G)) → Q (.ref a) H'
theorem scSawKeys : FnScope ["self"] ["self"] (defScope sTSawKeys) := ⟨rfl, rfl, rfl, by decide +kernel, rfl, by decide +kernel, by decide +kernel⟩
theorem ok_sawKeys (B : Bt mg) (T : TT K mg C) (F : Fun K "saw_keys" "Transaction.saw_keys" sTSawKeys f fd) : FnOk P w K mg base CX0 1 f fd ["self"] (spSawKeys K C) := by
  refine F.ok scSawKeys (fun vs H Q E h => ?_) (fun cdv A outer s H vs Q E hr h => ?_)
  · obtain ⟨t, dx, T, G, rfl, _⟩ := h
    rfl
  · obtain ⟨t, dx, R, G, rfl, ht, hk, q⟩ := h
    refine ⟨_, pss_one (ps_ret (pe_callTy call_tuple_of (by rfl) B.tuple PyProof.Rows.boot_tuple (pa_cons (pe_callB (cr_sortDict rfl hr.units) (by rfl) B.sorted PyProof.Rows.boot_sorted (pa_cons (pe_fld (pv 0) rfl) pa_nil)) pa_nil))), ?_⟩
    refine ⟨_, rfl, t, C, dx, _, _, rfl, ht, T.cl, T.nK, Tr.l_kd, R.kd, gK G, G, rfl, .inl hk, gK_keys G, fun ys p pm as np => ?_⟩
    have ey := srtS_eq pm as
    subst ey
    refine ⟨p, _, rfl, .inl ⟨SqL.of upd_same, fun l nl => ?_⟩⟩
    exact q l _ (Same.new (Same.new (Same.refl _) np) nl) (.tup (SqT.of upd_same) (DpAll.ofStrs _))
def spSawRanges (P : Program) (w : World) (K : PySem.W.Frag) (C : Addr) : Sp := fun vs H Q _ => ∃ (t dx : Addr) (T : Tr) (rows : List (Addr × Rg)), vs = [.ref t] ∧ H t = some (.ins C dx T.fs) ∧ H T.rd = some (NDictO P w T.rd rows) ∧
  (∀ p ∈ rows, RgAt K H p.1 p.2) ∧ rows.length ≤ 1000 ∧ ∀ (a : Addr) (H' : Hp), Same H H' → Dp K H' (.ref a) (rsData (srtR (rows.map (·.2)))) → Q (.ref a) H'
theorem dp_rows {H : Hp} : ∀ (rows : List (Addr × Rg)), (∀ p ∈ rows, RgAt K H p.1 p.2) → DpAll K H (rows.map fun q => V.ref q.1) ((rows.map (·.2)).map rgData)
  | [], _ => .nil
  | p :: rows, h => .cons (h p List.mem_cons_self) (dp_rows rows fun q hq => h q (List.mem_cons_of_mem _ hq))
theorem scSawRanges : FnScope ["self"] ["self"] (defScope sTSawRanges) := ⟨rfl, rfl, rfl, by decide +kernel, rfl, by decide +kernel, by decide +kernel⟩
theorem ok_sawRanges (B : Bt mg) (T : TT K mg C) (F : Fun K "saw_ranges" "Transaction.saw_ranges" sTSawRanges f fd) : FnOk P w K mg base CX0 1 f fd ["self"] (spSawRanges P w K C) := by
  refine F.ok scSawRanges (fun vs H Q E h => ?_) (fun cdv A outer s H vs Q E hr h => ?_)
  · obtain ⟨t, dx, T, G, rfl, _⟩ := h
    rfl
  · obtain ⟨t, dx, R, rows, rfl, ht, hk, hrs, hl, q⟩ := h
    refine ⟨_, pss_one (ps_ret (pe_callTy call_tuple_of (by rfl) B.tuple PyProof.Rows.boot_tuple (pa_cons (pe_callB (cr_sortNDict rfl hr.units) (by rfl) B.sorted PyProof.Rows.boot_sorted (pa_cons (pe_fld (pv 0) rfl) pa_nil)) pa_nil))), ?_⟩
    refine ⟨_, rfl, t, C, dx, _, _, rfl, ht, T.cl, T.nR, Tr.l_rd, R.rd, rows, rfl, hk, hrs, hl, fun ys p pm as np => ?_⟩
    have ey := srtR_eq (pm.map (·.2)) as
    refine ⟨p, _, rfl, .inl ⟨SqL.of upd_same, fun l nl => ?_⟩⟩
    have s2 : Same H (upd (upd H p (.lst (ys.map fun q => V.ref q.1))) l (.tup (ys.map fun q => V.ref q.1))) := Same.new (Same.new (Same.refl _) np) nl
    refine q l _ s2 (.tup (SqT.of upd_same) ?_)
    rw [← ey]
    exact dp_rows ys fun r hr' => Dp.same s2 _ _ (hrs r (pm.mem_iff.mp hr'))
def spWrote (K : PySem.W.Frag) (C : Addr) : Sp := fun vs H Q _ => ∃ (t dx : Addr) (T : Tr) (W : KVs), vs = [.ref t] ∧ H t = some (.ins C dx T.fs) ∧ H T.w = some (.dK W) ∧ WK W ∧
  ∀ (a : Addr) (H' : Hp), Same H H' → Dp K H' (.ref a) (wsData (wroteF W)) → Q (.ref a) H'
abbrev NWr : List Str := ["self", "key"]
theorem scWrote : FnScope NWr ["self"] (defScope sTWrote) := ⟨rfl, rfl, rfl, by decide +kernel, rfl, by decide +kernel, by decide +kernel⟩
theorem ok_wrote (B : Bt mg) (T : TT K mg C) (F : Fun K "wrote" "Transaction.wrote" sTWrote f fd) : FnOk P w K mg base CX0 1 f fd ["self"] (spWrote K C) := by
  refine F.ok scWrote (fun vs H Q E h => ?_) (fun cdv A outer s H vs Q E hr h => ?_)
  · obtain ⟨t, dx, T, G, rfl, _⟩ := h
    rfl
  · obtain ⟨t, dx, R, W, rfl, ht, hw, hW, q⟩ := h
    refine ⟨_, pss_one (ps_ret (pe_callTy call_tuple_of (by rfl) B.tuple PyProof.Rows.boot_tuple (pa_cons
      (pe_lc (own := [("key", 1)]) (g := gName 1) (tt := tYes) (te := tTup (tCons (tVar 1) (tCons (tDGet (tFld K (tVar 0) "kept_writes") (tVar 1)) tNil))) (by rfl) scWrote.nd (pi_list (pe_callB (cr_sortDict rfl hr.units) (by rfl) B.sorted PyProof.Rows.boot_sorted (pa_cons (pe_fld (pv 0) rfl) pa_nil)))
        (blkOk_by (own := [("key", 1)]) (N := NWr) (sc := defScope sTWrote) (by decide +kernel)) (fun _ _ _ _ _ => pg_name (i := 1) scWrote.nd rfl (Or.inl rfl)) (fun _ _ _ _ _ => pts_nil)
        (fun _ _ _ _ _ => pe_tup (pa_cons (pv 1) (pa_cons (pe_dget (hu_of hr) (pe_fld (pv 0) rfl) (pv 1) (fun _ _ => rfl)) pa_nil)))) pa_nil))), ?_⟩
    refine ⟨_, rfl, t, C, dx, _, _, rfl, ht, T.cl, T.nW, Tr.l_w, R.w, W, keysOf W, rfl, .inl hw, hW.keys, fun ys p pm as np => ?_⟩
    have ey := srtS_eq pm as
    subst ey
    have s1 : Same H (upd H p (.lst ((srtS (keysOf W)).map V.str))) := Same.new (Same.refl _) np
    have hl : (srtS (keysOf W)).length ≤ 10 := by
      rw [(srtS_perm _).length_eq]
      have := hW.len
      unfold keysOf
      rw [List.length_map]
      exact this
    refine ⟨p, rfl, ⟨_, SqL.of upd_same⟩, fun D hD => lc_data (K := K) (walk_list (xs := (srtS (keysOf W)).map V.str)) hD (fun H2 s2 => SqL.of (s2 _ _ upd_same))
      (fun i => (((srtS (keysOf W)).take i).map fun k => (k, (valV W (.inr k)).getD .non)).map prData) (by simp) (small_size (by simp; omega)) ?_ ?_⟩
    · rintro i x H2 H3 K1 K0 hi' s2 ⟨rfl, hx⟩ k1 _
      obtain ⟨k, hk, rfl⟩ := map_str_at hx
      obtain ⟨v, ev, hv⟩ := hW.val (mem_srtS.mp (List.mem_of_getElem? hk))
      have s12 := s1.trans s2
      refine ⟨rfl, _, rfl, _, rfl, t, C, dx, _, _, rfl, s12 _ _ ht, T.cl, T.nW, Tr.l_w, _, rfl, R.w, v, rfl, DGet.of (s12 _ _ hw) ev, (by show 2 ≤ sizeLine; decide), fun T' hT => ?_⟩
      refine k1 _ (prData (k, v)) _ (Same.new (Same.refl _) hT) (.tup (SqT.of upd_same) (.cons (.str k) (.cons hv.dp .nil))) (prData_noL _) ?_
      rw [take_get hk]
      simp [ev]
    · intro H2 ys s2 hy hd
      rw [List.length_map, List.take_length] at hd
      refine ⟨D, ys, rfl, .inl ⟨SqL.of hy, fun l nl => ?_⟩⟩
      have s3 : Same H2 (upd H2 l (.tup ys)) := Same.new (Same.refl _) nl
      exact q l _ ((s1.trans s2).trans s3) (.tup (SqT.of upd_same) (DpAll.same s3 _ _ hd))
end
end L2.K47
/-! K47, part H4: transactions: the dealing, between -/
namespace L2.K47
open PySem PySem.Spec PyProof.Rows LamX NdefX

theorem srtS_len {W : KVs} (h : WK W) : (srtS (keysOf W)).length ≤ 10 := by
  rw [(srtS_perm _).length_eq]
  have := h.len
  unfold keysOf
  rw [List.length_map]
  exact this
/-- the dealing of what was seen and written -/
noncomputable def dlF (n : Int) (m : V) (G : List Str) (L : List Rg) (W : KVs) : Dl := ⟨n, m, srtS G, srtR L, wroteF W⟩
theorem wroteF_nil {W : KVs} : wroteF W = [] ↔ W = [] := by
  have e : (wroteF W).length = W.length := by
    unfold wroteF
    rw [List.length_map, (srtS_perm _).length_eq]
    unfold keysOf
    rw [List.length_map]
  constructor
  · intro h
    rw [h] at e
    exact List.length_eq_zero_iff.mp e.symm
  · intro h
    rw [h] at e ⊢
    exact List.length_eq_zero_iff.mp e
def NumOk (n : Int) (m : V) (W : KVs) : Prop := (W = [] ∧ m = .non) ∨ (W ≠ [] ∧ ∃ z, m = .int z ∧ n < z)
theorem dlF_ok {n : Int} {m : V} {G : List Str} {L : List Rg} {W : KVs} (n0 : 0 ≤ n) (hm : NumOk n m W) (g1 : G.Nodup) (g2 : ∀ g ∈ G, KeyOk g) (r1 : L.Nodup) (r2 : ∀ r ∈ L, RgOk r) (r3 : L.length ≤ 64) (hW : WK W) : DlOk (dlF n m G L W) where
  n0 := n0
  num := by
    rcases hm with ⟨e, k⟩ | ⟨e, k⟩
    · exact .inl ⟨wroteF_nil.mpr e, k⟩
    · exact .inr ⟨fun z => e (wroteF_nil.mp z), k⟩
  ga := srtS_strict g1
  gk := fun g hg => g2 g (mem_srtS.mp hg)
  ra := srtR_strict r1
  rk := fun r hr => r2 r ((srtR_perm L).mem_iff.mp hr)
  rl := by
    show (srtR L).length ≤ 64
    rw [(srtR_perm L).length_eq]
    exact r3
  wk := wroteF_ok hW
section
variable {P : Program} {w : World} {K : PySem.W.Frag} {mg : Str → Option Value} {base : Heap} {f C CD : Addr} {fd : FuncData}
def spTDealing (P : Program) (w : World) (K : PySem.W.Frag) (C CD : Addr) : Sp := fun vs H Q _ => ∃ (t dx : Addr) (T : Tr) (W : KVs) (G : List Str) (rows : List (Addr × Rg)) (m : V), vs = [.ref t, m] ∧ H t = some (.ins C dx T.fs) ∧
  H T.w = some (.dK W) ∧ WK W ∧ H T.kd = some (.dK (gK G)) ∧ H T.rd = some (NDictO P w T.rd rows) ∧ (∀ p ∈ rows, RgAt K H p.1 p.2) ∧ rows.length ≤ 1000 ∧ DlOk (dlF T.n m G (rows.map (·.2)) W) ∧
  ∀ (x dy : Addr) (x3 x4 x5 : V) (H' : Hp), Same H H' → H x = none → H' x = some (.ins CD dy (DF T.n m x3 x4 x5)) → DAt K H' (dlF T.n m G (rows.map (·.2)) W) x3 x4 x5 → Q (.ref x) H'
theorem scTDealing : FnScope ["self", "number"] ["self", "number"] (defScope sTDealing) := ⟨rfl, rfl, rfl, by decide +kernel, rfl, by decide +kernel, by decide +kernel⟩
theorem ok_tdealing (T : TT K mg C) (F : Fun K "dealing" "Transaction.dealing" sTDealing f fd) (M1 : MOk P w K mg base C 1 "saw_keys" (spSawKeys K C)) (M2 : MOk P w K mg base C 1 "saw_ranges" (spSawRanges P w K C)) (M3 : MOk P w K mg base C 1 "wrote" (spWrote K C))
    (G0 : COk P w K mg base CD 7 "Dealing" (spDInit K CD)) : FnOk P w K mg base CX0 9 f fd ["self", "number"] (spTDealing P w K C CD) := by
  refine F.ok scTDealing (fun vs H Q E h => ?_) (fun cdv A outer s H vs Q E hr h => ?_)
  · obtain ⟨t, dx, T, W, G, rows, m, rfl, _⟩ := h
    rfl
  · obtain ⟨t, dx, R, W, G, rows, m, rfl, ht, hw, hW, hk, hrd, hrs, hl, ok, q⟩ := h
    refine ⟨_, pss_one (ps_ret (pe_c G0 hr (by rfl) (pa_cons (pe_fld (pv 0) rfl) (pa_cons (pv 1) (pa_cons (pe_m0 (pv 0) M1 hr) (pa_cons (pe_m0 (pv 0) M2 hr) (pa_cons (pe_m0 (pv 0) M3 hr) pa_nil))))))), ?_⟩
    refine ⟨_, rfl, t, C, dx, _, _, rfl, ht, T.cl, T.nS, Tr.l_n, _, rfl, ?_⟩
    refine ⟨_, rfl, t, dx, _, rfl, ht, Tr.l_no (by decide +kernel), t, dx, R, G, rfl, ht, hk, fun a3 H1 s1 d3 => ?_⟩
    refine ⟨_, rfl, t, dx, _, rfl, s1 _ _ ht, Tr.l_no (by decide +kernel), t, dx, R, rows, rfl, s1 _ _ ht, s1 _ _ hrd, fun p hp => Dp.same s1 _ _ (hrs p hp), hl, fun a4 H2 s2 d4 => ?_⟩
    have s12 := s1.trans s2
    refine ⟨_, rfl, t, dx, _, rfl, s12 _ _ ht, Tr.l_no (by decide +kernel), t, dx, R, W, rfl, s12 _ _ ht, s12 _ _ hw, hW, fun a5 H3 s3 d5 => ?_⟩
    intro x dy nx ny ne
    have s13 := s12.trans s3
    have s4 : Same H3 (upd (upd H3 dy (.own x)) x (.ins CD dy [])) := Same.new (Same.new (Same.refl _) ny) (by rw [upd_ne ne.symm]; exact nx)
    have hD : DAt K (upd (upd H3 dy (.own x)) x (.ins CD dy [])) (dlF R.n m G (rows.map (·.2)) W) (.ref a3) (.ref a4) (.ref a5) :=
      ⟨Dp.same ((s2.trans s3).trans s4) _ _ d3, Dp.same (s3.trans s4) _ _ d4, Dp.same s4 _ _ d5⟩
    refine ⟨x, dy, dlF R.n m G (rows.map (·.2)) W, _, _, _, rfl, upd_same, ok, hD, fun H5 e5 k5 => ⟨rfl, ?_⟩⟩
    have s5 : Same H3 H5 := Same.made nx ny k5
    exact q x dy _ _ _ H5 (s13.trans s5) (s13.free nx) e5 ⟨Dp.same ((s2.trans s3).trans s5) _ _ d3, Dp.same (s3.trans s5) _ _ d4, Dp.same s5 _ _ d5⟩

/-! ### between -/
theorem dp_rows_pairs {H : Hp} : ∀ (l : List (Str × V)) (xs : List V), (∀ p ∈ l, VOk p.2) → DpAll K H xs (l.map prData) → ∃ ps : List Addr, xs = ps.map V.ref ∧ Paired (fun p kv => SqT K H p [kV kv.1, kv.2]) ps (asKV l)
  | [], xs, _, h => by
    cases h
    exact ⟨[], rfl, .nil⟩
  | p :: l, xs, hv, h => by
    cases h with
    | cons h1 h2 =>
      obtain ⟨b, rfl, hb⟩ := dp_pr (hv p List.mem_cons_self) h1
      obtain ⟨ps, rfl, hp⟩ := dp_rows_pairs l _ (fun q hq => hv q (List.mem_cons_of_mem _ hq)) h2
      exact ⟨b :: ps, rfl, .cons hb hp⟩
def spTBetween (P : Program) (w : World) (K : PySem.W.Frag) (C : Addr) : Sp := fun vs H Q _ => ∃ (t dx : Addr) (T : Tr) (W S : KVs) (rows : List (Addr × Rg)) (u : Addr) (lo hi : Str), vs = [.ref t, .str lo, .str hi] ∧ H t = some (.ins C dx T.fs) ∧ T.op = true ∧
  KeyOk lo ∧ KeyOk hi ∧ H T.w = some (.dK W) ∧ WK W ∧ H T.rd = some (NDictO P w T.rd rows) ∧ (∀ p ∈ rows, RgAt K H p.1 p.2) ∧ rows.length ≤ 900 ∧ WalkAt (fun b => ¬ b = T.rd) H T.fw u ∧ H u = some (.dK S) ∧ WK S ∧
  (ltS hi lo → ∀ (a : Addr) (H' : Hp), Same H H' → H a = none → H' a = some (.lst []) → Q (.ref a) H') ∧
  (¬ ltS hi lo → ∀ (a : Addr) (xs : List V) (ra : Addr) (H' : Hp), FrM (· = T.rd) H H' → H' T.rd = some (NDictO P w T.rd (putR rows ra (lo, hi, ownF W lo hi))) → RgAt K H' ra (lo, hi, ownF W lo hi) →
    H a = none → H' a = some (.lst xs) → DpAll K H' xs ((toldF (foundF S W lo hi)).map prData) → Q (.ref a) H')
abbrev NBt : List Str := ["self", "low", "high", "own", "found", "key"]
theorem scTBetween : FnScope NBt ["self", "low", "high"] (defScope sTBetween) := ⟨rfl, rfl, rfl, by decide +kernel, rfl, by decide +kernel, by decide +kernel⟩
theorem foldl_take {α β : Type} {g : β → α → β} {l : List α} {i : Nat} {x : α} (b : β) (h : l[i]? = some x) : (l.take (i + 1)).foldl g b = g ((l.take i).foldl g b) x := by
  rw [take_get h, List.foldl_append]
  rfl
theorem ok_tbetween (B : Bt mg) (T : TT K mg C) (F : Fun K "between" "Transaction.between" sTBetween f fd) (M : MOk P w K mg base C 1 "check_open" (spTCheck C)) (G : GOk P w K mg base 2 "check_key" spCheckKey) (G1 : GOk P w K mg base 1 "within" (spWithin K))
    (G2 : GOk P w K mg base 1 "_law_walked" (spWalked K)) : FnOk P w K mg base CX0 4 f fd ["self", "low", "high"] (spTBetween P w K C) := by
  refine F.ok scTBetween (fun vs H Q E h => ?_) (fun cdv A outer s H vs Q E hr h => ?_)
  · obtain ⟨t, dx, T, W, S, rows, u, lo, hi, rfl, _⟩ := h
    rfl
  · obtain ⟨t, dx, R, W, S, rows, u, lo, hi, rfl, ht, ho, hlo, hhi, hw, hW, hrd, hrs, hrl, hWk, hu, hS, q1, q2⟩ := h
    refine ⟨_, pss_cons (ps_expr (pe_m0 (pv 0) M hr)) (pss_cons (ps_expr (pe_g G hr (by rfl) (pa_cons (pv 1) pa_nil))) (pss_cons (ps_expr (pe_g G hr (by rfl) (pa_cons (pv 2) pa_nil)))
      (pss_cons (ps_if (pt_cmpR op_lt_str (pv 2) (pv 1) (nomark _)) (pss_one (ps_ret (pe_lst pa_nil))) pss_nil)
      (pss_cons (ps_set (i := 3) scTBetween.nd rfl (Or.inl rfl) (pe_g G1 hr (by rfl) (pa_cons (pv 1) (pa_cons (pv 2) (pa_cons (pe_fld (pv 0) rfl) pa_nil)))))
      (pss_cons (ps_asg pe_bl (pg_sub (pe_fld (pv 0) rfl) (pe_tup (pa_cons (pv 1) (pa_cons (pv 2) (pa_cons (pe_callTy call_tuple_of (by rfl) B.tuple PyProof.Rows.boot_tuple (pa_cons (pv 3) pa_nil)) pa_nil)))) (set_nd hr.units)))
      (pss_cons (ps_set (i := 4) scTBetween.nd rfl (Or.inr rfl) (pe_callTy (call_dictP rfl) (by rfl) B.dict PyProof.Rows.boot_dict (pa_cons (pe_callF (m := "kept_walk") (pv 0) (fun c cd => ok_walkL G2 c cd) (fun _ _ => rfl) (hr.mono (by decide)) (pa_cons (pv 1) (pa_cons (pv 2) pa_nil))) pa_nil)))
      (pss_cons (ps_for PassesOwn.never rfl (pi_list (pv 3)) (pg_name (i := 5) scTBetween.nd rfl (Or.inl rfl)) (pss_one (ps_dput (hu_of hr) (pv 4) (pv 5) (pe_dget (hu_of hr) (pe_fld (pv 0) rfl) (pv 5) (fun _ _ => rfl)) rfl)))
      (pss_one (ps_ret (pe_lc (own := [("key", 5)]) (g := gName 5) (by rfl) scTBetween.nd (pi_list (pe_callB (cr_sortDict rfl hr.units) (by rfl) B.sorted PyProof.Rows.boot_sorted (pa_cons (pv 4) pa_nil)))
        (blkOk_by (own := [("key", 5)]) (N := NBt) (sc := defScope sTBetween) (by decide +kernel)) (fun _ _ _ _ _ => pg_name (i := 5) scTBetween.nd rfl (Or.inl rfl))
        (fun _ _ _ _ _ => pts_one (pt_cmpR op_notN (pe_dget (hu_of hr) (pv 4) (pv 5) (fun _ _ => rfl)) pe_non (nomark _)))
        (fun _ _ _ _ _ => pe_tup (pa_cons (pv 5) (pa_cons (pe_dget (hu_of hr) (pv 4) (pv 5) (fun _ _ => rfl)) pa_nil))))))))))))), ?_⟩
    refine ⟨_, rfl, t, dx, _, rfl, ht, Tr.l_no (by decide +kernel), t, dx, R, rfl, ht, ho, ?_⟩
    refine ⟨_, rfl, lo, rfl, hlo, fun H1 s1 => ?_⟩
    refine ⟨_, rfl, hi, rfl, hhi, fun H2 s2 => ?_⟩
    have s12 := s1.trans s2
    refine ⟨_, rfl, _, rfl, _, _, rfl, rfl, _, rfl, ?_⟩
    by_cases c : ltS hi lo
    · rw [decide_eq_true c]
      refine iteT ⟨Nat.zero_le _, fun l nl => ?_⟩
      exact q1 c l _ (Same.new s12 nl) (s12.free nl) upd_same
    rw [decide_eq_false c]
    refine iteF ?_
    have ht2 := s12 _ _ ht
    have hw2 := s12 _ _ hw
    refine ⟨_, rfl, _, rfl, _, rfl, t, C, dx, _, _, rfl, ht2, T.cl, T.nW, Tr.l_w, lo, hi, R.w, W, rfl, hw2, hW, fun o H3 s3 no ho3 => ?_⟩
    have s13 := s12.trans s3
    have ht3 := s13 _ _ ht
    refine ⟨_, rfl, t, C, dx, _, _, rfl, ht3, T.cl, T.nR, Tr.l_rd, ?_⟩
    refine ⟨_, rfl, _, rfl, _, rfl, o, _, rfl, .inl ⟨SqL.of ho3, fun ot not => ?_⟩⟩
    have s4 : Same H3 (upd H3 ot (.tup ((ownF W lo hi).map V.str))) := Same.new (Same.refl _) not
    refine ⟨(by show 3 ≤ sizeLine; decide), fun ra nra => ?_⟩
    have s5 : Same H3 (upd (upd H3 ot (.tup ((ownF W lo hi).map V.str))) ra (.tup [.str lo, .str hi, .ref ot])) := Same.new s4 nra
    have hra : RgAt K (upd (upd H3 ot (.tup ((ownF W lo hi).map V.str))) ra (.tup [.str lo, .str hi, .ref ot])) ra (lo, hi, ownF W lo hi) :=
      .tup (SqT.of upd_same) (.cons (.str lo) (.cons (.str hi) (.cons (.tup (SqT.of ((upd_ne (ne_of_none upd_same nra)).trans upd_same)) (DpAll.ofStrs _)) .nil)))
    generalize upd (upd H3 ot (.tup ((ownF W lo hi).map V.str))) ra (.tup [.str lo, .str hi, .ref ot]) = H5 at s5 hra ⊢
    have s15 := s13.trans s5
    have hrd5 := s15 _ _ hrd
    have hrs5 : ∀ p ∈ rows, RgAt K H5 p.1 p.2 := fun p hp => Dp.same s15 _ _ (hrs p hp)
    refine ⟨R.rd, ra, rows, _, rfl, rfl, rfl, hrd5, hra, hrs5, by omega, ?_⟩
    have up : ∀ {b : Addr} {o : HO}, H5 b = some o → (∀ rs, o ≠ NDictO P w R.rd rs) → upd H5 R.rd (NDictO P w R.rd (putR rows ra (lo, hi, ownF W lo hi))) b = some o := fun {b o} e n => by
      rw [upd_ne (fun z => ?_)]
      · exact e
      · rw [z, hrd5] at e
        exact n _ (Option.some.inj e).symm
    have F6 : FrM (· = R.rd) H (upd H5 R.rd (NDictO P w R.rd (putR rows ra (lo, hi, ownF W lo hi)))) := (FrM.same s15).upd hrd5 rfl rfl
    have F56 : FrM (· = R.rd) H5 (upd H5 R.rd (NDictO P w R.rd (putR rows ra (lo, hi, ownF W lo hi)))) := FrM.refl.upd hrd5 rfl rfl
    have hra6 := Dp.tups F56.tups _ _ (rgData_noL _) hra
    have hrd6 : upd H5 R.rd (NDictO P w R.rd (putR rows ra (lo, hi, ownF W lo hi))) R.rd = some (NDictO P w R.rd (putR rows ra (lo, hi, ownF W lo hi))) := upd_same
    have ht6 := up (s15 _ _ ht) (by intro rs z; unfold NDictO at z; cases z)
    have hw6 := up (s15 _ _ hw) (by intro rs z; unfold NDictO at z; cases z)
    have hu6 := up (s15 _ _ hu) (by intro rs z; unfold NDictO at z; cases z)
    have ho6 := up (s5 _ _ ho3) (by intro rs z; unfold NDictO at z; cases z)
    obtain ⟨cl, cd, l1, l2, l3, _⟩ := (hWk.same s15).fr F56 (fun _ n => n)
    -- the rows of the state, in a dict
    refine ⟨_, rfl, t, C, dx, _, _, cl, cd, rfl, ht6, T.cl, T.nWk, Tr.l_fw, l1, _, rfl, _, rfl, l1, l2, _, l3, u, S, lo, hi, rfl, rfl, hu6, hS, fun a xs H7 s7 na hxs hda => ?_⟩
    obtain ⟨ps, rfl, hps⟩ := dp_rows_pairs (rowsF S lo hi) xs (fun p hp => (rowsF_row hS p hp).2) hda
    refine ⟨a, ps, asKV (rowsF S lo hi), rfl, SqL.of hxs, hps, fun p np => ?_⟩
    have s67 : Same (upd H5 R.rd (NDictO P w R.rd (putR rows ra (lo, hi, ownF W lo hi)))) (upd H7 p (.dK (mergeK [] (asKV (rowsF S lo hi))))) := Same.new s7 np
    have hp8 : upd H7 p (.dK (mergeK [] (asKV (rowsF S lo hi)))) p = some (.dK (mergeK [] (asKV (rowsF S lo hi)))) := upd_same
    have np6 : upd H5 R.rd (NDictO P w R.rd (putR rows ra (lo, hi, ownF W lo hi))) p = none := s7.free np
    have np0 : H p = none := F6.free np6
    generalize upd H7 p (.dK (mergeK [] (asKV (rowsF S lo hi)))) = H8 at s67 hp8 ⊢
    have ho8 := s67 _ _ ho6
    have opn : o ≠ p := ne_of_none ho6 np6
    have tpn : t ≠ p := ne_of_none ht6 np6
    have wpn : R.w ≠ p := ne_of_none hw6 np6
    have own10 : (ownF W lo hi).length ≤ 10 := Nat.le_trans (List.length_filter_le _ _) (srtS_len hW)
    have wk0 : WK (mergeK [] (asKV (rowsF S lo hi))) := by
      rw [mergeK_fold]
      exact wk_fold (k := fun p : Str × V => p.1) (v := fun p : Str × V => p.2) _ .nil (rowsF_row hS)
    -- the own ones over it
    refine ⟨_, rfl, o, rfl, ⟨_, SqL.of ho8⟩, for_list (K := K) (a := o) (xs := (ownF W lo hi).map V.str) (fun i σ H' => ∃ v5 : Option V, σ = [some (.ref t), some (.str lo), some (.str hi), some (.ref o), some (.ref p), v5] ∧ FrM (· = p) H8 H' ∧
        H' p = some (.dK (((ownF W lo hi).take i).foldl (fun d k => putK d (.inr k) ((valV W (.inr k)).getD .non)) (mergeK [] (asKV (rowsF S lo hi)))))) ⟨none, rfl, FrM.refl, hp8⟩
      (fun i σ H' _ ⟨_, _, x, _⟩ => SqL.of (x.at ho8 opn)) ?_ ?_⟩
    · rintro i x σ H' hi' ⟨v5, rfl, x8, hp'⟩
      obtain ⟨k, hk, rfl⟩ := map_str_at hi'
      obtain ⟨hkW, _⟩ := mem_ownF (List.mem_of_getElem? hk)
      obtain ⟨v, ev, hv⟩ := hW.val hkW
      refine ⟨_, rfl, t, C, dx, _, _, rfl, x8.at (s67 _ _ ht6) tpn, T.cl, T.nW, Tr.l_w, _, rfl, R.w, v, rfl, DGet.of (x8.at (s67 _ _ hw6) wpn) ev, ?_⟩
      refine ⟨_, rfl, _, rfl, p, _, rfl, DPut.k (k := Sum.inr k) hp' (small1000 ?_), ?_⟩
      · have hwk : WK (((ownF W lo hi).take i).foldl (fun d k => putK d (.inr k) ((valV W (.inr k)).getD .non)) (mergeK [] (asKV (rowsF S lo hi)))) := wk_fold (k := fun k => k) (v := fun k => (valV W (.inr k)).getD .non) _ wk0 fun k' hk' => by
          obtain ⟨h1, _⟩ := mem_ownF (List.mem_of_mem_take hk')
          obtain ⟨v', e1, hv'⟩ := hW.val h1
          rw [e1]
          exact ⟨hW.key h1, hv'⟩
        exact Nat.le_trans hwk.len (by decide)
      · refine ⟨some (.str k), rfl, x8.upd hp' rfl rfl, ?_⟩
        rw [upd_same, foldl_take _ hk, ev]
        rfl
    · rintro σ H9 ⟨v5, rfl, x9, hp9⟩
      have ef : ((ownF W lo hi).take ((ownF W lo hi).map V.str).length).foldl (fun d k => putK d (.inr k) ((valV W (.inr k)).getD .non)) (mergeK [] (asKV (rowsF S lo hi))) = foundF S W lo hi := by
        rw [List.length_map, List.take_length]
        rfl
      rw [ef] at hp9
      have hF := foundF_wk (lo := lo) (hi := hi) hS hW
      generalize foundF S W lo hi = FF at hp9 hF q2 ⊢
      have X9 : FrM (· = R.rd) H H9 := (F6.grow s67).fresh np0 x9
      have hrd9 := x9.at (s67 _ _ hrd6) (ne_of_none hrd6 np6)
      have hra9 := Dp.tups x9.tups _ _ (rgData_noL _) (Dp.same s67 _ _ hra6)
      refine ⟨_, rfl, p, FF, keysOf FF, rfl, .inl hp9, hF.keys, fun ys g pm as ng => ?_⟩
      have ey := srtS_eq pm as
      subst ey
      have s1 : Same H9 (upd H9 g (.lst ((srtS (keysOf FF)).map V.str))) := Same.new (Same.refl _) ng
      have hl := srtS_len hF
      refine ⟨g, rfl, ⟨_, SqL.of upd_same⟩, fun D hD => lc_data (K := K) (walk_list (xs := (srtS (keysOf FF)).map V.str)) hD (fun H2 s2 => SqL.of (s2 _ _ upd_same))
        (fun i => ((((srtS (keysOf FF)).take i).filter fun k => !decide ((valV FF (.inr k)).getD .non = .non)).map fun k => (k, (valV FF (.inr k)).getD .non)).map prData) (by simp) (small_size (by simp; omega)) ?_ ?_⟩
      · rintro i x H2 H3 K1 K0 hi' s2 ⟨rfl, hx⟩ k1 k0
        obtain ⟨k, hk, rfl⟩ := map_str_at hx
        obtain ⟨v, ev, hv⟩ := hF.val (mem_srtS.mp (List.mem_of_getElem? hk))
        have hp2 := s2 _ _ (s1 _ _ hp9)
        have hstep := take_filter (f := fun k => !decide ((valV FF (.inr k)).getD .non = .non)) hk
        refine ⟨rfl, _, rfl, _, rfl, p, v, rfl, DGet.of hp2 ev, rfl, _, rfl, ?_⟩
        by_cases hv0 : v = .non
        · rw [decide_eq_true hv0]
          refine iteF (k0 _ (Same.refl _) ?_)
          rw [hstep]
          simp [ev, hv0]
        · rw [decide_eq_false hv0]
          refine iteT ⟨_, rfl, _, rfl, _, rfl, p, v, rfl, DGet.of hp2 ev, (by show 2 ≤ sizeLine; decide), fun T' hT => ?_⟩
          refine k1 _ (prData (k, v)) _ (Same.new (Same.refl _) hT) (.tup (SqT.of upd_same) (.cons (.str k) (.cons hv.dp .nil))) (prData_noL _) ?_
          rw [hstep]
          simp [ev, hv0]
      · intro H2 ys s2 hy hd
        rw [List.length_map, List.take_length] at hd
        have s92 := s1.trans s2
        exact q2 c D ys ra H2 (X9.grow s92) (s92 _ _ hrd9) (Dp.same s92 _ _ hra9) (X9.free (s1.free hD)) hy hd
end
end L2.K47
/-! K47, part I1: the hand of draws -/
namespace L2.K47
open PySem PySem.Spec PyProof.Rows LamX NdefX

/-- a hand at h; N says what is known of where its cells stand -/
def HandAt (N : Addr → Prop) (H : Hp) (h : Addr) : Prop := ∃ (cl : Addr) (xs : List Int) (p r a n : Int), H h = some (.lst [.ref cl, .int p, .int r, .int a, .int n]) ∧ H cl = some (.lst (xs.map V.int)) ∧ N cl ∧ 0 ≤ p ∧ xs.length ≤ 100
section
variable {N M : Addr → Prop} {H H' : Hp} {h : Addr}
theorem HandAt.fr (x : HandAt N H h) (f : FrM M H H') (k : ∀ b, N b → ¬ M b) (hh : ¬ M h) : HandAt N H' h :=
  let ⟨cl, xs, p, r, a, n, h1, h2, h3, h4⟩ := x; ⟨cl, xs, p, r, a, n, f.at h1 hh, f.at h2 (k _ h3), h3, h4⟩
theorem HandAt.same (x : HandAt N H h) (s : Same H H') : HandAt N H' h :=
  let ⟨cl, xs, p, r, a, n, h1, h2, h3⟩ := x; ⟨cl, xs, p, r, a, n, s _ _ h1, s _ _ h2, h3⟩
end
theorem dp_ints {K : PySem.W.Frag} {H : Hp} : ∀ {ns : List Int} {vs : List V}, DpAll K H vs (ns.map PyData.int) → vs = ns.map V.int
  | [], _, h => by cases h; rfl
  | k :: ks, _, h => by
    cases h with
    | cons h1 h2 =>
      cases h1
      rw [List.map_cons, ← dp_ints h2]
section
variable {P : Program} {w : World} {K : PySem.W.Frag} {mg : Str → Option Value} {base : Heap} {f C : Addr} {fd : FuncData}
def spHand (K : PySem.W.Frag) : Sp := fun vs H Q _ => ∃ (a : Addr) (ns : List Int), vs = [.ref a] ∧ SqL K H a (ns.map V.int) ∧ ns.length ≤ 63 ∧ ∀ (h : Addr) (H' : Hp), Same H H' → H h = none → HandAt (fun b => H b = none ∧ b ≠ h) H' h → Q (.ref h) H'
abbrev NHd : List Str := ["_law_script", "_law_cells", "_law_cell"]
theorem scHand : FnScope NHd ["_law_script"] (defScope sLHand) := ⟨rfl, rfl, rfl, by decide +kernel, rfl, by decide +kernel, by decide +kernel⟩
theorem cut_map (ns : List Int) (lo hi : Option Int) : ∃ ms : List Int, cutV (ns.map V.int) lo hi = ms.map V.int ∧ ms.length ≤ ns.length := by
  refine ⟨(ns.drop (HT.sIx ns.length 0 lo)).take (HT.sIx ns.length ns.length hi - HT.sIx ns.length 0 lo), ?_, ?_⟩
  · unfold cutV
    rw [List.length_map, List.map_take, List.map_drop]
  · rw [List.length_take, List.length_drop]
    omega
theorem ok_hand (B : Bt mg) (F : Fun K "_law_hand" "_law_hand" sLHand f fd) : FnOk P w K mg base CX0 1 f fd ["_law_script"] (spHand K) := by
  refine F.ok scHand (fun vs H Q E h => ?_) (fun cdv A outer s H vs Q E hr h => ?_)
  · obtain ⟨a, ns, rfl, _⟩ := h
    rfl
  · obtain ⟨a, ns, rfl, hS, hl, q⟩ := h
    refine ⟨_, pss_cons (ps_setLc (i := 1) (own := [("_law_cell", 2)]) (g := gName 2) (tt := tYes) (by rfl) scHand.nd rfl rfl (sw_true rfl rfl rfl (by decide +kernel)) (pi_list (pe_slice sl_list (pv 0) po_none (po_some pe_int)))
        (blkOk_by (own := [("_law_cell", 2)]) (N := NHd) (sc := defScope sLHand) (by decide +kernel)) (fun _ _ _ _ _ => pg_name (i := 2) scHand.nd rfl (Or.inl rfl)) (fun _ _ _ _ _ => pts_nil)
        (fun _ _ _ _ _ => pe_callB call_abs (by rfl) B.abs PyProof.Rows.boot_abs (pa_cons (pe_callTy call_int1 (by rfl) B.int PyProof.Rows.boot_int (pa_cons (pv 2) pa_nil)) pa_nil)))
      (pss_one (ps_ret (pe_lst (pa_cons (pv 1) (pa_cons pe_int (pa_cons pe_int (pa_cons (pe_op op_add pe_int (pe_callB call_len_seq (by rfl) B.len PySem.boot_len (pa_cons (pv 1) pa_nil))) (pa_cons pe_int pa_nil)))))))), ?_⟩
    obtain ⟨ms, em, hml⟩ := cut_map ns none (some 63)
    refine ⟨_, rfl, 63, rfl, a, _, rfl, hS, fun p np => ?_⟩
    rw [em]
    have s1 : Same H (upd H p (.lst (ms.map V.int))) := Same.new (Same.refl _) np
    refine ⟨p, rfl, ⟨_, SqL.of upd_same⟩, fun D hD => lc_data (K := K) (walk_list (xs := ms.map V.int)) hD (fun H2 s2 => SqL.of (s2 _ _ upd_same))
      (fun i => ((ms.take i).map fun z => if z < 0 then -z else z).map PyData.int) (by simp) (small_size (by simp; omega)) ?_ ?_⟩
    · rintro i x H2 H3 K1 K0 hi' s2 ⟨rfl, hx⟩ k1 _
      rw [List.getElem?_map] at hx
      cases hz : ms[i]? with
      | none => rw [hz] at hx; cases hx
      | some z =>
        rw [hz] at hx
        cases hx
        refine ⟨rfl, _, rfl, .inl ⟨z, rfl, z, rfl, ?_⟩⟩
        refine k1 _ _ _ (Same.refl _) (.int _) rfl ?_
        rw [take_get hz]
        simp
    · intro H2 ys s2 hy hd
      have hys := dp_ints hd
      subst hys
      have s12 := s1.trans s2
      refine ⟨_, rfl, _, rfl, D, _, rfl, .inl (SqL.of hy), _, _, rfl, rfl, ?_⟩
      refine ⟨(by show 5 ≤ sizeLine; decide), fun h nh => ?_⟩
      have nD : H D = none := s1.free hD
      have Dh : D ≠ h := ne_of_none hy nh
      refine q h _ (Same.new s12 nh) (s12.free nh) ⟨D, _, _, _, _, _, upd_same, (upd_ne Dh).trans hy, ⟨nD, Dh⟩, by decide, ?_⟩
      rw [List.length_map, List.length_take, List.length_map]
      omega
def spDraw : Sp := fun vs H Q _ => ∃ (N : Addr → Prop) (h : Addr) (many : Int), vs = [.ref h, .int many] ∧ HandAt N H h ∧ 1 ≤ many ∧ many ≤ 1000 ∧ ∀ (d : Int) (H' : Hp), 0 ≤ d → d < many → FrM (· = h) H H' → HandAt N H' h → Q (.int d) H'
abbrev NDw : List Str := ["_law_hand_here", "_law_many", "_law_cell", "_law_digit", "_law_number"]
theorem scDraw : FnScope NDw ["_law_hand_here", "_law_many"] (defScope sLDraw) := ⟨rfl, rfl, rfl, by decide +kernel, rfl, by decide +kernel, by decide +kernel⟩
theorem hand_ne {H : Hp} {h cl : Addr} {xs : List Int} {p r a n : Int} (h1 : H h = some (.lst [.ref cl, .int p, .int r, .int a, .int n])) (h2 : H cl = some (.lst (xs.map V.int))) : cl ≠ h := by
  intro e
  rw [e, h1] at h2
  cases xs with
  | nil => cases h2
  | cons x xs => cases h2
theorem ok_draw (B : Bt mg) (F : Fun K "_law_draw" "_law_draw" sLDraw f fd) : FnOk P w K mg base CX0 1 f fd ["_law_hand_here", "_law_many"] spDraw := by
  refine F.ok scDraw (fun vs H Q E h => ?_) (fun cdv A outer s H vs Q E hr h => ?_)
  · obtain ⟨N, h, many, rfl, _⟩ := h
    rfl
  · obtain ⟨N, h, many, rfl, ⟨cl, xs, p, r, a, n, hh, hc, hN, p0, xl⟩, m1, m2, q⟩ := h
    have cne := hand_ne hh hc
    obtain ⟨t2, pt2, ht2⟩ : ∃ t, PSs (cxOf CX0 P w K mg base NDw "_law_draw" (defScope sLDraw) f cdv A outer s H E).nox ((defBody sLDraw).drop 1) t ∧
        ∀ (p r a n : Int) (v2 : Option V) (H' : Hp), 0 ≤ p → FrM (· = h) H H' → H' h = some (.lst [.ref cl, .int p, .int r, .int a, .int n]) → t { nx := fun _ H' => Q .non H', rt := Q } [some (.ref h), some (.int many), v2, none, none] H' := by
      refine ⟨_, pss_cons (ps_if (pt_cmpR op_gt (pe_ix ix_list (pv 0) pe_int (fun _ _ => rfl)) pe_int (nomark _))
          (pss_cons (ps_set (i := 3) scDraw.nd rfl (Or.inl rfl) (pe_op op_mod (pe_callTy call_int1 (by rfl) B.int PyProof.Rows.boot_int (pa_cons (pe_ix ix_list (pv 0) pe_int (fun _ _ => rfl)) pa_nil)) (pv 1)))
          (pss_cons (ps_asg (pe_op op_fdiv (pe_ix ix_list (pv 0) pe_int (fun _ _ => rfl)) (pv 1)) (pg_sub (pv 0) pe_int set_list)) (pss_one (ps_ret (pv 3))))) pss_nil)
        (pss_cons (ps_asg (pe_op op_add (pe_ix ix_list (pv 0) pe_int (fun _ _ => rfl)) pe_int) (pg_sub (pv 0) pe_int set_list))
        (pss_cons (ps_set (i := 4) scDraw.nd rfl (Or.inl rfl) (pe_op op_mod (pe_callTy call_int1 (by rfl) B.int PyProof.Rows.boot_int (pa_cons (pe_op op_mul (pe_callTy call_int1 (by rfl) B.int PyProof.Rows.boot_int (pa_cons
            (pe_op op_add (pe_ix ix_list (pv 0) pe_int (fun _ _ => rfl)) (pe_op op_mul pe_int (pe_ix ix_list (pv 0) pe_int (fun _ _ => rfl)))) pa_nil)) pe_int) pa_nil)) pe_int))
        (pss_cons (ps_set (i := 4) scDraw.nd rfl (Or.inl rfl) (pe_op op_mod (pe_callTy call_int1 (by rfl) B.int PyProof.Rows.boot_int (pa_cons (pe_op op_mul (pv 4) (pe_op op_add (pe_op op_fdiv (pv 4) pe_int) pe_int)) pa_nil)) pe_int))
        (pss_cons (ps_set (i := 4) scDraw.nd rfl (Or.inl rfl) (pe_op op_mod (pe_callTy call_int1 (by rfl) B.int PyProof.Rows.boot_int (pa_cons (pe_op op_mul (pv 4) (pe_op op_add (pe_op op_fdiv (pv 4) pe_int) pe_int)) pa_nil)) pe_int))
        (pss_one (ps_ret (pe_op op_mod (pe_callTy call_int1 (by rfl) B.int PyProof.Rows.boot_int (pa_cons (pe_op op_fdiv (pv 4) pe_int) pa_nil)) (pv 1)))))))), fun p r a n v2 H' p0 fr hh' => ?_⟩
      have hc' := fr.at hc cne
      refine ⟨_, rfl, _, _, _, _, rfl, rfl, SqL.of hh', atI_nat (j := 2) rfl, _, _, rfl, rfl, _, rfl, ?_⟩
      refine ite2 (fun _ => ?_) fun _ => ?_
      · refine ⟨_, rfl, _, _, _, _, rfl, rfl, SqL.of hh', atI_nat (j := 2) rfl, .inl ⟨_, rfl, _, rfl, _, _, rfl, rfl, by omega, ?_⟩⟩
        refine ⟨_, rfl, _, _, _, _, rfl, rfl, SqL.of hh', atI_nat (j := 2) rfl, _, rfl, _, _, rfl, rfl, ⟨by omega, by omega⟩, _, rfl, h, _, 2, 2, rfl, rfl, hh', rfl, ?_⟩
        refine ⟨_, rfl, q _ _ (Int.emod_nonneg _ (by omega)) (Int.emod_lt_of_pos _ (by omega)) (fr.upd hh' rfl rfl) ⟨cl, xs, p, _, a, n, upd_same, (upd_ne cne).trans hc', hN, p0, xl⟩⟩
      · refine ⟨_, rfl, _, _, _, _, rfl, rfl, SqL.of hh', atI_nat (j := 4) rfl, _, _, rfl, rfl, _, rfl, h, _, 4, 4, rfl, rfl, hh', rfl, ?_⟩
        refine ⟨_, rfl, _, _, _, _, rfl, rfl, SqL.of upd_same, atI_nat (j := 3) rfl, _, rfl, _, _, _, _, rfl, rfl, SqL.of upd_same, atI_nat (j := 4) rfl, _, _, rfl, rfl, .inl ⟨by decide, by decide⟩, _, _, rfl, rfl,
          .inl ⟨_, rfl, _, _, rfl, rfl, .inr ⟨by decide, by decide⟩, .inl ⟨_, rfl, _, _, rfl, rfl, (by show (0 : Int) < 2147483647; decide), ?_⟩⟩⟩
        refine ⟨_, rfl, _, rfl, _, _, rfl, rfl, ⟨by decide, by decide⟩, _, _, rfl, rfl, _, _, rfl, rfl, .inl ⟨by omega, by omega⟩, .inl ⟨_, rfl, _, _, rfl, rfl, (by show (0 : Int) < 2147483647; decide), ?_⟩⟩
        refine ⟨_, rfl, _, rfl, _, _, rfl, rfl, ⟨by decide, by decide⟩, _, _, rfl, rfl, _, _, rfl, rfl, .inl ⟨by omega, by omega⟩, .inl ⟨_, rfl, _, _, rfl, rfl, (by show (0 : Int) < 2147483399; decide), ?_⟩⟩
        refine ⟨_, rfl, _, _, rfl, rfl, ⟨by decide, by decide⟩, .inl ⟨_, rfl, _, rfl, _, _, rfl, rfl, by omega, ?_⟩⟩
        exact q _ _ (Int.emod_nonneg _ (by omega)) (Int.emod_lt_of_pos _ (by omega)) (fr.upd hh' rfl rfl) ⟨cl, xs, p, r, a, _, upd_same, (upd_ne cne).trans hc', hN, p0, xl⟩
    refine ⟨_, pss_cons (ps_if (PW.pt (pw_and (pt_cmpR op_eq (pe_ix ix_list (pv 0) pe_int (fun _ _ => rfl)) pe_int (nomark _))
        (pw_and1 (pt_cmpR op_lt (pe_ix ix_list (pv 0) pe_int (fun _ _ => rfl)) (pe_callB call_len_seq (by rfl) B.len PySem.boot_len (pa_cons (pe_ix ix_list (pv 0) pe_int (fun _ _ => rfl)) pa_nil)) (nomark _)))))
        (pss_cons (ps_set (i := 2) scDraw.nd rfl (Or.inl rfl) (pe_ix ix_list (pe_ix ix_list (pv 0) pe_int (fun _ _ => rfl)) (pe_ix ix_list (pv 0) pe_int (fun _ _ => rfl)) (fun _ _ => rfl)))
        (pss_cons (ps_asg (pe_op op_add (pe_ix ix_list (pv 0) pe_int (fun _ _ => rfl)) pe_int) (pg_sub (pv 0) pe_int set_list))
        (pss_cons (ps_asg (pe_op op_mod (pe_callTy call_int1 (by rfl) B.int PyProof.Rows.boot_int (pa_cons (pe_op op_add (pe_op op_add (pe_op op_mul (pe_ix ix_list (pv 0) pe_int (fun _ _ => rfl)) pe_int) (pv 2)) pe_int) pa_nil)) pe_int) (pg_sub (pv 0) pe_int set_list))
        (pss_one (ps_if (pt_cmpR op_ge (pv 2) (pe_op op_pow pe_int pe_int) (nomark _)) (pss_one (ps_asg (pv 2) (pg_sub (pv 0) pe_int set_list))) pss_nil))))) pss_nil) pt2, ?_⟩
    have start_ := ht2 p r a n none H p0 FrM.refl hh
    refine ⟨_, rfl, _, _, _, _, rfl, rfl, SqL.of hh, atI_nat (j := 2) rfl, rfl, _, rfl, ?_⟩
    refine ite2 (fun _ => ?_) fun _ => iteF start_
    refine ⟨_, rfl, _, _, _, _, rfl, rfl, SqL.of hh, atI_nat (j := 1) rfl, _, rfl, _, _, _, _, rfl, rfl, SqL.of hh, atI_nat (j := 0) rfl, _, _, rfl, .inl (SqL.of hc), _, _, rfl, rfl, _, rfl, ?_⟩
    refine ite2 (fun hlt => ?_) fun _ => start_
    have hlt' : p < (xs.map V.int).length := of_decide_eq_true hlt
    obtain ⟨j, rfl⟩ : ∃ j : Nat, p = (j : Int) := ⟨p.toNat, by omega⟩
    have hj : j < xs.length := by rw [List.length_map] at hlt'; omega
    have hxj : (xs.map V.int)[j]? = some (V.int xs[j]) := by rw [List.getElem?_map, List.getElem?_eq_getElem hj]; rfl
    refine ⟨_, rfl, _, _, _, _, rfl, rfl, SqL.of hh, atI_nat (j := 0) rfl, _, rfl, _, _, _, _, rfl, rfl, SqL.of hh, atI_nat (j := 1) rfl, _, _, _, _, rfl, rfl, SqL.of hc, atI_nat hxj, ?_⟩
    refine ⟨_, rfl, _, _, _, _, rfl, rfl, SqL.of hh, atI_nat (j := 1) rfl, _, _, rfl, rfl, _, rfl, h, _, 1, 1, rfl, rfl, hh, rfl, ?_⟩
    refine ⟨_, rfl, _, _, _, _, rfl, rfl, SqL.of upd_same, atI_nat (j := 3) rfl, _, _, rfl, rfl, .inr ⟨by decide, by decide⟩, _, rfl, _, _, rfl, rfl, _, _, rfl, rfl, .inl ⟨_, rfl, _, _, rfl, rfl, (by show (0 : Int) < 2147483629; decide), _, rfl, h, _, 3, 3, rfl, rfl, upd_same, rfl, ?_⟩⟩
    refine ⟨_, rfl, _, _, rfl, rfl, ⟨by decide, by decide, by decide⟩, _, _, rfl, rfl, _, rfl, ?_⟩
    have fr2 : ∀ {o1 : HO} {l2 : List V} {o3 : HO}, FrM (· = h) H (upd (upd H h (.lst l2)) h o3) := fun {o1 l2 o3} => FrM.upd (u := .lst l2) (FrM.upd (M := fun b => b = h) FrM.refl hh rfl rfl) upd_same rfl rfl
    refine ite2 (fun _ => ?_) fun _ => ?_
    · refine ⟨_, rfl, _, rfl, h, _, 2, 2, rfl, rfl, upd_same, rfl, ?_⟩
      exact ht2 _ _ _ _ _ _ (by omega) (FrM.upd (fr2 (o1 := .lst [])) upd_same rfl rfl) upd_same
    · exact ht2 _ _ _ _ _ _ (by omega) (fr2 (o1 := .lst [])) upd_same
end
end L2.K47
/-! K47, part I2: drawn keys, worths and snapshots; an account, what it tells of a key -/
namespace L2.K47
open PySem PySem.Spec PyProof.Rows LamX NdefX

section
variable {P : Program} {w : World} {K : PySem.W.Frag} {mg : Str → Option Value} {base : Heap} {f C : Addr} {fd : FuncData}
def spAny : Sp := fun vs H Q _ => ∃ (N : Addr → Prop) (h l : Addr) (xs : List V), vs = [.ref h, .ref l] ∧ HandAt N H h ∧ H l = some (.lst xs) ∧ l ≠ h ∧ 1 ≤ xs.length ∧ xs.length ≤ 1000 ∧ ∀ (v : V) (H' : Hp), v ∈ xs → FrM (· = h) H H' → HandAt N H' h → Q v H'
theorem scAny : FnScope ["_law_hand_here", "_law_some"] ["_law_hand_here", "_law_some"] (defScope sLAny) := ⟨rfl, rfl, rfl, by decide +kernel, rfl, by decide +kernel, by decide +kernel⟩
theorem ok_any (B : Bt mg) (F : Fun K "_law_any" "_law_any" sLAny f fd) (G : GOk P w K mg base 1 "_law_draw" spDraw) : FnOk P w K mg base CX0 2 f fd ["_law_hand_here", "_law_some"] spAny := by
  refine F.ok scAny (fun vs H Q E h => ?_) (fun cdv A outer s H vs Q E hr h => ?_)
  · obtain ⟨N, h, l, xs, rfl, _⟩ := h
    rfl
  · obtain ⟨N, h, l, xs, rfl, hh, hl, hne, l1, l2, q⟩ := h
    refine ⟨_, pss_one (ps_ret (pe_ix ix_list (pv 1) (pe_g G hr (by rfl) (pa_cons (pv 0) (pa_cons (pe_callB call_len_seq (by rfl) B.len PySem.boot_len (pa_cons (pv 1) pa_nil)) pa_nil))) (fun _ _ => rfl))), ?_⟩
    refine ⟨_, rfl, _, rfl, _, rfl, l, xs, rfl, .inl (SqL.of hl), N, h, _, rfl, hh, by omega, by omega, fun d H1 d0 d1 fr hh1 => ?_⟩
    obtain ⟨j, rfl⟩ : ∃ j : Nat, d = (j : Int) := ⟨d.toNat, by omega⟩
    have hj : j < xs.length := by omega
    exact ⟨l, xs, j, xs[j], rfl, rfl, SqL.of (fr.at hl hne), atI_nat (List.getElem?_eq_getElem hj), q _ _ (List.getElem_mem hj) fr hh1⟩
def spKey : Sp := fun vs H Q _ => ∃ (N : Addr → Prop) (h : Addr), vs = [.ref h] ∧ HandAt N H h ∧ ∀ (k : Str) (H' : Hp), KeyOk k → FrM (· = h) H H' → HandAt N H' h → Q (.str k) H'
theorem scKey : FnScope ["_law_hand_here"] ["_law_hand_here"] (defScope sLKey) := ⟨rfl, rfl, rfl, by decide +kernel, rfl, by decide +kernel, by decide +kernel⟩
theorem hand_tr {H : Hp} {N : Addr → Prop} {h : Addr} (x : HandAt N H h) : ∃ o, H h = some o := let ⟨_, _, _, _, _, _, h1, _⟩ := x; ⟨_, h1⟩
theorem ok_key (F : Fun K "_law_key" "_law_key" sLKey f fd) (G : GOk P w K mg base 2 "_law_any" spAny) : FnOk P w K mg base CX0 3 f fd ["_law_hand_here"] spKey := by
  refine F.ok scKey (fun vs H Q E h => ?_) (fun cdv A outer s H vs Q E hr h => ?_)
  · obtain ⟨N, h, rfl, _⟩ := h
    rfl
  · obtain ⟨N, h, rfl, hh, q⟩ := h
    refine ⟨_, pss_one (ps_ret (pe_g G hr (by rfl) (pa_cons (pv 0) (pa_cons (pe_lst (pa_cons pe_str (pa_cons pe_str (pa_cons pe_str (pa_cons pe_str (pa_cons pe_str (pa_cons pe_str (pa_cons pe_str (pa_cons pe_str (pa_cons pe_str (pa_cons pe_str pa_nil))))))))))) pa_nil)))), ?_⟩
    refine ⟨_, rfl, (by show 10 ≤ sizeLine; decide), fun l nl => ?_⟩
    obtain ⟨o, ho⟩ := hand_tr hh
    have s1 : Same H (upd H l (.lst (key10.map V.str))) := Same.new (Same.refl _) nl
    refine ⟨N, h, l, key10.map V.str, rfl, hh.same s1, upd_same, (ne_of_none ho nl).symm, by decide, by decide, fun v H' hv fr hh' => ?_⟩
    obtain ⟨k, hk, rfl⟩ := List.mem_map.mp hv
    exact q k H' hk ((FrM.same s1).trans fr) hh'
def spWorth : Sp := fun vs H Q _ => ∃ (N : Addr → Prop) (h : Addr), vs = [.ref h] ∧ HandAt N H h ∧ ∀ (z : Int) (H' : Hp), WorthOk z → FrM (· = h) H H' → HandAt N H' h → Q (.int z) H'
theorem scWorth : FnScope ["_law_hand_here"] ["_law_hand_here"] (defScope sLWorth) := ⟨rfl, rfl, rfl, by decide +kernel, rfl, by decide +kernel, by decide +kernel⟩
theorem ok_worth (F : Fun K "_law_worth" "_law_worth" sLWorth f fd) (G : GOk P w K mg base 2 "_law_any" spAny) (GD : GOk P w K mg base 1 "_law_draw" spDraw) : FnOk P w K mg base CX0 3 f fd ["_law_hand_here"] spWorth := by
  refine F.ok scWorth (fun vs H Q E h => ?_) (fun cdv A outer s H vs Q E hr h => ?_)
  · obtain ⟨N, h, rfl, _⟩ := h
    rfl
  · obtain ⟨N, h, rfl, hh, q⟩ := h
    refine ⟨_, pss_one (ps_ret (pe_g G hr (by rfl) (pa_cons (pv 0) (pa_cons (pe_lst (pa_cons pe_int (pa_cons pe_int (pa_cons (pe_un un_neg pe_int) (pa_cons pe_int (pa_cons (pe_op op_pow pe_int pe_int) (pa_cons (pe_un un_neg (pe_op op_pow pe_int pe_int))
      (pa_cons (pe_g GD hr (by rfl) (pa_cons (pv 0) (pa_cons pe_int pa_nil))) pa_nil)))))))) pa_nil)))), ?_⟩
    refine ⟨_, rfl, _, rfl, _, _, rfl, rfl, ⟨by decide, by decide, by decide⟩, _, _, rfl, rfl, ⟨by decide, by decide, by decide⟩, _, rfl, _, rfl, N, h, 1000, rfl, hh, by decide, by decide, fun d H1 d0 d1 fr hh1 => ?_⟩
    refine ⟨(by show 7 ≤ sizeLine; decide), fun l nl => ?_⟩
    obtain ⟨o, ho⟩ := hand_tr hh1
    have s1 : Same H1 (upd H1 l (.lst ([0, 1, -1, 5, 10 ^ 18, -10 ^ 18, d].map V.int))) := Same.new (Same.refl _) nl
    refine ⟨N, h, l, [0, 1, -1, 5, 10 ^ 18, -10 ^ 18, d].map V.int, rfl, hh1.same s1, upd_same, (ne_of_none ho nl).symm, (by show 1 ≤ 7; decide), (by show 7 ≤ 1000; decide), fun v H' hv fr' hh' => ?_⟩
    obtain ⟨z, hz, rfl⟩ := List.mem_map.mp hv
    refine q z H' ?_ ((fr.grow s1).trans fr') hh'
    unfold WorthOk
    simp only [List.mem_cons, List.not_mem_nil, or_false] at hz
    rcases hz with rfl | rfl | rfl | rfl | rfl | rfl | rfl <;> omega
def spSnap : Sp := fun vs H Q _ => ∃ (N : Addr → Prop) (h : Addr), vs = [.ref h] ∧ HandAt N H h ∧ ∀ (t u : Addr) (n : Int) (S : KVs) (H' : Hp), FrM (· = h) H H' → HandAt N H' h → SK S → 0 ≤ n → n ≤ 10 ^ 18 → H u = none → H' u = some (.dK S) →
  H' t = some (.tup [.int n, .ref u]) → Q (.ref t) H'
abbrev NSn : List Str := ["_law_hand_here", "_law_found", "_law_turn"]
theorem scSnap : FnScope NSn ["_law_hand_here"] (defScope sLSnap) := ⟨rfl, rfl, rfl, by decide +kernel, rfl, by decide +kernel, by decide +kernel⟩
theorem hand_dK {H : Hp} {N : Addr → Prop} {h u : Addr} {S : KVs} (x : HandAt N H h) (e : H u = some (.dK S)) : u ≠ h := by
  obtain ⟨_, _, _, _, _, _, h1, _⟩ := x
  exact ne_of e h1 (by intro z; cases z)
theorem ok_snap (B : Bt mg) (F : Fun K "_law_snapshot" "_law_snapshot" sLSnap f fd) (G : GOk P w K mg base 2 "_law_any" spAny) (GD : GOk P w K mg base 1 "_law_draw" spDraw) (GK : GOk P w K mg base 3 "_law_key" spKey) (GW : GOk P w K mg base 3 "_law_worth" spWorth) :
    FnOk P w K mg base CX0 4 f fd ["_law_hand_here"] spSnap := by
  refine F.ok scSnap (fun vs H Q E h => ?_) (fun cdv A outer s H vs Q E hr h => ?_)
  · obtain ⟨N, h, rfl, _⟩ := h
    rfl
  · obtain ⟨N, h, rfl, hh, q⟩ := h
    refine ⟨_, pss_cons (ps_set (i := 1) scSnap.nd rfl (Or.inl rfl) pe_dnewK)
      (pss_cons (ps_for PassesOwn.never rfl (pi_range1 (by rfl) B.range (pa_cons (pe_g GD hr (by rfl) (pa_cons (pv 0) (pa_cons pe_int pa_nil))) pa_nil)) (pg_name (i := 2) scSnap.nd rfl (Or.inl rfl))
        (pss_one (ps_dput (hu_of hr) (pv 1) (pe_g GK hr (by rfl) (pa_cons (pv 0) pa_nil)) (pe_g GW hr (by rfl) (pa_cons (pv 0) pa_nil)) rfl)))
      (pss_one (ps_ret (pe_tup (pa_cons (pe_g G hr (by rfl) (pa_cons (pv 0) (pa_cons (pe_lst (pa_cons pe_int (pa_cons pe_int (pa_cons pe_int (pa_cons (pe_op op_pow pe_int pe_int) pa_nil))))) pa_nil))) (pa_cons (pv 1) pa_nil)))))), ?_⟩
    intro u nu
    have s1 : Same H (upd H u (.dK [])) := Same.new (Same.refl _) nu
    refine ⟨_, rfl, N, h, 9, rfl, hh.same s1, by decide, by decide, fun d H2 d0 d1 fr2 hh2 => ?_⟩
    have hu2 := fr2.at (a := u) upd_same (hand_dK (hh.same s1) upd_same)
    refine ⟨d, rfl, by omega, by omega, for_range (n := _) (fun i σ H' => ∃ (v2 : Option V) (S : KVs), σ = [some (.ref h), some (.ref u), v2] ∧ FrM (· = h) H H' ∧ HandAt N H' h ∧ H' u = some (.dK S) ∧ SK S)
      ⟨none, [], rfl, (FrM.same s1).trans fr2, hh2, hu2, .nil⟩ ?_ ?_⟩
    · rintro i σ H3 hi ⟨v2, S, rfl, fr3, hh3, hu3, hS⟩
      refine ⟨_, rfl, N, h, rfl, hh3, fun z H4 hz fr4 hh4 => ?_⟩
      refine ⟨_, rfl, _, rfl, N, h, rfl, hh4, fun k H5 hk fr5 hh5 => ?_⟩
      have fr35 := fr4.trans fr5
      have hu5 := fr35.at hu3 (hand_dK hh3 hu3)
      refine ⟨u, _, rfl, DPut.k (k := Sum.inr k) hu5 (small1000 (Nat.le_trans hS.wk.len (by decide))), ?_⟩
      have ne := hand_dK hh5 hu5
      refine ⟨_, putK S (.inr k) (.int z), rfl, (fr3.trans fr35).fresh nu (FrM.upd (M := fun b => b = u) FrM.refl hu5 rfl rfl), ?_, upd_same, hS.put hk hz⟩
      obtain ⟨cl, xs, p, r, a, n, e1, e2, e3⟩ := hh5
      exact ⟨cl, xs, p, r, a, n, (upd_ne ne.symm).trans e1, (upd_ne (ne_of e2 hu5 (by intro z; cases z))).trans e2, e3⟩
    · rintro σ H3 ⟨v2, S, rfl, fr3, hh3, hu3, hS⟩
      refine ⟨_, rfl, _, _, rfl, rfl, ⟨by decide, by decide, by decide⟩, (by show 4 ≤ sizeLine; decide), fun l nl => ?_⟩
      obtain ⟨o, ho⟩ := hand_tr hh3
      have s4 : Same H3 (upd H3 l (.lst ([0, 1, 7, 10 ^ 18].map V.int))) := Same.new (Same.refl _) nl
      refine ⟨N, h, l, [0, 1, 7, 10 ^ 18].map V.int, rfl, hh3.same s4, upd_same, (ne_of_none ho nl).symm, by decide, by decide, fun v H5 hv fr5 hh5 => ?_⟩
      obtain ⟨z, hz, rfl⟩ := List.mem_map.mp hv
      have fr35 := (FrM.same s4).trans fr5
      refine ⟨_, rfl, (by show 2 ≤ sizeLine; decide), fun t nt => ?_⟩
      have s6 : Same H5 (upd H5 t (.tup [.int z, .ref u])) := Same.new (Same.refl _) nt
      have hz' : 0 ≤ z ∧ z ≤ 10 ^ 18 := by
        simp only [List.mem_cons, List.not_mem_nil, or_false] at hz
        rcases hz with rfl | rfl | rfl | rfl <;> omega
      exact q t u z S _ ((fr3.trans fr35).grow s6) (hh5.same s6) hS hz'.1 hz'.2 nu (s6 _ _ (fr35.at hu3 (hand_dK hh3 hu3))) upd_same

/-! ### an account -/
def acK (u a g r : Addr) : KVs := mergeK [] [(.inr "under", .ref u), (.inr "writes", .ref a), (.inr "gets", .ref g), (.inr "ranges", .ref r)]
section
variable {u a g r : Addr}
theorem acK_eq : acK u a g r = putK (putK (putK (putK [] (.inr "under") (.ref u)) (.inr "writes") (.ref a)) (.inr "gets") (.ref g)) (.inr "ranges") (.ref r) := rfl
theorem acK_r : valV (acK u a g r) (.inr "ranges") = some (.ref r) := by rw [acK_eq, valV_put, if_pos rfl]
theorem acK_g : valV (acK u a g r) (.inr "gets") = some (.ref g) := by rw [acK_eq, valV_put, if_neg (by decide +kernel), valV_put, if_pos rfl]
theorem acK_w : valV (acK u a g r) (.inr "writes") = some (.ref a) := by rw [acK_eq, valV_put, if_neg (by decide +kernel), valV_put, if_neg (by decide +kernel), valV_put, if_pos rfl]
theorem acK_u : valV (acK u a g r) (.inr "under") = some (.ref u) := by rw [acK_eq, valV_put, if_neg (by decide +kernel), valV_put, if_neg (by decide +kernel), valV_put, if_neg (by decide +kernel), valV_put, if_pos rfl]
end
def spAccount : Sp := fun vs H Q _ => ∃ u : Addr, vs = [.ref u] ∧ ∀ (c a g r : Addr) (H' : Hp), Same H H' → H c = none → H a = none → H g = none → H r = none → g ≠ r → H' c = some (.dK (acK u a g r)) → H' a = some (.dK []) → H' g = some (.lst []) → H' r = some (.lst []) → Q (.ref c) H'
theorem scAccount : FnScope ["_law_state"] ["_law_state"] (defScope sLAccount) := ⟨rfl, rfl, rfl, by decide +kernel, rfl, by decide +kernel, by decide +kernel⟩
theorem ok_account (F : Fun K "_law_account" "_law_account" sLAccount f fd) : FnOk P w K mg base CX0 1 f fd ["_law_state"] spAccount := by
  refine F.ok scAccount (fun vs H Q E h => ?_) (fun cdv A outer s H vs Q E hr h => ?_)
  · obtain ⟨u, rfl, _⟩ := h
    rfl
  · obtain ⟨u, rfl, q⟩ := h
    refine ⟨_, pss_one (ps_ret (pe_disp (pps_cons pe_str (pv 0) (pps_cons pe_str pe_dnewK (pps_cons pe_str (pe_lst pa_nil) (pps_cons pe_str (pe_lst pa_nil) pps_nil)))) (by rfl) (by rfl) (fun z => by cases z) (by decide))), ?_⟩
    intro c nc
    refine ⟨_, rfl, ?_⟩
    intro a na
    refine ⟨Nat.zero_le _, fun g ng => ⟨Nat.zero_le _, fun r nr => ?_⟩⟩
    have ca : c ≠ a := ne_of_none upd_same na
    have cg : c ≠ g := ne_of_none ((upd_ne ca).trans upd_same) ng
    have ag : a ≠ g := ne_of_none upd_same ng
    have cr : c ≠ r := ne_of_none ((upd_ne cg).trans ((upd_ne ca).trans upd_same)) nr
    have ar : a ≠ r := ne_of_none ((upd_ne ag).trans upd_same) nr
    have gr : g ≠ r := ne_of_none upd_same nr
    rw [upd_ne ca.symm] at na
    rw [upd_ne ag.symm, upd_ne cg.symm] at ng
    rw [upd_ne gr.symm, upd_ne ar.symm, upd_ne cr.symm] at nr
    refine ⟨(upd_ne cr).trans ((upd_ne cg).trans ((upd_ne ca).trans upd_same)), [(.inr "under", .ref u), (.inr "writes", .ref a), (.inr "gets", .ref g), (.inr "ranges", .ref r)], rfl, (by show 4 ≤ 15; decide), ?_⟩
    refine q c a g r _ (fun b o e => ?_) nc na ng nr gr upd_same ?_ ?_ ?_
    · rw [upd_ne (ne_of_none e nc), upd_ne (ne_of_none e nr), upd_ne (ne_of_none e ng), upd_ne (ne_of_none e na), upd_ne (ne_of_none e nc)]
      exact e
    · rw [upd_ne ca.symm, upd_ne ar, upd_ne ag, upd_same]
    · rw [upd_ne cg.symm, upd_ne gr, upd_same]
    · rw [upd_ne cr.symm, upd_same]
def spGot : Sp := fun vs H Q _ => ∃ (c u a g r : Addr) (W S : KVs) (gl : List Str) (k : Str), vs = [.ref c, .str k] ∧ H c = some (.dK (acK u a g r)) ∧ H a = some (.dK W) ∧ H g = some (.lst (gl.map V.str)) ∧ H u = some (.dK S) ∧ gl.length ≤ 900 ∧
  (∀ v, valV W (.inr k) = some v → Q v H) ∧ (valV W (.inr k) = none → ∀ H', FrM (· = g) H H' → H' g = some (.lst ((gl ++ [k]).map V.str)) → Q ((valV S (.inr k)).getD .non) H')
theorem scGot : FnScope ["_law_account_here", "_law_key_here"] ["_law_account_here", "_law_key_here"] (defScope sLGot) := ⟨rfl, rfl, rfl, by decide +kernel, rfl, by decide +kernel, by decide +kernel⟩
theorem ok_got (F : Fun K "_law_got" "_law_got" sLGot f fd) : FnOk P w K mg base CX0 1 f fd ["_law_account_here", "_law_key_here"] spGot := by
  refine F.ok scGot (fun vs H Q E h => ?_) (fun cdv A outer s H vs Q E hr h => ?_)
  · obtain ⟨c, u, a, g, r, W, S, gl, k, rfl, _⟩ := h
    rfl
  · obtain ⟨c, u, a, g, r, W, S, gl, k, rfl, hc, ha, hg, hu, hl, q1, q2⟩ := h
    refine ⟨_, pss_cons (ps_if (pt_cmp (pc_din (hu_of hr) (pv 1) (pe_dget (hu_of hr) (pv 0) pe_str (fun _ _ => rfl)))) (pss_one (ps_ret (pe_dget (hu_of hr) (pe_dget (hu_of hr) (pv 0) pe_str (fun _ _ => rfl)) (pv 1) (fun _ _ => rfl)))) pss_nil)
      (pss_cons (ps_expr (pe_bm PySem.F.plainAttrs_list PySem.F.slot_list_append PySem.F.type_list_append mt_append (pe_dget (hu_of hr) (pv 0) pe_str (fun _ _ => rfl)) (pa_cons (pv 1) pa_nil)))
      (pss_one (ps_ret (pe_dget1 (hu_of hr) (pe_dget (hu_of hr) (pv 0) pe_str (fun _ _ => rfl)) (pv 1) ⟨rfl, rfl, rfl, rfl⟩)))), ?_⟩
    refine ⟨_, rfl, _, rfl, c, _, rfl, DGet.of hc acK_w, a, _, rfl, DGet.k (k := Sum.inr k) ha, _, rfl, ?_⟩
    cases e : valV W (Sum.inr k) with
    | some v => exact iteT ⟨_, rfl, c, _, rfl, DGet.of hc acK_w, _, rfl, a, v, rfl, DGet.of ha e, q1 v e⟩
    | none =>
      refine iteF ⟨_, rfl, c, _, rfl, DGet.of hc acK_g, .inl ⟨rfl, _, SqL.of hg⟩, _, rfl, g, _, _, rfl, rfl, hg, small1000 (by rw [List.length_map]; omega), ?_⟩
      have hc' : upd H g (.lst (gl.map V.str ++ [.str k])) c = some (.dK (acK u a g r)) := (upd_ne (ne_of hc hg (by intro z; cases z))).trans hc
      have hu' : upd H g (.lst (gl.map V.str ++ [.str k])) u = some (.dK S) := (upd_ne (ne_of hu hg (by intro z; cases z))).trans hu
      refine ⟨_, rfl, c, _, rfl, DGet.of hc' acK_u, u, rfl, .inl ⟨S, .inl hu'⟩, _, rfl, _, DGet.k (k := Sum.inr k) hu', ?_⟩
      refine q2 e _ (FrM.upd (M := fun b => b = g) FrM.refl hg rfl rfl) ?_
      rw [upd_same, List.map_append]
      rfl
end
end L2.K47
/-! K47, part I3: what an account tells between two keys, and its parts -/
namespace L2.K47
open PySem PySem.Spec PyProof.Rows LamX NdefX

section
variable {P : Program} {w : World} {K : PySem.W.Frag} {mg : Str → Option Value} {base : Heap} {f C : Addr} {fd : FuncData}
abbrev refsOf (rl : List (Addr × Rg)) : List V := rl.map fun q => V.ref q.1
def spRanged (K : PySem.W.Frag) : Sp := fun vs H Q _ => ∃ (c u a g r : Addr) (W S : KVs) (rl : List (Addr × Rg)) (lo hi : Str), vs = [.ref c, .str lo, .str hi] ∧ H c = some (.dK (acK u a g r)) ∧ H a = some (.dK W) ∧ WK W ∧ H u = some (.dK S) ∧ WK S ∧
  H r = some (.lst (refsOf rl)) ∧ rl.length ≤ 900 ∧
  (ltS hi lo → ∀ (x : Addr) (H' : Hp), Same H H' → H x = none → H' x = some (.lst []) → Q (.ref x) H') ∧
  (¬ ltS hi lo → ∀ (x : Addr) (xs : List V) (ra : Addr) (H' : Hp), FrM (· = r) H H' → H' r = some (.lst (refsOf (rl ++ [(ra, (lo, hi, ownF W lo hi))]))) → RgAt K H' ra (lo, hi, ownF W lo hi) →
    H x = none → H' x = some (.lst xs) → DpAll K H' xs ((toldF (foundF S W lo hi)).map prData) → Q (.ref x) H')
abbrev NRg : List Str := ["_law_account_here", "_law_low", "_law_high", "_law_own", "_law_found", "_law_key_here"]
theorem scRanged : FnScope NRg ["_law_account_here", "_law_low", "_law_high"] (defScope sLRanged) := ⟨rfl, rfl, rfl, by decide +kernel, rfl, by decide +kernel, by decide +kernel⟩
theorem ok_ranged (B : Bt mg) (F : Fun K "_law_ranged" "_law_ranged" sLRanged f fd) (G2 : GOk P w K mg base 1 "_law_walked" (spWalked K)) : FnOk P w K mg base CX0 2 f fd ["_law_account_here", "_law_low", "_law_high"] (spRanged K) := by
  refine F.ok scRanged (fun vs H Q E h => ?_) (fun cdv A outer s H vs Q E hr h => ?_)
  · obtain ⟨c, u, a, g, r, W, S, rl, lo, hi, rfl, _⟩ := h
    rfl
  · obtain ⟨c, u, a, g, r, W, S, rl, lo, hi, rfl, hc, ha, hW, hu, hS, hrr, hrl, q1, q2⟩ := h
    refine ⟨_, pss_cons (ps_if (pt_cmpR op_lt_str (pv 2) (pv 1) (nomark _)) (pss_one (ps_ret (pe_lst pa_nil))) pss_nil)
      (pss_cons (ps_set (i := 3) scRanged.nd rfl (Or.inl rfl) (pe_callTy call_tuple_of (by rfl) B.tuple PyProof.Rows.boot_tuple (pa_cons
        (pe_lc (own := [("_law_key_here", 5)]) (g := gName 5) (by rfl) scRanged.nd (pi_list (pe_callB (cr_sortDict rfl hr.units) (by rfl) B.sorted PyProof.Rows.boot_sorted (pa_cons (pe_dget (hu_of hr) (pv 0) pe_str (fun _ _ => rfl)) pa_nil)))
          (blkOk_by (own := [("_law_key_here", 5)]) (N := NRg) (sc := defScope sLRanged) (by decide +kernel)) (fun _ _ _ _ _ => pg_name (i := 5) scRanged.nd rfl (Or.inl rfl))
          (fun _ _ _ _ _ => pts_one (pt_chain op_le_str op_le_str (pv 1) (pv 5) (pv 2))) (fun _ _ _ _ _ => pv 5)) pa_nil)))
      (pss_cons (ps_expr (pe_bm PySem.F.plainAttrs_list PySem.F.slot_list_append PySem.F.type_list_append mt_append (pe_dget (hu_of hr) (pv 0) pe_str (fun _ _ => rfl)) (pa_cons (pe_tup (pa_cons (pv 1) (pa_cons (pv 2) (pa_cons (pv 3) pa_nil)))) pa_nil)))
      (pss_cons (ps_set (i := 4) scRanged.nd rfl (Or.inr rfl) (pe_callTy (call_dictP rfl) (by rfl) B.dict PyProof.Rows.boot_dict (pa_cons (pe_g G2 hr (by rfl) (pa_cons (pe_dget (hu_of hr) (pv 0) pe_str (fun _ _ => rfl)) (pa_cons (pv 1) (pa_cons (pv 2) pa_nil)))) pa_nil)))
      (pss_cons (ps_for PassesOwn.never rfl (pi_tup (pv 3)) (pg_name (i := 5) scRanged.nd rfl (Or.inl rfl)) (pss_one (ps_dput (hu_of hr) (pv 4) (pv 5) (pe_dget (hu_of hr) (pe_dget (hu_of hr) (pv 0) pe_str (fun _ _ => rfl)) (pv 5) (fun _ _ => rfl)) rfl)))
      (pss_one (ps_ret (pe_lc (own := [("_law_key_here", 5)]) (g := gName 5) (by rfl) scRanged.nd (pi_list (pe_callB (cr_sortDict rfl hr.units) (by rfl) B.sorted PyProof.Rows.boot_sorted (pa_cons (pv 4) pa_nil)))
        (blkOk_by (own := [("_law_key_here", 5)]) (N := NRg) (sc := defScope sLRanged) (by decide +kernel)) (fun _ _ _ _ _ => pg_name (i := 5) scRanged.nd rfl (Or.inl rfl))
        (fun _ _ _ _ _ => pts_one (pt_cmpR op_notN (pe_dget (hu_of hr) (pv 4) (pv 5) (fun _ _ => rfl)) pe_non (nomark _)))
        (fun _ _ _ _ _ => pe_tup (pa_cons (pv 5) (pa_cons (pe_dget (hu_of hr) (pv 4) (pv 5) (fun _ _ => rfl)) pa_nil)))))))))), ?_⟩
    refine ⟨_, rfl, _, rfl, _, _, rfl, rfl, _, rfl, ?_⟩
    by_cases cc : ltS hi lo
    · rw [decide_eq_true cc]
      refine iteT ⟨Nat.zero_le _, fun l nl => ?_⟩
      exact q1 cc l _ (Same.new (Same.refl _) nl) nl upd_same
    rw [decide_eq_false cc]
    refine iteF ?_
    -- the own keys
    refine ⟨_, rfl, c, _, rfl, DGet.of hc acK_w, a, W, keysOf W, rfl, .inl ha, hW.keys, fun ys p pm as np => ?_⟩
    have ey := srtS_eq pm as
    subst ey
    have s1 : Same H (upd H p (.lst ((srtS (keysOf W)).map V.str))) := Same.new (Same.refl _) np
    have hl := srtS_len hW
    refine ⟨p, rfl, ⟨_, SqL.of upd_same⟩, fun D hD => lc_data (K := K) (walk_list (xs := (srtS (keysOf W)).map V.str)) hD (fun H2 s2 => SqL.of (s2 _ _ upd_same))
      (fun i => (((srtS (keysOf W)).take i).filter (inR lo hi)).map PyData.str) (by simp) (small_size (by simp; omega)) ?_ ?_⟩
    · rintro i x H2 H3 K1 K0 hi' s2 ⟨rfl, hx⟩ k1 k0
      obtain ⟨k, hk, rfl⟩ := map_str_at hx
      have hstep := take_filter (f := inR lo hi) hk
      refine ⟨rfl, _, rfl, _, rfl, _, _, rfl, rfl, _, rfl, ?_⟩
      by_cases c1 : ltS k lo
      · rw [decide_eq_true c1]
        refine ⟨_, rfl, iteF (k0 _ (Same.refl _) ?_)⟩
        have c' : inR lo hi k = false := by unfold inR; rw [decide_eq_true c1]; rfl
        rw [hstep, c']
        simp
      · rw [decide_eq_false c1]
        refine iteT ⟨_, rfl, _, _, rfl, rfl, ?_⟩
        by_cases c2 : ltS hi k
        · refine ⟨_, rfl, ?_⟩
          rw [decide_eq_true c2]
          refine iteF (k0 _ (Same.refl _) ?_)
          have c' : inR lo hi k = false := by unfold inR; rw [decide_eq_true c2, Bool.not_true, Bool.and_false]
          rw [hstep, c']
          simp
        · refine ⟨_, rfl, ?_⟩
          rw [decide_eq_false c2]
          refine iteT ⟨_, rfl, k1 _ (.str k) _ (Same.refl _) (.str k) rfl ?_⟩
          have c' : inR lo hi k = true := by unfold inR; rw [decide_eq_false c1, decide_eq_false c2]; rfl
          rw [hstep, c']
          simp
    intro H2 ys s2 hy hd
    rw [List.length_map, List.take_length] at hd
    have hys : ys = (ownF W lo hi).map V.str := DpAll.strs hd
    subst hys
    have s12 := s1.trans s2
    refine ⟨D, _, rfl, .inl ⟨SqL.of hy, fun o no => ?_⟩⟩
    have s3 : Same H (upd H2 o (.tup ((ownF W lo hi).map V.str))) := Same.new s12 no
    have ho3 : upd H2 o (.tup ((ownF W lo hi).map V.str)) o = some (.tup ((ownF W lo hi).map V.str)) := upd_same
    generalize upd H2 o (.tup ((ownF W lo hi).map V.str)) = H3 at s3 ho3 ⊢
    -- the range is noted
    have hr3 := s3 _ _ hrr
    refine ⟨_, rfl, c, _, rfl, DGet.of (s3 _ _ hc) acK_r, .inl ⟨rfl, _, SqL.of hr3⟩, _, rfl, _, rfl, _, rfl, (by show 3 ≤ sizeLine; decide), fun ra nra => ?_⟩
    have s4 : Same H3 (upd H3 ra (.tup [.str lo, .str hi, .ref o])) := Same.new (Same.refl _) nra
    have hra : RgAt K (upd H3 ra (.tup [.str lo, .str hi, .ref o])) ra (lo, hi, ownF W lo hi) := .tup (SqT.of upd_same) (.cons (.str lo) (.cons (.str hi) (.cons (.tup (SqT.of (s4 _ _ ho3)) (DpAll.ofStrs _)) .nil)))
    generalize upd H3 ra (.tup [.str lo, .str hi, .ref o]) = H4 at s4 hra ⊢
    have s04 := s3.trans s4
    have hr4 := s04 _ _ hrr
    refine ⟨r, _, _, rfl, rfl, hr4, small1000 (by rw [List.length_map]; omega), ?_⟩
    have F5 : FrM (· = r) H (upd H4 r (.lst (refsOf rl ++ [.ref ra]))) := (FrM.same s04).upd hr4 rfl rfl
    have F45 : FrM (· = r) H4 (upd H4 r (.lst (refsOf rl ++ [.ref ra]))) := FrM.upd (M := fun b => b = r) FrM.refl hr4 rfl rfl
    have hra5 := Dp.tups F45.tups _ _ (rgData_noL _) hra
    have hr5 : upd H4 r (.lst (refsOf rl ++ [.ref ra])) r = some (.lst (refsOf (rl ++ [(ra, (lo, hi, ownF W lo hi))]))) := by
      rw [upd_same]
      show _ = some (HO.lst (List.map _ (rl ++ [_])))
      rw [List.map_append]
      rfl
    have cr : c ≠ r := ne_of hc hrr (by intro z; cases z)
    have ar : a ≠ r := ne_of ha hrr (by intro z; cases z)
    have ur : u ≠ r := ne_of hu hrr (by intro z; cases z)
    have or_ : o ≠ r := ne_of ho3 hr3 (by intro z; cases z)
    have hc5 := F5.at hc cr
    have ha5 := F5.at ha ar
    have hu5 := F5.at hu ur
    have ho5 := F45.at (s4 _ _ ho3) or_
    generalize upd H4 r (.lst (refsOf rl ++ [.ref ra])) = H5 at F5 hra5 hr5 hc5 ha5 hu5 ho5 ⊢
    -- the rows of the state, in a dict
    refine ⟨_, rfl, c, _, rfl, DGet.of hc5 acK_u, _, rfl, _, rfl, u, S, lo, hi, rfl, hu5, hS, fun xa xs H7 s7 na hxs hda => ?_⟩
    obtain ⟨ps, rfl, hps⟩ := dp_rows_pairs (rowsF S lo hi) xs (fun p hp => (rowsF_row hS p hp).2) hda
    refine ⟨xa, ps, asKV (rowsF S lo hi), rfl, SqL.of hxs, hps, fun p np => ?_⟩
    have s67 : Same H5 (upd H7 p (.dK (mergeK [] (asKV (rowsF S lo hi))))) := Same.new s7 np
    have hp8 : upd H7 p (.dK (mergeK [] (asKV (rowsF S lo hi)))) p = some (.dK (mergeK [] (asKV (rowsF S lo hi)))) := upd_same
    have np6 : H5 p = none := s7.free np
    have np0 : H p = none := F5.free np6
    generalize upd H7 p (.dK (mergeK [] (asKV (rowsF S lo hi)))) = H8 at s67 hp8 ⊢
    have ho8 := s67 _ _ ho5
    have opn : o ≠ p := ne_of_none ho5 np6
    have cpn : c ≠ p := ne_of_none hc5 np6
    have apn : a ≠ p := ne_of_none ha5 np6
    have own10 : (ownF W lo hi).length ≤ 10 := Nat.le_trans (List.length_filter_le _ _) (srtS_len hW)
    have wk0 : WK (mergeK [] (asKV (rowsF S lo hi))) := by
      rw [mergeK_fold]
      exact wk_fold (k := fun p : Str × V => p.1) (v := fun p : Str × V => p.2) _ .nil (rowsF_row hS)
    refine ⟨_, rfl, o, rfl, ⟨_, SqT.of ho8⟩, for_tup (K := K) (a := o) (xs := (ownF W lo hi).map V.str) (fun i σ H' => ∃ v5 : Option V, σ = [some (.ref c), some (.str lo), some (.str hi), some (.ref o), some (.ref p), v5] ∧ FrM (· = p) H8 H' ∧
        H' p = some (.dK (((ownF W lo hi).take i).foldl (fun d k => putK d (.inr k) ((valV W (.inr k)).getD .non)) (mergeK [] (asKV (rowsF S lo hi)))))) ⟨none, rfl, FrM.refl, hp8⟩
      (fun i σ H' _ ⟨_, _, x, _⟩ => SqT.of (x.at ho8 opn)) ?_ ?_⟩
    · rintro i x σ H' hi' ⟨v5, rfl, x8, hp'⟩
      obtain ⟨k, hk, rfl⟩ := map_str_at hi'
      obtain ⟨hkW, _⟩ := mem_ownF (List.mem_of_getElem? hk)
      obtain ⟨v, ev, hv⟩ := hW.val hkW
      refine ⟨_, rfl, c, _, rfl, DGet.of (x8.at (s67 _ _ hc5) cpn) acK_w, _, rfl, a, v, rfl, DGet.of (x8.at (s67 _ _ ha5) apn) ev, ?_⟩
      refine ⟨_, rfl, _, rfl, p, _, rfl, DPut.k (k := Sum.inr k) hp' (small1000 ?_), ?_⟩
      · have hwk : WK (((ownF W lo hi).take i).foldl (fun d k => putK d (.inr k) ((valV W (.inr k)).getD .non)) (mergeK [] (asKV (rowsF S lo hi)))) := wk_fold (k := fun k => k) (v := fun k => (valV W (.inr k)).getD .non) _ wk0 fun k' hk' => by
          obtain ⟨h1, _⟩ := mem_ownF (List.mem_of_mem_take hk')
          obtain ⟨v', e1, hv'⟩ := hW.val h1
          rw [e1]
          exact ⟨hW.key h1, hv'⟩
        exact Nat.le_trans hwk.len (by decide)
      · refine ⟨some (.str k), rfl, x8.upd hp' rfl rfl, ?_⟩
        rw [upd_same, foldl_take _ hk, ev]
        rfl
    · rintro σ H9 ⟨v5, rfl, x9, hp9⟩
      have ef : ((ownF W lo hi).take ((ownF W lo hi).map V.str).length).foldl (fun d k => putK d (.inr k) ((valV W (.inr k)).getD .non)) (mergeK [] (asKV (rowsF S lo hi))) = foundF S W lo hi := by
        rw [List.length_map, List.take_length]
        rfl
      rw [ef] at hp9
      have hF := foundF_wk (lo := lo) (hi := hi) hS hW
      generalize foundF S W lo hi = FF at hp9 hF q2 ⊢
      have X9 : FrM (· = r) H H9 := (F5.grow s67).fresh np0 x9
      have hr9 := x9.at (s67 _ _ hr5) (ne_of_none hr5 np6)
      have hra9 := Dp.tups x9.tups _ _ (rgData_noL _) (Dp.same s67 _ _ hra5)
      refine ⟨_, rfl, p, FF, keysOf FF, rfl, .inl hp9, hF.keys, fun ys g' pm as ng => ?_⟩
      have ey := srtS_eq pm as
      subst ey
      have s1 : Same H9 (upd H9 g' (.lst ((srtS (keysOf FF)).map V.str))) := Same.new (Same.refl _) ng
      have hl := srtS_len hF
      refine ⟨g', rfl, ⟨_, SqL.of upd_same⟩, fun D hD => lc_data (K := K) (walk_list (xs := (srtS (keysOf FF)).map V.str)) hD (fun H2 s2 => SqL.of (s2 _ _ upd_same))
        (fun i => ((((srtS (keysOf FF)).take i).filter fun k => !decide ((valV FF (.inr k)).getD .non = .non)).map fun k => (k, (valV FF (.inr k)).getD .non)).map prData) (by simp) (small_size (by simp; omega)) ?_ ?_⟩
      · rintro i x H2 H3 K1 K0 hi' s2 ⟨rfl, hx⟩ k1 k0
        obtain ⟨k, hk, rfl⟩ := map_str_at hx
        obtain ⟨v, ev, hv⟩ := hF.val (mem_srtS.mp (List.mem_of_getElem? hk))
        have hp2 := s2 _ _ (s1 _ _ hp9)
        have hstep := take_filter (f := fun k => !decide ((valV FF (.inr k)).getD .non = .non)) hk
        refine ⟨rfl, _, rfl, _, rfl, p, v, rfl, DGet.of hp2 ev, rfl, _, rfl, ?_⟩
        by_cases hv0 : v = .non
        · rw [decide_eq_true hv0]
          refine iteF (k0 _ (Same.refl _) ?_)
          rw [hstep]
          simp [ev, hv0]
        · rw [decide_eq_false hv0]
          refine iteT ⟨_, rfl, _, rfl, _, rfl, p, v, rfl, DGet.of hp2 ev, (by show 2 ≤ sizeLine; decide), fun T' hT => ?_⟩
          refine k1 _ (prData (k, v)) _ (Same.new (Same.refl _) hT) (.tup (SqT.of upd_same) (.cons (.str k) (.cons hv.dp .nil))) (prData_noL _) ?_
          rw [hstep]
          simp [ev, hv0]
      · intro H2 ys s2 hy hd
        rw [List.length_map, List.take_length] at hd
        have s92 := s1.trans s2
        exact q2 cc D ys ra H2 (X9.grow s92) (s92 _ _ hr9) (Dp.same s92 _ _ hra9) (X9.free (s1.free hD)) hy hd
def spParts (K : PySem.W.Frag) : Sp := fun vs H Q _ => ∃ (c u a g r : Addr) (W : KVs) (gl G : List Str) (rl : List (Addr × Rg)) (L : List Rg), vs = [.ref c] ∧ H c = some (.dK (acK u a g r)) ∧ H a = some (.dK W) ∧ WK W ∧ H g = some (.lst (gl.map V.str)) ∧ gl.length < 4000 ∧
  H r = some (.lst (refsOf rl)) ∧ (∀ p ∈ rl, RgAt K H p.1 p.2) ∧ rl.length < 64 ∧ G.Nodup ∧ (∀ k, k ∈ G ↔ k ∈ gl) ∧ L.Nodup ∧ (∀ q, q ∈ L ↔ q ∈ rl.map (·.2)) ∧
  ∀ (t : Addr) (y3 y4 y5 : V) (H' : Hp), Same H H' → H' t = some (.tup [y3, y4, y5]) → Dp K H' y3 (gsData (srtS G)) → Dp K H' y4 (rsData (srtR L)) → Dp K H' y5 (wsData (wroteF W)) → Q (.ref t) H'
abbrev NPt : List Str := ["_law_account_here", "_law_writes", "_law_key_here"]
theorem scParts : FnScope NPt ["_law_account_here"] (defScope sLParts) := ⟨rfl, rfl, rfl, by decide +kernel, rfl, by decide +kernel, by decide +kernel⟩
theorem ok_parts (B : Bt mg) (F : Fun K "_law_parts" "_law_parts" sLParts f fd) : FnOk P w K mg base CX0 1 f fd ["_law_account_here"] (spParts K) := by
  refine F.ok scParts (fun vs H Q E h => ?_) (fun cdv A outer s H vs Q E hr h => ?_)
  · obtain ⟨c, u, a, g, r, W, gl, G, rl, L, rfl, _⟩ := h
    rfl
  · obtain ⟨c, u, a, g, r, W, gl, G, rl, L, rfl, hc, ha, hW, hg, hgl, hrr, hrs, hrl, nG, mG, nL, mL, q⟩ := h
    refine ⟨_, pss_cons (ps_set (i := 1) scParts.nd rfl (Or.inl rfl) (pe_callTy call_tuple_of (by rfl) B.tuple PyProof.Rows.boot_tuple (pa_cons
        (pe_lc (own := [("_law_key_here", 2)]) (g := gName 2) (tt := tYes) (by rfl) scParts.nd (pi_list (pe_callB (cr_sortDict rfl hr.units) (by rfl) B.sorted PyProof.Rows.boot_sorted (pa_cons (pe_dget (hu_of hr) (pv 0) pe_str (fun _ _ => rfl)) pa_nil)))
          (blkOk_by (own := [("_law_key_here", 2)]) (N := NPt) (sc := defScope sLParts) (by decide +kernel)) (fun _ _ _ _ _ => pg_name (i := 2) scParts.nd rfl (Or.inl rfl)) (fun _ _ _ _ _ => pts_nil)
          (fun _ _ _ _ _ => pe_tup (pa_cons (pv 2) (pa_cons (pe_dget (hu_of hr) (pe_dget (hu_of hr) (pv 0) pe_str (fun _ _ => rfl)) (pv 2) (fun _ _ => rfl)) pa_nil)))) pa_nil)))
      (pss_one (ps_ret (pe_tup (pa_cons (pe_callTy call_tuple_of (by rfl) B.tuple PyProof.Rows.boot_tuple (pa_cons (pe_callB (cr_sortTSet rfl hr.units) (by rfl) B.sorted PyProof.Rows.boot_sorted (pa_cons (pe_callTy (cr_setTexts rfl) (by rfl) B.set PyProof.Rows.boot_set (pa_cons (pe_dget (hu_of hr) (pv 0) pe_str (fun _ _ => rfl)) pa_nil)) pa_nil)) pa_nil))
        (pa_cons (pe_callTy call_tuple_of (by rfl) B.tuple PyProof.Rows.boot_tuple (pa_cons (pe_callB (cr_sortNSet rfl hr.units) (by rfl) B.sorted PyProof.Rows.boot_sorted (pa_cons (pe_callTy (cr_setRgs rfl hr.units) (by rfl) B.set PyProof.Rows.boot_set (pa_cons (pe_dget (hu_of hr) (pv 0) pe_str (fun _ _ => rfl)) pa_nil)) pa_nil)) pa_nil))
        (pa_cons (pv 1) pa_nil)))))), ?_⟩
    refine ⟨_, rfl, c, _, rfl, DGet.of hc acK_w, a, W, keysOf W, rfl, .inl ha, hW.keys, fun ys p pm as np => ?_⟩
    have ey := srtS_eq pm as
    subst ey
    have s1 : Same H (upd H p (.lst ((srtS (keysOf W)).map V.str))) := Same.new (Same.refl _) np
    have hl := srtS_len hW
    refine ⟨p, rfl, ⟨_, SqL.of upd_same⟩, fun D hD => lc_data (K := K) (walk_list (xs := (srtS (keysOf W)).map V.str)) hD (fun H2 s2 => SqL.of (s2 _ _ upd_same))
      (fun i => (((srtS (keysOf W)).take i).map fun k => (k, (valV W (.inr k)).getD .non)).map prData) (by simp) (small_size (by simp; omega)) ?_ ?_⟩
    · rintro i x H2 H3 K1 K0 hi' s2 ⟨rfl, hx⟩ k1 _
      obtain ⟨k, hk, rfl⟩ := map_str_at hx
      obtain ⟨v, ev, hv⟩ := hW.val (mem_srtS.mp (List.mem_of_getElem? hk))
      have s12 := s1.trans s2
      refine ⟨rfl, _, rfl, _, rfl, c, _, rfl, DGet.of (s12 _ _ hc) acK_w, _, rfl, a, v, rfl, DGet.of (s12 _ _ ha) ev, (by show 2 ≤ sizeLine; decide), fun T' hT => ?_⟩
      refine k1 _ (prData (k, v)) _ (Same.new (Same.refl _) hT) (.tup (SqT.of upd_same) (.cons (.str k) (.cons hv.dp .nil))) (prData_noL _) ?_
      rw [take_get hk]
      simp [ev]
    intro H2 ys s2 hy hd
    rw [List.length_map, List.take_length] at hd
    refine ⟨D, ys, rfl, .inl ⟨SqL.of hy, fun l nl => ?_⟩⟩
    have s3 : Same H2 (upd H2 l (.tup ys)) := Same.new (Same.refl _) nl
    have d5 : Dp K (upd H2 l (.tup ys)) (.ref l) (wsData (wroteF W)) := .tup (SqT.of upd_same) (DpAll.same s3 _ _ hd)
    have s03 := (s1.trans s2).trans s3
    generalize upd H2 l (.tup ys) = H3 at s03 d5 ⊢
    -- the keys
    refine ⟨_, rfl, c, _, rfl, DGet.of (s03 _ _ hc) acK_g, g, gl, rfl, SqL.of (s03 _ _ hg), hgl, fun e ks ne nd mem => ?_⟩
    have s4 : Same H3 (upd H3 e (TSetO w e ks)) := Same.new (Same.refl _) ne
    refine ⟨e, ks, rfl, upd_same, fun zs p' pm as np' => ?_⟩
    have ez := srtS_eq pm as
    rw [srtS_congr (perm_of_mem nd nG fun k => (mem k).trans (mG k).symm)] at ez
    refine ⟨p', _, rfl, .inl ⟨SqL.of upd_same, fun t3 nt3 => ?_⟩⟩
    have s5 := Same.new (o := .tup (zs.map V.str)) (Same.new (o := .lst (zs.map V.str)) s4 np') nt3
    have d3 : Dp K (upd (upd (upd H3 e (TSetO w e ks)) p' (.lst (zs.map V.str))) t3 (.tup (zs.map V.str))) (.ref t3) (gsData (srtS G)) := by
      rw [← ez]
      exact .tup (SqT.of upd_same) (DpAll.ofStrs _)
    have d55 := Dp.same s5 _ _ d5
    have s05 := s03.trans s5
    -- the ranges
    refine ⟨_, rfl, c, _, rfl, DGet.of (s05 _ _ hc) acK_r, r, rl, rfl, SqL.of (s05 _ _ hrr), fun p hp => Dp.same s05 _ _ (hrs p hp), hrl, fun e2 L2 ne2 sub2 nd2 mem2 => ?_⟩
    have hrs2 : ∀ p ∈ L2, RgAt K H p.1 p.2 := fun p hp => hrs p (sub2 p hp)
    have s6 := Same.new (o := NSetO P w e2 L2) s05 ne2
    refine ⟨e2, L2, rfl, upd_same, fun p hp => Dp.same s6 _ _ (hrs2 p hp), fun zs2 p2 pm2 as2 np2 => ?_⟩
    have ez2 := srtR_eq (pm2.map (·.2)) as2
    rw [srtR_congr (perm_of_mem nd2 nL fun k => (mem2 k).trans (mL k).symm)] at ez2
    refine ⟨p2, _, rfl, .inl ⟨SqL.of upd_same, fun t4 nt4 => ?_⟩⟩
    have s7 := Same.new (o := .tup (refsOf zs2)) (Same.new (o := .lst (refsOf zs2)) s6 np2) nt4
    refine ⟨_, rfl, (by show 3 ≤ sizeLine; decide), fun t nt => ?_⟩
    have s8 := Same.new (o := .tup [.ref t3, .ref t4, .ref l]) s7 nt
    have sl := Same.new (o := .tup [.ref t3, .ref t4, .ref l]) (Same.new (o := .tup (refsOf zs2)) (Same.new (o := .lst (refsOf zs2)) (Same.new (o := NSetO P w e2 L2) (Same.refl _) ne2) np2) nt4) nt
    refine q t _ _ _ _ s8 upd_same (Dp.same sl _ _ d3) ?_ (Dp.same sl _ _ d55)
    refine .tup (SqT.of ((upd_ne (ne_of_none upd_same nt)).trans upd_same)) ?_
    rw [← ez2]
    exact dp_rows zs2 fun r hr' => Dp.same s8 _ _ (hrs2 r (pm2.mem_iff.mp hr'))
end
end L2.K47
/-! K47, part I4: an entry of the law: a transaction with its account; what stays of it -/
namespace L2.K47
open PySem PySem.Spec PyProof.Rows LamX NdefX

/-- where an entry's things stand -/
structure Ent where
  e : Addr
  t : Addr
  dx : Addr
  c : Addr
  n : Int
  dl : Addr
  u : Addr
  k : Addr
  fl : Addr
  fw : Addr
  w : Addr
  kd : Addr
  rd : Addr
  wa : Addr
  g : Addr
  r : Addr
abbrev Ent.tr (X : Ent) (op : Bool) : Tr := ⟨X.n, X.fl, X.fw, X.w, X.kd, X.rd, op⟩
abbrev Ent.eight (X : Ent) : List Addr := [X.t, X.w, X.kd, X.rd, X.wa, X.g, X.r, X.dl]
/-- what never changes of it, but for whether it is open; own says whose a thing is: 0 nobody's (it never changes) -/
structure EBase (C : Addr) (own : Addr → Nat) (j : Nat) (H : Hp) (X : Ent) (op : Bool) : Prop where
  e_ : H X.e = some (.lst [.ref X.t, .ref X.c, .int X.n, .ref X.dl, .ref X.u, .ref X.k])
  t_ : H X.t = some (.ins C X.dx (X.tr op).fs)
  c_ : H X.c = some (.dK (acK X.u X.wa X.g X.r))
  n0 : 0 ≤ X.n
  lk : LookAt (fun b => own b = 0) H X.fl X.u
  wk : WalkAt (fun b => own b = 0) H X.fw X.u
  st : ∃ S, SK S ∧ H X.u = some (.dK S) ∧ H X.k = some (.dK S)
  nd : X.eight.Nodup
  mine : ∀ b ∈ X.eight, own b = j
  oe : own X.e = 0
  oc : own X.c = 0
  ou : own X.u = 0
  ok : own X.k = 0
  jn : j ≠ 0
def EWr (H : Hp) (X : Ent) : Prop := ∃ W, WK W ∧ H X.w = some (.dK W) ∧ H X.wa = some (.dK W)
def EKs (m : Nat) (H : Hp) (X : Ent) : Prop := ∃ (G gl : List Str), G.Nodup ∧ (∀ k, k ∈ G ↔ k ∈ gl) ∧ (∀ k ∈ G, KeyOk k) ∧ gl.length ≤ m ∧ H X.kd = some (.dK (gK G)) ∧ H X.g = some (.lst (gl.map V.str))
def ERs (P : Program) (w : World) (K : PySem.W.Frag) (m : Nat) (H : Hp) (X : Ent) : Prop := ∃ (rows rl : List (Addr × Rg)), (rows.map (·.2)).Nodup ∧ (∀ q, q ∈ rows.map (·.2) ↔ q ∈ rl.map (·.2)) ∧ (∀ p ∈ rows, RgAt K H p.1 p.2) ∧
  (∀ p ∈ rl, RgAt K H p.1 p.2 ∧ RgOk p.2) ∧ rl.length ≤ m ∧ H X.rd = some (NDictO P w X.rd rows) ∧ H X.r = some (.lst (refsOf rl))
/-- a dealing made, and its parts as they were told -/
def DealAt (K : PySem.W.Frag) (CD : Addr) (own : Addr → Nat) (H : Hp) (q : Addr) : Prop := ∃ (d p dy : Addr) (D : Dl) (x3 x4 x5 y3 y4 y5 : V), H q = some (.tup [.ref d, .ref p]) ∧ H d = some (.ins CD dy (DF D.n D.m x3 x4 x5)) ∧ own d = 0 ∧
  H p = some (.tup [.int D.n, D.m, y3, y4, y5]) ∧ DlOk D ∧ DAt K H D x3 x4 x5 ∧ DAt K H D y3 y4 y5
def EDs (K : PySem.W.Frag) (CD : Addr) (own : Addr → Nat) (m : Nat) (H : Hp) (X : Ent) : Prop := ∃ dls : List Addr, H X.dl = some (.lst (dls.map V.ref)) ∧ dls.length ≤ m ∧ ∀ q ∈ dls, DealAt K CD own H q
structure EntOk (P : Program) (w : World) (K : PySem.W.Frag) (C CD : Addr) (own : Addr → Nat) (j m : Nat) (H : Hp) (X : Ent) (op : Bool) : Prop where
  b : EBase C own j H X op
  wr : EWr H X
  ks : EKs m H X
  rs : ERs P w K m H X
  ds : EDs K CD own m H X

section
variable {P : Program} {w : World} {K : PySem.W.Frag} {C CD : Addr} {own own' : Addr → Nat} {j m m' : Nat} {H H' : Hp} {X : Ent} {op : Bool} {M : Addr → Prop}
theorem DAt.tups {D : Dl} {x3 x4 x5 : V} (h : DAt K H D x3 x4 x5) (s : Tups H H') : DAt K H' D x3 x4 x5 :=
  ⟨Dp.tups s _ _ (noLAll_map _ (fun _ => rfl) _) h.g, Dp.tups s _ _ (noLAll_map _ rgData_noL _) h.r, Dp.tups s _ _ (noLAll_map _ prData_noL _) h.w⟩
theorem FrM.tup {a : Addr} {xs : List V} (x : FrM M H H') (e : H a = some (.tup xs)) : H' a = some (.tup xs) := (x a _ e).1 (.inr rfl)
theorem DealAt.fr {q : Addr} (h : DealAt K CD own H q) (x : FrM M H H') (k : ∀ b, own b = 0 → ¬ M b) : DealAt K CD own H' q := by
  obtain ⟨d, p, dy, D, x3, x4, x5, y3, y4, y5, h1, h2, h3, h4, h5, h6, h7⟩ := h
  exact ⟨d, p, dy, D, x3, x4, x5, y3, y4, y5, FrM.tup x h1, x.at h2 (k _ h3), h3, FrM.tup x h4, h5, h6.tups x.tups, h7.tups x.tups⟩
theorem EBase.fr (h : EBase C own j H X op) (x : FrM M H H') (k : ∀ b, own b = 0 → ¬ M b) (kt : ¬ M X.t) : EBase C own j H' X op := by
  obtain ⟨e_, t_, c_, n0, lk, wk, ⟨S, s1, s2, s3⟩, nd, mine, oe, oc, ou, ok, jn⟩ := h
  exact ⟨x.at e_ (k _ oe), x.at t_ kt, x.at c_ (k _ oc), n0, lk.fr x k, wk.fr x k, ⟨S, s1, x.at s2 (k _ ou), x.at s3 (k _ ok)⟩, nd, mine, oe, oc, ou, ok, jn⟩
theorem EWr.fr (h : EWr H X) (x : FrM M H H') (k1 : ¬ M X.w) (k2 : ¬ M X.wa) : EWr H' X := let ⟨W, a, b, c⟩ := h; ⟨W, a, x.at b k1, x.at c k2⟩
theorem EKs.fr (h : EKs m H X) (x : FrM M H H') (k1 : ¬ M X.kd) (k2 : ¬ M X.g) : EKs m H' X := let ⟨G, gl, a, b, c, d, e, f⟩ := h; ⟨G, gl, a, b, c, d, x.at e k1, x.at f k2⟩
theorem ERs.fr (h : ERs P w K m H X) (x : FrM M H H') (k1 : ¬ M X.rd) (k2 : ¬ M X.r) : ERs P w K m H' X :=
  let ⟨rows, rl, a, b, c, d, e, f, g⟩ := h
  ⟨rows, rl, a, b, fun p hp => Dp.tups x.tups _ _ (rgData_noL _) (c p hp), fun p hp => ⟨Dp.tups x.tups _ _ (rgData_noL _) (d p hp).1, (d p hp).2⟩, e, x.at f k1, x.at g k2⟩
theorem EDs.fr (h : EDs K CD own m H X) (x : FrM M H H') (k : ∀ b, own b = 0 → ¬ M b) (k1 : ¬ M X.dl) : EDs K CD own m H' X := let ⟨dls, a, b, c⟩ := h; ⟨dls, x.at a k1, b, fun q hq => (c q hq).fr x k⟩
theorem EntOk.fr (h : EntOk P w K C CD own j m H X op) (x : FrM M H H') (k : ∀ b, M b → own b ≠ 0 ∧ own b ≠ j) : EntOk P w K C CD own j m H' X op := by
  have k0 : ∀ b, own b = 0 → ¬ M b := fun b e q => (k b q).1 e
  have k1 : ∀ b ∈ X.eight, ¬ M b := fun b hb q => (k b q).2 (h.b.mine b hb)
  exact ⟨h.b.fr x k0 (k1 _ (by simp)), h.wr.fr x (k1 _ (by simp)) (k1 _ (by simp)), h.ks.fr x (k1 _ (by simp)) (k1 _ (by simp)), h.rs.fr x (k1 _ (by simp)) (k1 _ (by simp)), h.ds.fr x k0 (k1 _ (by simp))⟩
theorem EKs.mono (h : EKs m H X) (hm : m ≤ m') : EKs m' H X := let ⟨G, gl, a, b, c, d, e⟩ := h; ⟨G, gl, a, b, c, Nat.le_trans d hm, e⟩
theorem ERs.mono (h : ERs P w K m H X) (hm : m ≤ m') : ERs P w K m' H X := let ⟨rows, rl, a, b, c, d, e, f⟩ := h; ⟨rows, rl, a, b, c, d, Nat.le_trans e hm, f⟩
theorem EDs.mono (h : EDs K CD own m H X) (hm : m ≤ m') : EDs K CD own m' H X := let ⟨dls, a, b, c⟩ := h; ⟨dls, a, Nat.le_trans b hm, c⟩
theorem EntOk.mono (h : EntOk P w K C CD own j m H X op) (hm : m ≤ m') : EntOk P w K C CD own j m' H X op := ⟨h.b, h.wr, h.ks.mono hm, h.rs.mono hm, h.ds.mono hm⟩
/-- whose things are may be said anew of what was not there -/
theorem EntOk.owned (h : EntOk P w K C CD own j m H X op) (k : ∀ b o, H b = some o → own' b = own b) : EntOk P w K C CD own' j m H X op := by
  obtain ⟨⟨e_, t_, c_, n0, ⟨c1, d1, l1, l2, l3, l4, l5, l6⟩, ⟨c2, d2, m1, m2, m3, m4, m5, m6⟩, st, nd, mine, oe, oc, ou, ok, jn⟩, wr, ks, rs, ⟨dls, q1, q2, q3⟩⟩ := h
  obtain ⟨S, s1, s2, s3⟩ := id st
  obtain ⟨W, w1, w2, w3⟩ := id wr
  obtain ⟨G, gl, g1, g2, g3, g4, g5, g6⟩ := id ks
  obtain ⟨rows, rl, r1, r2, r3, r4, r5, r6, r7⟩ := id rs
  refine ⟨⟨e_, t_, c_, n0, ⟨c1, d1, l1, l2, l3, (k _ _ l1).trans l4, (k _ _ l2).trans l5, (k _ _ l3).trans l6⟩, ⟨c2, d2, m1, m2, m3, (k _ _ m1).trans m4, (k _ _ m2).trans m5, (k _ _ m3).trans m6⟩, st, nd, fun b hb => ?_,
    (k _ _ e_).trans oe, (k _ _ c_).trans oc, (k _ _ s2).trans ou, (k _ _ s3).trans ok, jn⟩, wr, ks, rs, dls, q1, q2, fun q hq => ?_⟩
  · have e := mine b hb
    simp only [List.mem_cons, List.not_mem_nil, or_false] at hb
    rcases hb with rfl | rfl | rfl | rfl | rfl | rfl | rfl | rfl
    · exact (k _ _ t_).trans e
    · exact (k _ _ w2).trans e
    · exact (k _ _ g5).trans e
    · exact (k _ _ r6).trans e
    · exact (k _ _ w3).trans e
    · exact (k _ _ g6).trans e
    · exact (k _ _ r7).trans e
    · exact (k _ _ q1).trans e
  · obtain ⟨d, p, dy, D, x3, x4, x5, y3, y4, y5, h1, h2, h3, h4⟩ := q3 q hq
    exact ⟨d, p, dy, D, x3, x4, x5, y3, y4, y5, h1, h2, (k _ _ h2).trans h3, h4⟩
end
/-- whatever is somebody's is there -/
def OwnDom (own : Addr → Nat) (H : Hp) : Prop := ∀ b, own b ≠ 0 → ∃ o, H b = some o
theorem OwnDom.fr {own : Addr → Nat} {M : Addr → Prop} {H H' : Hp} (h : OwnDom own H) (x : FrM M H H') : OwnDom own H' := fun b e => let ⟨o, q⟩ := h b e; (x b o q).2
theorem OwnDom.new {own : Addr → Nat} {H : Hp} {b : Addr} (h : OwnDom own H) (e : H b = none) : own b = 0 := by
  by_cases q : own b = 0
  · exact q
  · obtain ⟨o, z⟩ := h b q
    rw [e] at z
    cases z
theorem scal_self {v : V} (h : VOk v) : scal v v = true := by
  rcases h with rfl | ⟨z, rfl, _⟩ <;> rfl
theorem SK.vok {S : KVs} (h : SK S) (k : Key) : VOk ((valV S k).getD .non) := by
  cases e : valV S k with
  | none => exact .inl rfl
  | some v => exact h.wk.vok e
theorem addG_mem {G gl : List Str} {k x : Str} (h : ∀ k, k ∈ G ↔ k ∈ gl) : x ∈ addG G k ↔ x ∈ gl ++ [k] := by
  unfold addG
  by_cases c : k ∈ G
  · rw [if_pos c, List.mem_append, List.mem_singleton, h]
    exact ⟨.inl, fun q => q.elim id fun e => by rw [e]; exact (h k).mp c⟩
  · rw [if_neg c, List.mem_append, List.mem_append, List.mem_singleton, h]
theorem addG_nodup {G : List Str} {k : Str} (h : G.Nodup) : (addG G k).Nodup := by
  unfold addG
  by_cases c : k ∈ G
  · rw [if_pos c]; exact h
  · rw [if_neg c]
    exact List.nodup_append.mpr ⟨h, by simp, fun a ha b hb e => c (by rw [List.mem_singleton] at hb; rw [← hb, ← e]; exact ha)⟩
theorem putR_mem {rows : List (Addr × Rg)} {rl : List (Addr × Rg)} {ra rb : Addr} {rg q : Rg} (h : ∀ q, q ∈ rows.map (·.2) ↔ q ∈ rl.map (·.2)) : q ∈ (putR rows ra rg).map (·.2) ↔ q ∈ (rl ++ [(rb, rg)]).map (·.2) := by
  unfold putR
  by_cases c : rg ∈ rows.map (·.2)
  · rw [if_pos c, List.map_append, List.mem_append, h]
    constructor
    · exact .inl
    · intro e
      rcases e with e | e
      · exact e
      · have e : q = rg := by simpa using e
        rw [e]
        exact (h rg).mp c
  · rw [if_neg c, List.map_append, List.map_append, List.mem_append, List.mem_append, h]
    exact Iff.rfl
theorem putR_nodup {rows : List (Addr × Rg)} {ra : Addr} {rg : Rg} (h : (rows.map (·.2)).Nodup) : ((putR rows ra rg).map (·.2)).Nodup := by
  unfold putR
  by_cases c : rg ∈ rows.map (·.2)
  · rw [if_pos c]; exact h
  · rw [if_neg c, List.map_append]
    exact List.nodup_append.mpr ⟨h, by simp, fun a ha b hb e => c (by simp at hb; rw [← hb, ← e]; exact ha)⟩
theorem putR_sub {rows : List (Addr × Rg)} {ra : Addr} {rg : Rg} {p : Addr × Rg} (h : p ∈ putR rows ra rg) : p ∈ rows ∨ p = (ra, rg) := by
  unfold putR at h
  by_cases c : rg ∈ rows.map (·.2)
  · rw [if_pos c] at h; exact .inl h
  · rw [if_neg c] at h
    rcases List.mem_append.mp h with h | h
    · exact .inl h
    · exact .inr (List.mem_singleton.mp h)
theorem listP_shaped {l : List (Str × V)} (h : ∀ p ∈ l, KeyOk p.1 ∧ VOk p.2) : SeqAt.shaped (.list (l.map prData)) = true := by
  refine shaped_of (n := 2) ?_ ?_
  · rw [PyData.canLay0]
    exact layAll_map fun g hg => prData_lay (h g hg).1 (h g hg).2
  · have := depthAll_map (f := prData) (n := 1) (fun r => by rw [prData_depth]; exact Nat.le_refl _) l
    rw [PyData.depth]
    omega
theorem listP_refl {l : List (Str × V)} (h : ∀ p ∈ l, KeyOk p.1 ∧ VOk p.2) : PyData.eqv (.list (l.map prData)) (.list (l.map prData)) = true := by
  refine SeqAt.eqv_refl _ ?_
  rw [PyData.canLay0]
  exact layAll_map fun g hg => prData_lay (h g hg).1 (h g hg).2
end L2.K47
/-! K47, part I5: one deed -/
namespace L2.K47
open PySem PySem.Spec PyProof.Rows LamX NdefX

theorem nd8 {a0 a1 a2 a3 a4 a5 a6 a7 : Addr} (h : [a0, a1, a2, a3, a4, a5, a6, a7].Nodup) : (a0 ≠ a1 ∧ a0 ≠ a2 ∧ a0 ≠ a3 ∧ a0 ≠ a4 ∧ a0 ≠ a5 ∧ a0 ≠ a6 ∧ a0 ≠ a7) ∧ (a1 ≠ a2 ∧ a1 ≠ a3 ∧ a1 ≠ a4 ∧ a1 ≠ a5 ∧ a1 ≠ a6 ∧ a1 ≠ a7) ∧
    (a2 ≠ a3 ∧ a2 ≠ a4 ∧ a2 ≠ a5 ∧ a2 ≠ a6 ∧ a2 ≠ a7) ∧ (a3 ≠ a4 ∧ a3 ≠ a5 ∧ a3 ≠ a6 ∧ a3 ≠ a7) ∧ (a4 ≠ a5 ∧ a4 ≠ a6 ∧ a4 ≠ a7) ∧ (a5 ≠ a6 ∧ a5 ≠ a7) ∧ a6 ≠ a7 := by
  simpa [List.nodup_cons, not_or] using h
theorem FrM.trans' {M N : Addr → Prop} {H H1 H2 : Hp} (x : FrM M H H1) (y : FrM N H1 H2) : Tups H H2 := fun b o e k => y.tups b o (x.tups b o e k) k
def ifBody : Stmt → List Stmt
  | .If _ b _ _ => b
  | _ => []
section
variable {P : Program} {w : World} {K : PySem.W.Frag} {mg : Str → Option Value} {base : Heap} {f C CD : Addr} {fd : FuncData}
def spStep (P : Program) (w : World) (K : PySem.W.Frag) (C CD : Addr) : Sp := fun vs H Q _ => ∃ (own : Addr → Nat) (j m : Nat) (h : Addr) (X : Ent), vs = [.ref h, .ref X.t, .ref X.c] ∧ HandAt (fun b => own b = 0) H h ∧ own h = 1 ∧ j ≠ 1 ∧ EntOk P w K C CD own j m H X true ∧ m ≤ 60 ∧
  ∀ H', FrM (fun b => own b = 1 ∨ own b = j) H H' → HandAt (fun b => own b = 0) H' h → EntOk P w K C CD own j (m + 1) H' X true → EDs K CD own m H' X → Q (.bl true) H'
abbrev NSt : List Str := ["_law_hand_here", "_law_one", "_law_account_here", "_law_kind", "_law_key_here", "_law_other", "_law_low", "_law_high", "_law_told", "_law_worth_here"]
theorem scStep : FnScope NSt ["_law_hand_here", "_law_one", "_law_account_here"] (defScope sLStep) := ⟨rfl, rfl, rfl, by decide +kernel, rfl, by decide +kernel, by decide +kernel⟩
theorem ok_step (B : Bt mg) (F : Fun K "_law_step" "_law_step" sLStep f fd) (GD : GOk P w K mg base 1 "_law_draw" spDraw) (GK : GOk P w K mg base 3 "_law_key" spKey) (GW : GOk P w K mg base 3 "_law_worth" spWorth) (GG : GOk P w K mg base 1 "_law_got" spGot)
    (GR : GOk P w K mg base 2 "_law_ranged" (spRanged K)) (Mg : MOk P w K mg base C 3 "get" (spTGet C)) (Mb : MOk P w K mg base C 4 "between" (spTBetween P w K C)) (Mp : MOk P w K mg base C 4 "put" (spTPut C)) (Md : MOk P w K mg base C 3 "drop" (spTDrop C)) :
    FnOk P w K mg base CX0 5 f fd ["_law_hand_here", "_law_one", "_law_account_here"] (spStep P w K C CD) := by
  refine F.ok scStep (fun vs H Q E h => ?_) (fun cdv A outer s H vs Q E hr h => ?_)
  · obtain ⟨own, j, m, h, X, rfl, _⟩ := h
    rfl
  · obtain ⟨own, j, m, h, X, rfl, hh, h1, j1, ok0, hm, q⟩ := h
    obtain ⟨⟨t_w, t_kd, t_rd, t_wa, t_g, t_r, t_dl⟩, ⟨w_kd, w_rd, w_wa, w_g, w_r, w_dl⟩, ⟨kd_rd, kd_wa, kd_g, kd_r, kd_dl⟩, ⟨rd_wa, rd_g, rd_r, rd_dl⟩, ⟨wa_g, wa_r, wa_dl⟩, ⟨g_r, g_dl⟩, r_dl⟩ := nd8 ok0.b.nd
    have mine := ok0.b.mine
    have jn := ok0.b.jn
    -- draws leave the entry as it is
    have drawn : ∀ {H1 H2 : Hp} {m' : Nat}, FrM (· = h) H1 H2 → EntOk P w K C CD own j m' H1 X true → EntOk P w K C CD own j m' H2 X true := fun x e => e.fr x fun b hb => by
      have hb : b = h := hb
      rw [hb, h1]
      exact ⟨by decide, fun z => j1 z.symm⟩
    have lift : ∀ {H1 H2 : Hp}, FrM (· = h) H1 H2 → FrM (fun b => own b = 1 ∨ own b = j) H1 H2 := fun x => x.mono fun b hb => .inl (by
      have hb : b = h := hb
      rw [hb]
      exact h1)
    have mineF : ∀ {a : Addr} {H1 H2 : Hp}, a ∈ X.eight → FrM (· = a) H1 H2 → FrM (fun b => own b = 1 ∨ own b = j) H1 H2 := fun ha x => x.mono fun b hb => .inr (by
      have hb : b = _ := hb
      rw [hb]
      exact mine _ ha)
    have k0 : ∀ {a : Addr}, a ∈ X.eight → ∀ b, own b = 0 → ¬ b = a := fun ha b e z => jn (by rw [← mine _ ha, ← z]; exact e)
    have hn : ∀ {a : Addr}, a ∈ X.eight → ¬ h = a := fun ha z => j1 (by rw [← mine _ ha, ← z]; exact h1)
    have m_t : X.t ∈ X.eight := by simp
    have m_w : X.w ∈ X.eight := by simp
    have m_kd : X.kd ∈ X.eight := by simp
    have m_rd : X.rd ∈ X.eight := by simp
    have m_wa : X.wa ∈ X.eight := by simp
    have m_g : X.g ∈ X.eight := by simp
    have m_r : X.r ∈ X.eight := by simp
    have handF : ∀ {a : Addr} {H1 H2 : Hp}, a ∈ X.eight → FrM (· = a) H1 H2 → HandAt (fun b => own b = 0) H1 h → HandAt (fun b => own b = 0) H2 h := fun ha x e => e.fr x (k0 ha) (hn ha)
    -- the end of between
    obtain ⟨t2, pt2, ht2⟩ : ∃ t, PSs (cxOf CX0 P w K mg base NSt "_law_step" (defScope sLStep) f cdv A outer s H E).nox ((ifBody ((defBody sLStep).getD 2 (.Pass ⟨0, 0, 0, 0⟩))).drop 2) t ∧
        ∀ (lo hi : Str) (v3 v4 v5 : Option V) (D : Ends) (H' : Hp), D.rt = Q → KeyOk lo → KeyOk hi → FrM (fun b => own b = 1 ∨ own b = j) H H' → HandAt (fun b => own b = 0) H' h → EntOk P w K C CD own j m H' X true →
          t D [some (.ref h), some (.ref X.t), some (.ref X.c), v3, v4, v5, some (.str lo), some (.str hi), none, none] H' := by
      refine ⟨_, pss_cons (ps_set (i := 8) scStep.nd rfl (Or.inl rfl) (pe_m (pv 1) Mb hr (pa_cons (pv 6) (pa_cons (pv 7) pa_nil))))
        (pss_one (ps_ret (pe_and (pe_callB call_isi (by rfl) B.isi boot_isinstance (pa_cons (pv 8) (pa_cons (pe_bltn (v := .ty "list") (by rfl) B.list PyProof.Rows.boot_list rfl) pa_nil)))
          (pe_one (pe_cmpR (op_eqD hr.units) (pv 8) (pe_g GR hr (by rfl) (pa_cons (pv 2) (pa_cons (pv 6) (pa_cons (pv 7) pa_nil)))) (nomark _)))))), fun lo hi v3 v4 v5 D H' hD hlo hhi fr hh' ok => ?_⟩
      obtain ⟨b, ⟨W, w1, w2, w3⟩, ks, ⟨rows, rl, r1, r2, r3, r4, r5, r6, r7⟩, ds⟩ := id ok
      obtain ⟨S, s1, s2, s3⟩ := b.st
      have rowl : rows.length ≤ 60 := by
        have := nodup_le r1 fun q hq => (r2 q).mp hq
        rw [List.length_map, List.length_map] at this
        omega
      refine ⟨_, rfl, X.t, X.dx, _, rfl, b.t_, Tr.l_no (by decide +kernel), _, rfl, _, rfl, X.t, X.dx, X.tr true, W, S, rows, X.u, lo, hi, rfl, b.t_, rfl, hlo, hhi, w2, w1, r6, r3, by show rows.length ≤ 900; omega,
        b.wk.mono fun _ e => k0 m_rd _ e, s2, s1.wk, fun c x1 H4 s4 nx hx => ?_, fun c x1 xs ra H4 fr4 hrd4 hra4 nx hx hda => ?_⟩
      · -- nothing lies between
        refine ⟨_, rfl, _, _, _, _, true, rfl, .ty _, .base (.lst hx), kit_ty (by decide +kernel), true, rfl, iteT ?_⟩
        refine ⟨_, rfl, _, rfl, _, rfl, _, rfl, X.c, X.u, X.wa, X.g, X.r, W, S, rl, lo, hi, rfl, s4 _ _ b.c_, s4 _ _ w3, w1, s4 _ _ s2, s1.wk, s4 _ _ r7, by omega, fun _ x2 H5 s5 nx2 hx2 => ?_, fun c' => absurd c c'⟩
        refine ⟨.list [], .list [], .lst (SqL.of (s5 _ _ hx)) .nil, .lst (SqL.of hx2) .nil, rfl, rfl, ?_⟩
        rw [show PyData.eqv (.list []) (.list []) = true from SeqAt.eqv_refl _ rfl]
        rw [hD]
        have s45 := s4.trans s5
        exact q H5 (fr.grow s45) (hh'.same s45) ((ok.fr (M := fun _ => False) (FrM.same s45) (fun _ z => z.elim)).mono (Nat.le_succ m)) (ok.fr (M := fun _ => False) (FrM.same s45) (fun _ z => z.elim)).ds
      · refine ⟨_, rfl, _, _, _, _, true, rfl, .ty _, .base (.lst hx), kit_ty (by decide +kernel), true, rfl, iteT ?_⟩
        have xr : x1 ≠ X.r := fun e => by rw [e, r7] at nx; cases nx
        have hwa4 := fr4.at w3 (fun e => rd_wa (Eq.symm e))
        have hr4 := fr4.at r7 (fun e => rd_r (Eq.symm e))
        have b4 := b.fr fr4 (k0 m_rd) t_rd
        refine ⟨_, rfl, _, rfl, _, rfl, _, rfl, X.c, X.u, X.wa, X.g, X.r, W, S, rl, lo, hi, rfl, b4.c_, hwa4, w1, fr4.at s2 (k0 m_rd _ b.ou), s1.wk, hr4, by omega, fun c' => absurd c' c, fun _ x2 xs2 rb H5 fr5 hr5 hrb nx2 hx2 hda2 => ?_⟩
        have hrow := toldF_row (foundF_wk (lo := lo) (hi := hi) s1.wk w1)
        have hx5 := fr5.at hx xr
        refine ⟨.list _, .list _, .lst (SqL.of hx5) (DpAll.tups fr5.tups _ _ (noLAll_map _ prData_noL _) hda), .lst (SqL.of hx2) hda2, listP_shaped hrow, listP_shaped hrow, ?_⟩
        rw [listP_refl hrow, hD]
        have w4 : EWr H4 X := EWr.fr ⟨W, w1, w2, w3⟩ fr4 w_rd (fun e => rd_wa (Eq.symm e))
        have k4 := ks.fr fr4 kd_rd (fun e => rd_g (Eq.symm e))
        have d4 := ds.fr fr4 (k0 m_rd) (fun e => rd_dl (Eq.symm e))
        have rgok : RgOk (lo, hi, ownF W lo hi) := ownF_rg w1 hlo hhi (List.not_lt.mp c)
        refine q H5 (fr.trans ((mineF m_rd fr4).trans (mineF m_r fr5))) (handF m_r fr5 (handF m_rd fr4 hh')) ⟨b4.fr fr5 (k0 m_r) t_r, w4.fr fr5 w_r wa_r, (k4.fr fr5 kd_r g_r).mono (Nat.le_succ m), ?_, (d4.fr fr5 (k0 m_r) (fun e => r_dl (Eq.symm e))).mono (Nat.le_succ m)⟩ (d4.fr fr5 (k0 m_r) (fun e => r_dl (Eq.symm e)))
        refine ⟨putR rows ra (lo, hi, ownF W lo hi), rl ++ [(rb, (lo, hi, ownF W lo hi))], putR_nodup r1, fun qq => putR_mem r2, fun p hp => ?_, fun p hp => ?_, by rw [List.length_append, List.length_singleton]; omega, fr5.at hrd4 rd_r, hr5⟩
        · refine Dp.tups fr5.tups _ _ (rgData_noL _) ?_
          rcases putR_sub hp with hp | rfl
          · exact Dp.tups fr4.tups _ _ (rgData_noL _) (r3 p hp)
          · exact hra4
        · rcases List.mem_append.mp hp with hp | hp
          · exact ⟨Dp.tups (FrM.trans' fr4 fr5) _ _ (rgData_noL _) (r4 p hp).1, (r4 p hp).2⟩
          · rw [List.mem_singleton.mp hp]
            exact ⟨hrb, rgok⟩
    refine ⟨_, pss_cons (ps_par (i := 3) (j := 4) (by rfl) scStep.nd rfl rfl (by decide) rfl rfl (pa_cons (pe_g GD hr (by rfl) (pa_cons (pv 0) (pa_cons pe_int pa_nil))) (pa_cons (pe_g GK hr (by rfl) (pa_cons (pv 0) pa_nil)) pa_nil)) (by rfl))
      (pss_cons (ps_if (pt_cmpR op_lt (pv 3) pe_int (nomark _)) (pss_one (ps_ret (pe_cmpR op_eq (pe_m (pv 1) Mg hr (pa_cons (pv 4) pa_nil)) (pe_g GG hr (by rfl) (pa_cons (pv 2) (pa_cons (pv 4) pa_nil))) (nomark _)))) pss_nil)
      (pss_cons (ps_if (pt_cmpR op_lt (pv 3) pe_int (nomark _))
        (pss_cons (ps_set (i := 5) scStep.nd rfl (Or.inl rfl) (pe_g GK hr (by rfl) (pa_cons (pv 0) pa_nil)))
        (pss_cons (ps_asg (pe_ifExp (pt_cmpR op_eq (pe_g GD hr (by rfl) (pa_cons (pv 0) (pa_cons pe_int pa_nil))) pe_int (nomark _)) (pe_tup (pa_cons (pv 4) (pa_cons (pv 5) pa_nil)))
            (pe_tup (pa_cons (pe_callB (call_minS rfl) (by rfl) B.min PyProof.Rows.boot_min (pa_cons (pv 4) (pa_cons (pv 5) pa_nil))) (pa_cons (pe_callB (call_maxS rfl) (by rfl) B.max PyProof.Rows.boot_max (pa_cons (pv 4) (pa_cons (pv 5) pa_nil))) pa_nil))))
          (pg_tup rfl (pgs_cons (pg_name (i := 6) scStep.nd rfl (Or.inl rfl)) (pgs_cons (pg_name (i := 7) scStep.nd rfl (Or.inl rfl)) pgs_nil)))) pt2)) pss_nil)
      (pss_cons (ps_if (pt_cmpR op_lt (pv 3) pe_int (nomark _))
        (pss_cons (ps_set (i := 9) scStep.nd rfl (Or.inl rfl) (pe_g GW hr (by rfl) (pa_cons (pv 0) pa_nil)))
        (pss_cons (ps_dput (hu_of hr) (pe_dget (hu_of hr) (pv 2) pe_str (fun _ _ => rfl)) (pv 4) (pv 9) rfl)
        (pss_one (ps_ret (pe_cmpR op_isN (pe_m (pv 1) Mp hr (pa_cons (pv 4) (pa_cons (pv 9) pa_nil))) pe_non (nomark _)))))) pss_nil)
      (pss_cons (ps_dput (hu_of hr) (pe_dget (hu_of hr) (pv 2) pe_str (fun _ _ => rfl)) (pv 4) pe_non rfl)
      (pss_one (ps_ret (pe_cmpR op_isN (pe_m (pv 1) Md hr (pa_cons (pv 4) pa_nil)) pe_non (nomark _)))))))), ?_⟩
    refine ⟨_, rfl, _, h, 10, rfl, hh, by decide, by decide, fun d H1 d0 d1 fr1 hh1 => ?_⟩
    refine ⟨_, rfl, _, h, rfl, hh1, fun k H2 hk fr2 hh2 => ?_⟩
    have fr02 := fr1.trans fr2
    have ok2 := drawn fr02 ok0
    refine ⟨_, _, rfl, ?_⟩
    refine ⟨_, rfl, _, _, rfl, rfl, _, rfl, ?_⟩
    refine ite2 (fun _ => ?_) fun _ => ?_
    · -- a get
      obtain ⟨b, ⟨W, w1, w2, w3⟩, ⟨G, gl, g1, g2, g3, g4, g5, g6⟩, rs, ds⟩ := id ok2
      obtain ⟨S, s1, s2, s3⟩ := b.st
      have gle : G.length ≤ 900 := by
        have := nodup_le (m := key10) g1 g3
        exact Nat.le_trans this (by decide)
      have nu : X.kd ≠ X.u := fun e => k0 m_kd _ b.ou e.symm
      refine ⟨_, rfl, X.t, X.dx, _, rfl, b.t_, Tr.l_no (by decide +kernel), _, rfl, X.t, X.dx, X.tr true, W, S, G, X.u, k, rfl, b.t_, rfl, hk, w2, g5, gle, b.lk.mono fun _ _ => trivial, s2, nu, fun v ev H4 s4 => ?_, fun en H4 fr4 hkd4 => ?_⟩
      · refine ⟨_, rfl, _, rfl, X.c, X.u, X.wa, X.g, X.r, W, S, gl, k, rfl, s4 _ _ b.c_, s4 _ _ w3, s4 _ _ g6, s4 _ _ s2, by omega, fun v' ev' => ?_, fun en => absurd (en.symm.trans ev) (fun z => nomatch z)⟩
        have e : v = v' := Option.some.inj (ev.symm.trans ev')
        subst e
        refine ⟨scal_self (w1.vok ev), ?_⟩
        rw [decide_eq_true rfl]
        exact q H4 ((lift fr02).grow s4) (hh2.same s4) ((ok2.fr (M := fun _ => False) (FrM.same s4) (fun _ z => z.elim)).mono (Nat.le_succ m)) (ok2.fr (M := fun _ => False) (FrM.same s4) (fun _ z => z.elim)).ds
      · have hwa4 := fr4.at w3 (fun e => kd_wa (Eq.symm e))
        have hg4 := fr4.at g6 (fun e => kd_g (Eq.symm e))
        have b4 := b.fr fr4 (k0 m_kd) t_kd
        refine ⟨_, rfl, _, rfl, X.c, X.u, X.wa, X.g, X.r, W, S, gl, k, rfl, b4.c_, hwa4, hg4, fr4.at s2 (k0 m_kd _ b.ou), by omega, fun v ev => absurd (en.symm.trans ev) (fun z => nomatch z), fun _ H5 fr5 hg5 => ?_⟩
        refine ⟨scal_self (s1.vok _), ?_⟩
        rw [decide_eq_true rfl]
        have w4 : EWr H4 X := EWr.fr ⟨W, w1, w2, w3⟩ fr4 w_kd (fun e => kd_wa (Eq.symm e))
        have r4 := rs.fr fr4 (fun e => kd_rd (Eq.symm e)) (fun e => kd_r (Eq.symm e))
        have d4 := ds.fr fr4 (k0 m_kd) (fun e => kd_dl (Eq.symm e))
        refine q H5 ((lift fr02).trans ((mineF m_kd fr4).trans (mineF m_g fr5))) (handF m_g fr5 (handF m_kd fr4 hh2)) ⟨b4.fr fr5 (k0 m_g) t_g, w4.fr fr5 w_g wa_g, ⟨addG G k, gl ++ [k], addG_nodup g1, fun x => addG_mem g2, fun x hx => ?_, ?_, fr5.at hkd4 kd_g, hg5⟩,
          (r4.fr fr5 rd_g (fun e => g_r (Eq.symm e))).mono (Nat.le_succ m), (d4.fr fr5 (k0 m_g) (fun e => g_dl (Eq.symm e))).mono (Nat.le_succ m)⟩ (d4.fr fr5 (k0 m_g) (fun e => g_dl (Eq.symm e)))
        · rcases List.mem_append.mp ((addG_mem g2).mp hx) with hx | hx
          · exact g3 x ((g2 x).mpr hx)
          · rw [List.mem_singleton.mp hx]
            exact hk
        · rw [List.length_append, List.length_singleton]
          omega
    refine ⟨_, rfl, _, _, rfl, rfl, _, rfl, ?_⟩
    refine ite2 (fun _ => ?_) fun _ => ?_
    · -- between
      refine ⟨_, rfl, _, h, rfl, hh2, fun o H3 ho fr3 hh3 => ?_⟩
      refine ⟨_, rfl, _, h, 4, rfl, hh3, by decide, by decide, fun d' H4 d0' d1' fr4 hh4 => ?_⟩
      have fr04 := fr02.trans (fr3.trans fr4)
      have ok4 := drawn fr04 ok0
      refine ⟨rfl, _, rfl, ?_⟩
      have fin : ∀ (D : Ends), D.rt = Q → ∀ (T : Addr) (lo hi : Str), KeyOk lo → KeyOk hi → H4 T = none → _ := fun D hD T lo hi hlo hhi nT => ht2 lo hi (some (.int d)) (some (.str k)) (some (.str o)) D (upd H4 T (.tup [.str lo, .str hi])) hD hlo hhi
        ((lift fr04).grow (Same.new (Same.refl _) nT)) (hh4.same (Same.new (Same.refl _) nT)) (ok4.fr (M := fun _ => False) (FrM.same (Same.new (Same.refl _) nT)) (fun _ z => z.elim))
      refine ite2 (fun _ => ?_) fun _ => ?_
      · refine ⟨_, rfl, _, rfl, (by show 2 ≤ sizeLine; decide), fun T nT => ⟨T, _, rfl, SqT.of upd_same, rfl, _, _, rfl, _, _, rfl, rfl, ?_⟩⟩
        exact fin _ rfl T k o hk ho nT
      · refine ⟨_, rfl, _, rfl, k, o, rfl, ⟨_, rfl, _, rfl, k, o, rfl, ⟨(by show 2 ≤ sizeLine; decide), fun T nT => ⟨T, _, rfl, SqT.of upd_same, rfl, _, _, rfl, _, _, rfl, rfl, ?_⟩⟩, ⟨(by show 2 ≤ sizeLine; decide), fun T nT => ⟨T, _, rfl, SqT.of upd_same, rfl, _, _, rfl, _, _, rfl, rfl, ?_⟩⟩⟩,
          ⟨_, rfl, _, rfl, k, o, rfl, ⟨(by show 2 ≤ sizeLine; decide), fun T nT => ⟨T, _, rfl, SqT.of upd_same, rfl, _, _, rfl, _, _, rfl, rfl, ?_⟩⟩, ⟨(by show 2 ≤ sizeLine; decide), fun T nT => ⟨T, _, rfl, SqT.of upd_same, rfl, _, _, rfl, _, _, rfl, rfl, ?_⟩⟩⟩⟩
        · exact fin _ rfl T k k hk hk nT
        · exact fin _ rfl T k o hk ho nT
        · exact fin _ rfl T o k ho hk nT
        · exact fin _ rfl T o o ho ho nT
    refine ⟨_, rfl, _, _, rfl, rfl, _, rfl, ?_⟩
    refine ite2 (fun _ => ?_) fun _ => ?_
    · -- a put
      refine ⟨_, rfl, _, h, rfl, hh2, fun z H3 hz fr3 hh3 => ?_⟩
      have fr03 := fr02.trans fr3
      obtain ⟨b, ⟨W, w1, w2, w3⟩, ks, rs, ds⟩ := drawn fr03 ok0
      have wl : W.length ≤ 900 := Nat.le_trans w1.len (by decide)
      refine ⟨_, rfl, _, rfl, X.c, _, rfl, DGet.of b.c_ acK_w, _, rfl, X.wa, _, rfl, DPut.k (k := Sum.inr k) w3 (small1000 (by omega)), ?_⟩
      have fr4 : FrM (· = X.wa) H3 (upd H3 X.wa (.dK (putK W (.inr k) (.int z)))) := FrM.upd (M := fun b => b = X.wa) FrM.refl w3 rfl rfl
      have b4 := b.fr fr4 (k0 m_wa) t_wa
      have hw4 := fr4.at w2 w_wa
      refine ⟨_, rfl, X.t, X.dx, _, rfl, b4.t_, Tr.l_no (by decide +kernel), _, rfl, _, rfl, X.t, X.dx, X.tr true, W, k, z, rfl, b4.t_, rfl, hk, hz, hw4, wl, fun H5 fr5 hw5 => ⟨rfl, ?_⟩⟩
      have k4 := ks.fr fr4 kd_wa (fun e => wa_g (Eq.symm e))
      have r4 := rs.fr fr4 rd_wa (fun e => wa_r (Eq.symm e))
      have d4 := ds.fr fr4 (k0 m_wa) (fun e => wa_dl (Eq.symm e))
      rw [decide_eq_true rfl]
      exact q H5 ((lift fr03).trans ((mineF m_wa fr4).trans (mineF m_w fr5))) (handF m_w fr5 (handF m_wa fr4 hh3)) ⟨b4.fr fr5 (k0 m_w) t_w, ⟨_, w1.put hk (.inr ⟨z, rfl, hz⟩), hw5, fr5.at upd_same (fun e => w_wa (Eq.symm e))⟩,
        (k4.fr fr5 (fun e => w_kd (Eq.symm e)) (fun e => w_g (Eq.symm e))).mono (Nat.le_succ m), (r4.fr fr5 (fun e => w_rd (Eq.symm e)) (fun e => w_r (Eq.symm e))).mono (Nat.le_succ m), (d4.fr fr5 (k0 m_w) (fun e => w_dl (Eq.symm e))).mono (Nat.le_succ m)⟩ (d4.fr fr5 (k0 m_w) (fun e => w_dl (Eq.symm e)))
    · -- a drop
      obtain ⟨b, ⟨W, w1, w2, w3⟩, ks, rs, ds⟩ := ok2
      have wl : W.length ≤ 900 := Nat.le_trans w1.len (by decide)
      refine ⟨_, rfl, X.c, _, rfl, DGet.of b.c_ acK_w, _, rfl, X.wa, _, rfl, DPut.k (k := Sum.inr k) w3 (small1000 (by omega)), ?_⟩
      have fr4 : FrM (· = X.wa) H2 (upd H2 X.wa (.dK (putK W (.inr k) .non))) := FrM.upd (M := fun b => b = X.wa) FrM.refl w3 rfl rfl
      have b4 := b.fr fr4 (k0 m_wa) t_wa
      have hw4 := fr4.at w2 w_wa
      refine ⟨_, rfl, X.t, X.dx, _, rfl, b4.t_, Tr.l_no (by decide +kernel), _, rfl, X.t, X.dx, X.tr true, W, k, rfl, b4.t_, rfl, hk, hw4, wl, fun H5 fr5 hw5 => ⟨rfl, ?_⟩⟩
      have k4 := ks.fr fr4 kd_wa (fun e => wa_g (Eq.symm e))
      have r4 := rs.fr fr4 rd_wa (fun e => wa_r (Eq.symm e))
      have d4 := ds.fr fr4 (k0 m_wa) (fun e => wa_dl (Eq.symm e))
      rw [decide_eq_true rfl]
      exact q H5 ((lift fr02).trans ((mineF m_wa fr4).trans (mineF m_w fr5))) (handF m_w fr5 (handF m_wa fr4 hh2)) ⟨b4.fr fr5 (k0 m_w) t_w, ⟨_, w1.put hk (.inl rfl), hw5, fr5.at upd_same (fun e => w_wa (Eq.symm e))⟩,
        (k4.fr fr5 (fun e => w_kd (Eq.symm e)) (fun e => w_g (Eq.symm e))).mono (Nat.le_succ m), (r4.fr fr5 (fun e => w_rd (Eq.symm e)) (fun e => w_r (Eq.symm e))).mono (Nat.le_succ m), (d4.fr fr5 (k0 m_w) (fun e => w_dl (Eq.symm e))).mono (Nat.le_succ m)⟩ (d4.fr fr5 (k0 m_w) (fun e => w_dl (Eq.symm e)))
end
end L2.K47
/-! K47, part I6: an entry is made -/
namespace L2.K47
open PySem PySem.Spec PyProof.Rows LamX NdefX

theorem heap_of (n : Nat) : ∃ h : Heap, h.objs.size = n := by
  induction n with
  | zero => exact ⟨{}, rfl⟩
  | succ n ih =>
    obtain ⟨h, e⟩ := ih
    exact ⟨h.push { cls := .type "dict", data := .dict #[] }, by rw [Heap.size_push, e]⟩
theorem ndict_code {P : Program} {w : World} {r : Addr} {rows : List (Addr × Rg)} {q : Str} : NDictO P w r rows ≠ CodeO r q := fun z => by
  unfold NDictO CodeO at z
  injection z with z
  obtain ⟨h, e⟩ := heap_of r
  have hg : (h.push { cls := .type "code", data := .fields #[.none, .str q 0] }).get? r = some { cls := .type "code", data := .fields #[.none, .str q 0] } := by
    rw [← e]
    exact Heap.get?_push_size _ rfl
  have hc : (∃ (oc : Obj) (vs : Array Value) (t : Tok), (h.push { cls := .type "code", data := .fields #[.none, .str q 0] }).get? r = some oc ∧ oc.data = .fields vs ∧ vs[1]? = some (.str q t)) := ⟨_, _, 0, hg, rfl, rfl⟩
  rw [← congrFun z (h.push { cls := .type "code", data := .fields #[.none, .str q 0] })] at hc
  have hc : NDict P w (h.push { cls := .type "code", data := .fields #[.none, .str q 0] }) r rows := hc
  obtain ⟨o, es, ep, ho, _, hd, _⟩ := hc
  rw [hg] at ho
  cases Option.some.inj ho
  cases hd
theorem Tabs.frm {T : List (Addr × Str)} {H H' : Hp} {h : Addr} {l : List V} (t : Tabs T H) (x : FrM (· = h) H H') (hh : H h = some (.lst l)) : Tabs T H' := fun p hp => by
  obtain ⟨ps, a1, a2, a3⟩ := t p hp
  refine ⟨ps, x.at a1 (ne_of a1 hh (by intro z; cases z)), a2, fun p' cv hcv => ?_⟩
  obtain ⟨c0, e1, e2⟩ := a3 p' cv hcv
  exact ⟨c0, e1, x.at e2 (ne_of e2 hh (by unfold CodeO; intro z; cases z))⟩
/-- what was not there, and code objects of the lambdas -/
abbrev NewOr (H : Hp) (b : Addr) : Prop := H b = none ∨ H b = some (CodeO b qLam)
section
variable {P : Program} {w : World} {K : PySem.W.Frag} {mg : Str → Option Value} {base : Heap} {f C CD cc Pt : Addr} {fd : FuncData}
abbrev TabL (Pt : Addr) : List (Addr × Str) := [(Pt, qLam)]
def spMadeOver (P : Program) (w : World) (C Pt : Addr) : Sp := fun vs H Q _ => ∃ (u : Addr) (n : Int), vs = [.ref u, .int n] ∧ Tabs (TabL Pt) H ∧ ∀ (t dx fl fw a k r : Addr) (H' : Hp), FrM (· = Pt) H H' → Tabs (TabL Pt) H' → H t = none → H a = none → H k = none → H r = none → a ≠ k →
  H' t = some (.ins C dx (Tr.fs ⟨n, fl, fw, a, k, r, true⟩)) → H' a = some (.dK []) → H' k = some (.dK []) → H' r = some (NDictO P w r []) → LookAt (fun b => NewOr H b ∧ b ∉ [t, a, k, r]) H' fl u → WalkAt (fun b => NewOr H b ∧ b ∉ [t, a, k, r]) H' fw u → Q (.ref t) H'
theorem hfree1 : ∀ y ∈ (lamParts 1).2.2.names, y.2 = .free → (defScope sLMadeOver).names.lookup y.1 = some .cell := by decide +kernel
theorem hfree2 : ∀ y ∈ (lamParts 2).2.2.names, y.2 = .free → (defScope sLMadeOver).names.lookup y.1 = some .cell := by decide +kernel
theorem scMadeOver : FnScope ["_law_state", "_law_number"] ["_law_state", "_law_number"] (defScope sLMadeOver) := ⟨rfl, rfl, rfl, by decide +kernel, rfl, by decide +kernel, by decide +kernel⟩
theorem newOr_back {H H1 : Hp} {b : Addr} (fr : FrM (· = Pt) H H1) (hP : ∃ ps, H1 Pt = some (.tbl ps)) (h : NewOr H1 b) : NewOr H b := by
  rcases h with h | h
  · exact .inl (fr.free h)
  · by_cases e : H b = none
    · exact .inl e
    · obtain ⟨o, e⟩ := Option.ne_none_iff_exists'.mp e
      obtain ⟨ps, hP⟩ := hP
      have ne : b ≠ Pt := ne_of h hP (by unfold CodeO; intro z; cases z)
      exact .inr (e.trans ((fr.at e ne).symm.trans h))
theorem ok_madeOver (F : Fun K "_law_made_over" "_law_made_over" sLMadeOver f fd) (hcc : fd.code = .ref cc) (TB : TabB base mg cc Pt) (G : COk P w K mg base C 1 "Transaction" (spTInit P w C)) : FnOk P w K mg base CX0 3 f fd ["_law_state", "_law_number"] (spMadeOver P w C Pt) := by
  refine ok_retCell (N := ["_law_state", "_law_number"]) (y := "_law_state") (i := 0) (sp := spMadeOver P w C Pt) F hcc scMadeOver rfl rfl rfl (fun vs H Q E h => ?_) (fun A outer s H vs Q E c z hr h hc hz hn => ?_) fun vs H Q E h => ?_
  · obtain ⟨u, n, rfl, _⟩ := h
    rfl
  · obtain ⟨u, n, rfl, hT, q⟩ := h
    have ez : z = .ref u := by
      have hz : some (some (V.ref u)) = some (some z) := hz
      exact (Option.some.inj (Option.some.inj hz)).symm
    subst ez
    refine ⟨_, pe_c G hr (by rfl) (pa_cons (pv 1) (pa_cons (pe_lamb (T := TabL Pt) (c := cc) (P := Pt) TB rfl (List.mem_singleton.mpr rfl) (fun p hp _ => by rw [List.mem_singleton.mp hp]; rfl) rfl (fun y hy e => .inl (hfree1 y hy e)))
      (pa_cons (pe_lamb (T := TabL Pt) (c := cc) (P := Pt) TB rfl (List.mem_singleton.mpr rfl) (fun p hp _ => by rw [List.mem_singleton.mp hp]; rfl) rfl (fun y hy e => .inl (hfree2 y hy e))) pa_nil))), ?_⟩
    refine ⟨_, rfl, hT, fun fl c1 H1 fr1 T1 f0 c10 f1 c11 => ⟨T1, fun fw c2 H2 fr2 T2 g0 c20 g1 c21 => ?_⟩⟩
    intro t dx nt ndx ne
    refine ⟨t, dx, n, fl, fw, rfl, upd_same, fun a k r H3 h3t na nk nr ak ha hk hr' k3 => ⟨rfl, fun h3c => ?_⟩⟩
    have elook : ∀ c', (⟨qLam, (lamParts 1).1, (lamParts 1).2.1, (lamParts 1).2.2, cloFrom (cellsFrom (s.heap.objs.size + 1) (defScope sLMadeOver).names []) (lamParts 1).2.2.names [], c'⟩ : LM) = mkLook c c' := fun c' => by
      have e : cloFrom (cellsFrom (s.heap.objs.size + 1) (defScope sLMadeOver).names []) (lamParts 1).2.2.names [] = [(("_law_state" : Str), ((cellsFrom (s.heap.objs.size + 1) (defScope sLMadeOver).names []).lookup ("_law_state" : Str)).getD 0)] := rfl
      rw [e, hc]
      rfl
    have ewalk : ∀ c', (⟨qLam, (lamParts 2).1, (lamParts 2).2.1, (lamParts 2).2.2, cloFrom (cellsFrom (s.heap.objs.size + 1) (defScope sLMadeOver).names []) (lamParts 2).2.2.names [], c'⟩ : LM) = mkWalk c c' := fun c' => by
      have e : cloFrom (cellsFrom (s.heap.objs.size + 1) (defScope sLMadeOver).names []) (lamParts 2).2.2.names [] = [(("_law_state" : Str), ((cellsFrom (s.heap.objs.size + 1) (defScope sLMadeOver).names []).lookup ("_law_state" : Str)).getD 0)] := rfl
      rw [e, hc]
      rfl
    have f1' : H1 fl = some (LamO fl (mkLook c c1)) := by rw [← elook]; exact f1
    have g1' : H2 fw = some (LamO fw (mkWalk c c2)) := by rw [← ewalk]; exact g1
    have c11' : H1 c1 = some (CodeO c1 qLam) := c11
    have c21' : H2 c2 = some (CodeO c2 qLam) := c21
    obtain ⟨ps1, hP1, _⟩ := T1 (Pt, qLam) (List.mem_singleton.mpr rfl)
    have hP1 : H1 Pt = some (.tbl ps1) := hP1
    have fr12 := fr1.trans fr2
    have sM : Same H2 (upd (upd H2 dx (.own t)) t (.ins C dx [])) := Same.new (Same.new (Same.refl _) ndx) (by rw [upd_ne ne.symm]; exact nt)
    have s23 : Same H2 H3 := Same.made nt ndx k3
    have s34 : Same H3 (upd H3 c (CellO c (.ref u))) := Same.new (Same.refl _) h3c
    have s24 := s23.trans s34
    have frF : FrM (· = Pt) H (upd H3 c (CellO c (.ref u))) := fr12.grow s24
    have f2 : H2 fl = some (LamO fl (mkLook c c1)) := fr2.at f1' (ne_of f1' hP1 (by unfold LamO; intro z; cases z))
    have c12 : H2 c1 = some (CodeO c1 qLam) := fr2.at c11' (ne_of c11' hP1 (by unfold CodeO; intro z; cases z))
    have n1 : NewOr H c1 := c10
    have n2 : NewOr H1 c2 := c20
    have na2 := sM.free na
    have nk2 := sM.free nk
    have nr2 := sM.free nr
    have apart : ∀ {b : Addr} {o : HO}, H2 b = some o → b ∉ [t, a, k, r] := fun {b o} e m => by
      simp only [List.mem_cons, List.not_mem_nil, or_false] at m
      rcases m with rfl | rfl | rfl | rfl
      · rw [nt] at e; cases e
      · rw [na2] at e; cases e
      · rw [nk2] at e; cases e
      · rw [nr2] at e; cases e
    have apartc : c ∉ [t, a, k, r] := fun m => by
      simp only [List.mem_cons, List.not_mem_nil, or_false] at m
      rcases m with rfl | rfl | rfl | rfl
      · rw [h3t] at h3c; cases h3c
      · rw [ha] at h3c; cases h3c
      · rw [hk] at h3c; cases h3c
      · rw [hr'] at h3c; cases h3c
    exact q t dx fl fw a k r _ frF ((T2.ext s23).ext s34) (fr12.free nt) (fr12.free na2) (fr12.free nk2) (fr12.free nr2) ak (s34 _ _ h3t) (s34 _ _ ha) (s34 _ _ hk) (s34 _ _ hr')
      ⟨c, c1, s24 _ _ f2, s24 _ _ c12, upd_same, ⟨.inl f0, apart f2⟩, ⟨n1, apart c12⟩, .inl hn, apartc⟩
      ⟨c, c2, s24 _ _ g1', s24 _ _ c21', upd_same, ⟨.inl (fr1.free g0), apart g1'⟩, ⟨newOr_back fr1 ⟨ps1, hP1⟩ n2, apart c21'⟩, .inl hn, apartc⟩
  · obtain ⟨u, n, rfl, _⟩ := h
    exact ⟨_, rfl⟩
end
end L2.K47
/-! K47, part I7: a new entry; its dealing is made -/
namespace L2.K47
open PySem PySem.Spec PyProof.Rows LamX NdefX

theorem mk8 {a0 a1 a2 a3 a4 a5 a6 a7 : Addr} (h : (a0 ≠ a1 ∧ a0 ≠ a2 ∧ a0 ≠ a3 ∧ a0 ≠ a4 ∧ a0 ≠ a5 ∧ a0 ≠ a6 ∧ a0 ≠ a7) ∧ (a1 ≠ a2 ∧ a1 ≠ a3 ∧ a1 ≠ a4 ∧ a1 ≠ a5 ∧ a1 ≠ a6 ∧ a1 ≠ a7) ∧
    (a2 ≠ a3 ∧ a2 ≠ a4 ∧ a2 ≠ a5 ∧ a2 ≠ a6 ∧ a2 ≠ a7) ∧ (a3 ≠ a4 ∧ a3 ≠ a5 ∧ a3 ≠ a6 ∧ a3 ≠ a7) ∧ (a4 ≠ a5 ∧ a4 ≠ a6 ∧ a4 ≠ a7) ∧ (a5 ≠ a6 ∧ a5 ≠ a7) ∧ a6 ≠ a7) : [a0, a1, a2, a3, a4, a5, a6, a7].Nodup := by
  simpa [List.nodup_cons, not_or] using h
theorem mem8 {b a0 a1 a2 a3 a4 a5 a6 a7 : Addr} {p : Addr → Prop} (h0 : p a0) (h1 : p a1) (h2 : p a2) (h3 : p a3) (h4 : p a4) (h5 : p a5) (h6 : p a6) (h7 : p a7) (m : b ∈ [a0, a1, a2, a3, a4, a5, a6, a7]) : p b := by
  simp only [List.mem_cons, List.not_mem_nil, or_false] at m
  rcases m with rfl | rfl | rfl | rfl | rfl | rfl | rfl | rfl <;> assumption
section
variable {N M : Addr → Prop} {H : Hp} {fl u : Addr}
theorem LookAt.mono' (h : LookAt N H fl u) (k : ∀ b o, H b = some o → N b → M b) : LookAt M H fl u := let ⟨c, cd, a, b, d, n1, n2, n3⟩ := h; ⟨c, cd, a, b, d, k _ _ a n1, k _ _ b n2, k _ _ d n3⟩
theorem WalkAt.mono' (h : WalkAt N H fl u) (k : ∀ b o, H b = some o → N b → M b) : WalkAt M H fl u := let ⟨c, cd, a, b, d, n1, n2, n3⟩ := h; ⟨c, cd, a, b, d, k _ _ a n1, k _ _ b n2, k _ _ d n3⟩
end
/-- an entry that has just been made over the state S at u -/
structure EntNew (P : Program) (w : World) (C : Addr) (H H' : Hp) (X : Ent) (S : KVs) (u : Addr) (n : Int) : Prop where
  hu : X.u = u
  hn : X.n = n
  fr8 : ∀ b ∈ X.eight, H b = none
  nd : X.eight.Nodup
  fe : H X.e = none ∧ X.e ∉ X.eight
  fc : H X.c = none ∧ X.c ∉ X.eight
  fk : H X.k = none ∧ X.k ∉ X.eight
  e_ : H' X.e = some (.lst [.ref X.t, .ref X.c, .int X.n, .ref X.dl, .ref X.u, .ref X.k])
  t_ : H' X.t = some (.ins C X.dx (X.tr true).fs)
  c_ : H' X.c = some (.dK (acK X.u X.wa X.g X.r))
  lk : LookAt (fun b => NewOr H b ∧ b ∉ X.eight) H' X.fl X.u
  wk : WalkAt (fun b => NewOr H b ∧ b ∉ X.eight) H' X.fw X.u
  u_ : H' X.u = some (.dK S)
  k_ : H' X.k = some (.dK S)
  w_ : H' X.w = some (.dK [])
  kd_ : H' X.kd = some (.dK [])
  rd_ : H' X.rd = some (NDictO P w X.rd [])
  wa_ : H' X.wa = some (.dK [])
  g_ : H' X.g = some (.lst [])
  r_ : H' X.r = some (.lst [])
  dl_ : H' X.dl = some (.lst [])
def CodeOwn (own : Addr → Nat) (H : Hp) : Prop := ∀ b, H b = some (CodeO b qLam) → own b = 0
/-- own, and the entry's things are j's -/
def ownNew (own : Addr → Nat) (X : Ent) (j : Nat) : Addr → Nat := fun b => if b ∈ X.eight then j else own b
section
variable {P : Program} {w : World} {K : PySem.W.Frag} {C CD : Addr} {own : Addr → Nat} {j m : Nat} {H H' : Hp} {X : Ent} {S : KVs} {u Pt : Addr} {n : Int}
theorem ownNew_in {b : Addr} (h : b ∈ X.eight) : ownNew own X j b = j := if_pos h
theorem ownNew_out {b : Addr} (h : b ∉ X.eight) : ownNew own X j b = own b := if_neg h
theorem ownNew_old (h : EntNew P w C H H' X S u n) {b : Addr} {o : HO} (e : H b = some o) : ownNew own X j b = own b := ownNew_out fun m => by
  rw [h.fr8 b m] at e
  cases e
theorem EntNew.ok (h : EntNew P w C H H' X S u n) (D : OwnDom own H) (Co : CodeOwn own H) (hS : SK S) (n0 : 0 ≤ n) (jn : j ≠ 0) (ou : own u = 0) (hu0 : ∃ o, H u = some o) : EntOk P w K C CD (ownNew own X j) j m H' X true := by
  have nw : ∀ b, NewOr H b ∧ b ∉ X.eight → ownNew own X j b = 0 := fun b ⟨h1, h2⟩ => (ownNew_out h2).trans (h1.elim (fun e => D.new e) fun e => Co b e)
  refine ⟨⟨h.e_, h.t_, h.c_, by rw [h.hn]; exact n0, h.lk.mono nw, h.wk.mono nw, ⟨S, hS, h.u_, h.k_⟩, h.nd, fun b hb => ownNew_in hb, (ownNew_out h.fe.2).trans (D.new h.fe.1), (ownNew_out h.fc.2).trans (D.new h.fc.1), ?_, (ownNew_out h.fk.2).trans (D.new h.fk.1), jn⟩,
    ⟨[], .nil, h.w_, h.wa_⟩, ⟨[], [], List.nodup_nil, fun k => Iff.rfl, fun k hk => (by cases hk), Nat.zero_le _, h.kd_, h.g_⟩, ⟨[], [], List.nodup_nil, fun k => Iff.rfl, fun p hp => (by cases hp), fun p hp => (by cases hp), Nat.zero_le _, h.rd_, h.r_⟩,
    ⟨[], h.dl_, Nat.zero_le _, fun q hq => (by cases hq)⟩⟩
  obtain ⟨o, ho⟩ := hu0
  rw [h.hu]
  exact (ownNew_old h ho).trans ou
theorem EntNew.dom (h : EntNew P w C H H' X S u n) (D : OwnDom own H) (x : FrM (· = Pt) H H') : OwnDom (ownNew own X j) H' := fun b hb => by
  by_cases m : b ∈ X.eight
  · exact mem8 (p := fun b => ∃ o, H' b = some o) ⟨_, h.t_⟩ ⟨_, h.w_⟩ ⟨_, h.kd_⟩ ⟨_, h.rd_⟩ ⟨_, h.wa_⟩ ⟨_, h.g_⟩ ⟨_, h.r_⟩ ⟨_, h.dl_⟩ m
  · rw [ownNew_out m] at hb
    exact D.fr x b hb
theorem EntNew.code (h : EntNew P w C H H' X S u n) (D : OwnDom own H) (Co : CodeOwn own H) (x : FrM (· = Pt) H H') (hP : ∃ ps, H' Pt = some (.tbl ps)) : CodeOwn (ownNew own X j) H' := fun b hb => by
  have m : b ∉ X.eight := fun m => by
    refine mem8 (p := fun b => ¬ H' b = some (CodeO b qLam)) ?_ ?_ ?_ ?_ ?_ ?_ ?_ ?_ m hb
    · rw [h.t_]; unfold CodeO; intro z; cases z
    · rw [h.w_]; unfold CodeO; intro z; cases z
    · rw [h.kd_]; unfold CodeO; intro z; cases z
    · rw [h.rd_]; intro z; exact ndict_code (Option.some.inj z)
    · rw [h.wa_]; unfold CodeO; intro z; cases z
    · rw [h.g_]; unfold CodeO; intro z; cases z
    · rw [h.r_]; unfold CodeO; intro z; cases z
    · rw [h.dl_]; unfold CodeO; intro z; cases z
  rw [ownNew_out m]
  rcases newOr_back x hP (.inr hb) with e | e
  · exact D.new e
  · exact Co b e
end

section
variable {P : Program} {w : World} {K : PySem.W.Frag} {mg : Str → Option Value} {base : Heap} {f C CD Pt : Addr} {fd : FuncData}
def spMade (P : Program) (w : World) (C Pt : Addr) : Sp := fun vs H Q _ => ∃ (u : Addr) (S : KVs) (n : Int), vs = [.int n, .ref u] ∧ Tabs (TabL Pt) H ∧ H u = some (.dK S) ∧
  ∀ (X : Ent) (H' : Hp), FrM (· = Pt) H H' → Tabs (TabL Pt) H' → EntNew P w C H H' X S u n → Q (.ref X.e) H'
theorem scMade : FnScope ["_law_number", "_law_state", "_law_one"] ["_law_number", "_law_state"] (defScope sLMade) := ⟨rfl, rfl, rfl, by decide +kernel, rfl, by decide +kernel, by decide +kernel⟩
theorem ok_made (B : Bt mg) (F : Fun K "_law_made" "_law_made" sLMade f fd) (G1 : GOk P w K mg base 3 "_law_made_over" (spMadeOver P w C Pt)) (G2 : GOk P w K mg base 1 "_law_account" spAccount) : FnOk P w K mg base CX0 4 f fd ["_law_number", "_law_state"] (spMade P w C Pt) := by
  refine F.ok scMade (fun vs H Q E h => ?_) (fun cdv A outer s H vs Q E hr h => ?_)
  · obtain ⟨u, S, n, rfl, _⟩ := h
    rfl
  · obtain ⟨u, S, n, rfl, hT, hu, q⟩ := h
    refine ⟨_, pss_cons (ps_set (i := 2) scMade.nd rfl (Or.inl rfl) (pe_g G1 hr (by rfl) (pa_cons (pv 1) (pa_cons (pv 0) pa_nil))))
      (pss_one (ps_ret (pe_lst (pa_cons (pv 2) (pa_cons (pe_g G2 hr (by rfl) (pa_cons (pv 1) pa_nil)) (pa_cons (pv 0) (pa_cons (pe_lst pa_nil) (pa_cons (pv 1) (pa_cons (pe_callTy call_dictD (by rfl) B.dict PyProof.Rows.boot_dict (pa_cons (pv 1) pa_nil)) pa_nil))))))))), ?_⟩
    refine ⟨_, rfl, _, rfl, u, n, rfl, hT, fun t dx fl fw a k r H1 fr1 T1 nt na nk nr ak ht1 ha1 hk1 hr1 lk1 wk1 => ?_⟩
    obtain ⟨ps1, hP1, _⟩ := T1 (Pt, qLam) (List.mem_singleton.mpr rfl)
    have hP1 : H1 Pt = some (.tbl ps1) := hP1
    have uP : u ≠ Pt := fun e => by
      obtain ⟨ps0, hP0, _⟩ := hT (Pt, qLam) (List.mem_singleton.mpr rfl)
      have hP0 : H Pt = some (.tbl ps0) := hP0
      rw [← e, hu] at hP0
      cases hP0
    have hu1 := fr1.at hu uP
    refine ⟨_, rfl, _, rfl, u, rfl, fun c wa g r' H2 s2 nc nwa ng nr' gr hc2 hwa2 hg2 hr2 => ?_⟩
    refine ⟨_, rfl, Nat.zero_le _, fun dl ndl => ⟨_, rfl, _, rfl, u, S, rfl, ?_, fun k2 nk2 => ?_⟩⟩
    · exact .inl ((upd_ne (ne_of_none (s2 _ _ hu1) ndl)).trans (s2 _ _ hu1))
    · have s3 : Same H2 (upd H2 dl (.lst [])) := Same.new (Same.refl _) ndl
      have s4 : Same (upd H2 dl (.lst [])) (upd (upd H2 dl (.lst [])) k2 (.dK S)) := Same.new (Same.refl _) nk2
      have hdl3 : upd H2 dl (.lst []) dl = some (.lst []) := upd_same
      refine ⟨(by show 6 ≤ sizeLine; decide), fun e ne => ?_⟩
      have s5 := Same.new (o := .lst [.ref t, .ref c, .int n, .ref dl, .ref u, .ref k2]) (Same.refl (upd (upd H2 dl (.lst [])) k2 (.dK S))) ne
      have s25 := (s3.trans s4).trans s5
      have s15 := s2.trans s25
      have e5 : upd (upd (upd H2 dl (.lst [])) k2 (.dK S)) e (.lst [.ref t, .ref c, .int n, .ref dl, .ref u, .ref k2]) e = some (.lst [.ref t, .ref c, .int n, .ref dl, .ref u, .ref k2]) := upd_same
      have k5 := s5 k2 _ upd_same
      have dl5 := (s4.trans s5) dl _ hdl3
      have ne4 : ∀ {b : Addr} {o : HO}, (upd (upd H2 dl (.lst [])) k2 (.dK S)) b = some o → e ≠ b := fun h z => by rw [← z, ne] at h; cases h
      have nk3 : ∀ {b : Addr} {o : HO}, (upd H2 dl (.lst [])) b = some o → k2 ≠ b := fun h z => by rw [← z, nk2] at h; cases h
      have nd2 : ∀ {b : Addr} {o : HO}, H2 b = some o → dl ≠ b := fun h z => by rw [← z, ndl] at h; cases h
      have n1 : ∀ {b x : Addr} {o : HO}, H1 b = some o → H1 x = none → x ≠ b := fun h h' z => by rw [← z, h'] at h; cases h
      have s24 := s3.trans s4
      have kinds : ∀ {b b' : Addr} {o o' : HO}, H2 b = some o → H2 b' = some o' → o ≠ o' → b ≠ b' := fun h h' n => ne_of h h' n
      have ht2 := s2 _ _ ht1
      have ha2 := s2 _ _ ha1
      have hk2 := s2 _ _ hk1
      have hrd2 := s2 _ _ hr1
      generalize hX : upd (upd (upd H2 dl (.lst [])) k2 (.dK S)) e (.lst [.ref t, .ref c, .int n, .ref dl, .ref u, .ref k2]) = H5 at s5 s25 s15 e5 k5 dl5 ⊢
      refine q ⟨e, t, dx, c, n, dl, u, k2, fl, fw, a, k, r, wa, g, r'⟩ H5 (fr1.grow s15) (T1.ext s15) ⟨rfl, rfl, fun b hb => ?_, ?_, ?_, ?_, ?_, e5, s15 _ _ ht1, s25 _ _ hc2, ?_, ?_, s15 _ _ hu1, k5, s15 _ _ ha1, s15 _ _ hk1, s15 _ _ hr1, s25 _ _ hwa2, s25 _ _ hg2, s25 _ _ hr2, dl5⟩
      · exact mem8 (p := fun b => H b = none) nt na nk nr (fr1.free nwa) (fr1.free ng) (fr1.free nr') (fr1.free (s2.free ndl)) hb
      · refine mk8 ⟨⟨kinds ht2 ha2 (by intro z; cases z), kinds ht2 hk2 (by intro z; cases z), kinds ht2 hrd2 (by unfold NDictO; intro z; cases z), kinds ht2 hwa2 (by intro z; cases z), kinds ht2 hg2 (by intro z; cases z), kinds ht2 hr2 (by intro z; cases z), (nd2 ht2).symm⟩,
          ⟨ak, kinds ha2 hrd2 (by unfold NDictO; intro z; cases z), (n1 ha1 nwa).symm, kinds ha2 hg2 (by intro z; cases z), kinds ha2 hr2 (by intro z; cases z), (nd2 ha2).symm⟩,
          ⟨kinds hk2 hrd2 (by unfold NDictO; intro z; cases z), (n1 hk1 nwa).symm, kinds hk2 hg2 (by intro z; cases z), kinds hk2 hr2 (by intro z; cases z), (nd2 hk2).symm⟩,
          ⟨kinds hrd2 hwa2 (by unfold NDictO; intro z; cases z), kinds hrd2 hg2 (by unfold NDictO; intro z; cases z), kinds hrd2 hr2 (by unfold NDictO; intro z; cases z), (nd2 hrd2).symm⟩,
          ⟨kinds hwa2 hg2 (by intro z; cases z), kinds hwa2 hr2 (by intro z; cases z), (nd2 hwa2).symm⟩, ⟨gr, (nd2 hg2).symm⟩, (nd2 hr2).symm⟩
      · refine ⟨fr1.free (s2.free (s24.free ne)), fun m => ?_⟩
        exact mem8 (p := fun b => e ≠ b) (ne4 (s24 _ _ ht2)) (ne4 (s24 _ _ ha2)) (ne4 (s24 _ _ hk2)) (ne4 (s24 _ _ hrd2)) (ne4 (s24 _ _ hwa2)) (ne4 (s24 _ _ hg2)) (ne4 (s24 _ _ hr2)) (ne4 (s4 _ _ hdl3)) m rfl
      · refine ⟨fr1.free nc, fun m => ?_⟩
        have cw : c ≠ wa := fun z => by
          rw [z, hwa2] at hc2
          have z2 := Option.some.inj hc2
          injection z2 with z3
          have := congrArg List.length z3
          have l4 : (acK u wa g r').length = 4 := by
            have e1 := congrArg List.length (show acK u wa g r' = [(.inr "under", .ref u), (.inr "writes", .ref wa), (.inr "gets", .ref g), (.inr "ranges", .ref r')] from rfl)
            exact e1
          rw [l4] at this
          cases this
        exact mem8 (p := fun b => c ≠ b) (n1 ht1 nc) (n1 ha1 nc) (n1 hk1 nc) (n1 hr1 nc) cw (kinds hc2 hg2 (by intro z; cases z)) (kinds hc2 hr2 (by intro z; cases z)) (nd2 hc2).symm m rfl
      · refine ⟨fr1.free (s2.free (s3.free nk2)), fun m => ?_⟩
        exact mem8 (p := fun b => k2 ≠ b) (nk3 (s3 _ _ ht2)) (nk3 (s3 _ _ ha2)) (nk3 (s3 _ _ hk2)) (nk3 (s3 _ _ hrd2)) (nk3 (s3 _ _ hwa2)) (nk3 (s3 _ _ hg2)) (nk3 (s3 _ _ hr2)) (nk3 hdl3) m rfl
      · refine (lk1.mono' (M := fun b => NewOr H b ∧ b ∉ [t, a, k, r, wa, g, r', dl]) fun b o hb ⟨h1, h2⟩ => ⟨h1, fun m => ?_⟩).same s15
        simp only [List.mem_cons, List.not_mem_nil, or_false, not_or] at h2 m
        rcases m with rfl | rfl | rfl | rfl | rfl | rfl | rfl | rfl
        · exact h2.1 rfl
        · exact h2.2.1 rfl
        · exact h2.2.2.1 rfl
        · exact h2.2.2.2 rfl
        · rw [nwa] at hb; cases hb
        · rw [ng] at hb; cases hb
        · rw [nr'] at hb; cases hb
        · rw [s2.free ndl] at hb; cases hb
      · refine (wk1.mono' (M := fun b => NewOr H b ∧ b ∉ [t, a, k, r, wa, g, r', dl]) fun b o hb ⟨h1, h2⟩ => ⟨h1, fun m => ?_⟩).same s15
        simp only [List.mem_cons, List.not_mem_nil, or_false, not_or] at h2 m
        rcases m with rfl | rfl | rfl | rfl | rfl | rfl | rfl | rfl
        · exact h2.1 rfl
        · exact h2.2.1 rfl
        · exact h2.2.2.1 rfl
        · exact h2.2.2.2 rfl
        · rw [nwa] at hb; cases hb
        · rw [ng] at hb; cases hb
        · rw [nr'] at hb; cases hb
        · rw [s2.free ndl] at hb; cases hb
end
end L2.K47
/-! K47, part I8: a dealing is kept; at the end all is right -/
namespace L2.K47
open PySem PySem.Spec PyProof.Rows LamX NdefX

theorem ERs.rowlen {P : Program} {w : World} {K : PySem.W.Frag} {rows rl : List (Addr × Rg)} (r1 : (rows.map (·.2)).Nodup) (r2 : ∀ q, q ∈ rows.map (·.2) ↔ q ∈ rl.map (·.2)) : rows.length ≤ rl.length := by
  have := nodup_le r1 fun q hq => (r2 q).mp hq
  rw [List.length_map, List.length_map] at this
  exact this
section
variable {P : Program} {w : World} {K : PySem.W.Frag} {mg : Str → Option Value} {base : Heap} {f C CD Pt : Addr} {fd : FuncData}
def spDealt (P : Program) (w : World) (K : PySem.W.Frag) (C CD : Addr) : Sp := fun vs H Q _ => ∃ (own : Addr → Nat) (j m : Nat) (X : Ent) (op : Bool), vs = [.ref X.e] ∧ EntOk P w K C CD own j (m + 1) H X op ∧ EDs K CD own m H X ∧ OwnDom own H ∧ m ≤ 60 ∧
  ∀ H', FrM (fun b => own b = j) H H' → EntOk P w K C CD own j (m + 1) H' X op → Q .non H'
abbrev NDt : List Str := ["_law_some", "_law_gets", "_law_ranges", "_law_writes", "_law_mine"]
theorem scDealt : FnScope NDt ["_law_some"] (defScope sLDealt) := ⟨rfl, rfl, rfl, by decide +kernel, rfl, by decide +kernel, by decide +kernel⟩
theorem ok_dealt (B : Bt mg) (F : Fun K "_law_dealt" "_law_dealt" sLDealt f fd) (GP : GOk P w K mg base 1 "_law_parts" (spParts K)) (MD : MOk P w K mg base C 9 "dealing" (spTDealing P w K C CD)) : FnOk P w K mg base CX0 10 f fd ["_law_some"] (spDealt P w K C CD) := by
  refine F.ok scDealt (fun vs H Q E h => ?_) (fun cdv A outer s H vs Q E hr h => ?_)
  · obtain ⟨own, j, m, X, op, rfl, _⟩ := h
    rfl
  · obtain ⟨own, j, m, X, op, rfl, ok0, ⟨dls, d1, d2, d3⟩, dom, hm, q⟩ := h
    obtain ⟨b, ⟨W, w1, w2, w3⟩, ⟨G, gl, g1, g2, g3, g4, g5, g6⟩, ⟨rows, rl, r1, r2, r3, r4, r5, r6, r7⟩, _⟩ := id ok0
    have rowl := ERs.rowlen (P := P) (w := w) (K := K) r1 r2
    have mine := b.mine
    have jn := b.jn
    have k0 : ∀ {a : Addr}, a ∈ X.eight → ∀ b, own b = 0 → ¬ b = a := fun ha b e z => jn (by rw [← mine _ ha, ← z]; exact e)
    have m_dl : X.dl ∈ X.eight := by simp
    obtain ⟨⟨t_w, t_kd, t_rd, t_wa, t_g, t_r, t_dl⟩, ⟨w_kd, w_rd, w_wa, w_g, w_r, w_dl⟩, ⟨kd_rd, kd_wa, kd_g, kd_r, kd_dl⟩, ⟨rd_wa, rd_g, rd_r, rd_dl⟩, ⟨wa_g, wa_r, wa_dl⟩, ⟨g_r, g_dl⟩, r_dl⟩ := nd8 b.nd
    obtain ⟨t2, pt2, ht2⟩ : ∃ t, PSs (cxOf CX0 P w K mg base NDt "_law_dealt" (defScope sLDealt) f cdv A outer s H E).nox ((defBody sLDealt).drop 2) t ∧
        ∀ (mm y3 y4 y5 : V) (H1 : Hp), NumOk X.n mm W → Same H H1 → DAt K H1 (dlF X.n mm G (rows.map (·.2)) W) y3 y4 y5 → t { nx := fun _ H' => Q .non H', rt := Q } [some (.ref X.e), some y3, some y4, some y5, some mm] H1 := by
      refine ⟨_, pss_one (ps_expr (pe_bm PySem.F.plainAttrs_list PySem.F.slot_list_append PySem.F.type_list_append mt_append (pe_ix ix_list (pv 0) pe_int (fun _ _ => rfl)) (pa_cons (pe_tup (pa_cons
        (pe_m (pe_ix ix_list (pv 0) pe_int (fun _ _ => rfl)) MD hr (pa_cons (pv 4) pa_nil)) (pa_cons (pe_tup (pa_cons (pe_ix ix_list (pv 0) pe_int (fun _ _ => rfl)) (pa_cons (pv 4) (pa_cons (pv 1) (pa_cons (pv 2) (pa_cons (pv 3) pa_nil)))))) pa_nil))) pa_nil))), fun mm y3 y4 y5 H1 hnum s1 hD => ?_⟩
      have dok := dlF_ok (L := rows.map (·.2)) b.n0 hnum g1 g3 r1 (fun r hr => by
        obtain ⟨p, hp, e⟩ := List.mem_map.mp ((r2 r).mp hr)
        rw [← e]
        exact (r4 p hp).2) (by rw [List.length_map]; omega) w1
      have e1 := s1 _ _ b.e_
      have hdl1 := s1 _ _ d1
      refine ⟨_, rfl, _, _, _, _, rfl, rfl, SqL.of e1, atI_nat (j := 3) rfl, .inl ⟨rfl, _, SqL.of hdl1⟩, ?_⟩
      refine ⟨_, rfl, _, _, _, _, rfl, rfl, SqL.of e1, atI_nat (j := 0) rfl, X.t, X.dx, _, rfl, s1 _ _ b.t_, Tr.l_no (by decide +kernel), _, rfl, X.t, X.dx, X.tr op, W, G, rows, mm, rfl, s1 _ _ b.t_, s1 _ _ w2, w1, s1 _ _ g5, s1 _ _ r6,
        fun p hp => Dp.same s1 _ _ (r3 p hp), by omega, dok, fun x dy x3 x4 x5 H2 s2 nx hx hDx => ?_⟩
      have s12 := s1.trans s2
      refine ⟨_, rfl, _, _, _, _, rfl, rfl, SqL.of (s2 _ _ e1), atI_nat (j := 2) rfl, _, rfl, _, rfl, _, rfl, _, rfl, (by show 5 ≤ sizeLine; decide), fun p np => ?_⟩
      have s3 : Same H2 (upd H2 p (.tup [.int X.n, mm, y3, y4, y5])) := Same.new (Same.refl _) np
      have hp3 : upd H2 p (.tup [.int X.n, mm, y3, y4, y5]) p = some (.tup [.int X.n, mm, y3, y4, y5]) := upd_same
      generalize upd H2 p (.tup [.int X.n, mm, y3, y4, y5]) = H3 at s3 hp3 ⊢
      refine ⟨(by show 2 ≤ sizeLine; decide), fun qq nq => ?_⟩
      have s4 : Same H3 (upd H3 qq (.tup [.ref x, .ref p])) := Same.new (Same.refl _) nq
      have hq4 : upd H3 qq (.tup [.ref x, .ref p]) qq = some (.tup [.ref x, .ref p]) := upd_same
      generalize upd H3 qq (.tup [.ref x, .ref p]) = H4 at s4 hq4 ⊢
      have s24 := s3.trans s4
      have s04 := s12.trans s24
      have hdl4 := s04 _ _ d1
      refine ⟨X.dl, _, _, rfl, rfl, hdl4, small1000 (by rw [List.length_map]; omega), ?_⟩
      have fr5 : FrM (· = X.dl) H4 (upd H4 X.dl (.lst (dls.map V.ref ++ [.ref qq]))) := FrM.upd (M := fun b => b = X.dl) FrM.refl hdl4 rfl rfl
      have ok4 := ok0.fr (M := fun _ => False) (FrM.same s04) (fun _ z => z.elim)
      have own0 : own x = 0 := dom.new (s1.free nx)
      have xdl : x ≠ X.dl := fun e => k0 m_dl _ own0 e
      refine q _ ((FrM.same s04).trans (fr5.mono fun b hb => by
        have hb : b = X.dl := hb
        rw [hb]
        exact mine _ m_dl)) ⟨ok4.b.fr fr5 (k0 m_dl) t_dl, ok4.wr.fr fr5 w_dl wa_dl, ok4.ks.fr fr5 kd_dl g_dl, ok4.rs.fr fr5 rd_dl r_dl, ?_⟩
      refine ⟨dls ++ [qq], ?_, by rw [List.length_append, List.length_singleton]; omega, fun d hd => ?_⟩
      · rw [upd_same, List.map_append]
        rfl
      · rcases List.mem_append.mp hd with hd | hd
        · exact ((d3 d hd).fr (M := fun _ => False) (FrM.same s04) (fun _ _ z => z)).fr fr5 (k0 m_dl)
        · rw [List.mem_singleton.mp hd]
          exact ⟨x, p, dy, dlF X.n mm G (rows.map (·.2)) W, x3, x4, x5, y3, y4, y5, FrM.tup fr5 hq4, fr5.at (s24 _ _ hx) xdl, own0, FrM.tup fr5 (s4 _ _ hp3), dok, (hDx.same s24).tups fr5.tups, (hD.same (s2.trans s24)).tups fr5.tups⟩
    refine ⟨_, pss_cons (ps_asg (pe_g GP hr (by rfl) (pa_cons (pe_ix ix_list (pv 0) pe_int (fun _ _ => rfl)) pa_nil)) (pg_tup rfl (pgs_cons (pg_name (i := 1) scDealt.nd rfl (Or.inl rfl)) (pgs_cons (pg_name (i := 2) scDealt.nd rfl (Or.inl rfl)) (pgs_cons (pg_name (i := 3) scDealt.nd rfl (Or.inl rfl)) pgs_nil)))))
      (pss_cons (ps_set (i := 4) scDealt.nd rfl (Or.inl rfl) (pe_ifExp (pt_cmpR op_eq (pe_callB call_len_seq (by rfl) B.len PySem.boot_len (pa_cons (pv 3) pa_nil)) pe_int (nomark _)) pe_non (pe_op op_add (pe_ix ix_list (pv 0) pe_int (fun _ _ => rfl)) pe_int))) pt2), ?_⟩
    refine ⟨_, rfl, _, _, _, _, rfl, rfl, SqL.of b.e_, atI_nat (j := 1) rfl, X.c, X.u, X.wa, X.g, X.r, W, gl, G, rl, rows.map (·.2), rfl, b.c_, w3, w1, g6, by omega, r7, fun p hp => (r4 p hp).1, by omega, g1, g2, r1, r2, fun t y3 y4 y5 H1 s1 ht1 y3d y4d y5d => ?_⟩
    refine ⟨t, _, rfl, SqT.of ht1, rfl, _, _, rfl, _, _, rfl, _, _, rfl, rfl, ?_⟩
    obtain ⟨a5, xs5, rfl, hs5, hd5⟩ := dp_tup y5d
    have l5 := DpAll.length hd5
    rw [List.length_map] at l5
    refine ⟨_, rfl, a5, xs5, rfl, .inr hs5, rfl, _, rfl, ?_⟩
    by_cases hW : W = []
    · have e0 : xs5.length = 0 := by rw [l5, wroteF_nil.mpr hW]; rfl
      rw [decide_eq_true (show V.int (xs5.length : Nat) = V.int 0 by rw [e0]; rfl)]
      exact iteT (ht2 .non y3 y4 _ H1 (.inl ⟨hW, rfl⟩) s1 ⟨y3d, y4d, y5d⟩)
    · have e0 : ¬ V.int (xs5.length : Nat) = V.int 0 := fun z => by
        injection z with z
        exact hW (wroteF_nil.mp (List.length_eq_zero_iff.mp (by omega)))
      rw [decide_eq_false e0]
      refine iteF ⟨_, rfl, _, _, _, _, rfl, rfl, SqL.of (s1 _ _ b.e_), atI_nat (j := 2) rfl, _, _, rfl, rfl, ?_⟩
      exact ht2 (.int (X.n + 1)) y3 y4 _ H1 (.inr ⟨hW, _, rfl, by omega⟩) s1 ⟨y3d, y4d, y5d⟩

/-! ### all is right -/
def spRight (P : Program) (w : World) (K : PySem.W.Frag) (C CD : Addr) : Sp := fun vs H Q _ => ∃ (own : Addr → Nat) (ev : Addr) (m : Nat) (ents : List Ent), vs = [.ref ev] ∧ H ev = some (.lst (ents.map fun X => V.ref X.e)) ∧ (∀ (i : Nat) (X : Ent), ents[i]? = some X → ∃ j op, EntOk P w K C CD own j m H X op) ∧ m ≤ 60 ∧
  ∀ H', Q (.bl true) H'
abbrev NRt : List Str := ["_law_every", "_law_one", "_law_account_here", "_law_number", "_law_dealt_here", "_law_state", "_law_kept", "_law_gets", "_law_ranges", "_law_writes", "_law_told", "_law_parts_here"]
theorem scRight : FnScope NRt ["_law_every"] (defScope sLRight) := ⟨rfl, rfl, rfl, by decide +kernel, rfl, by decide +kernel, by decide +kernel⟩
end
end L2.K47
/-! K47, part I9: at the end all is right -/
namespace L2.K47
open PySem PySem.Spec PyProof.Rows LamX NdefX

theorem valV_of_mem : ∀ {d : KVs} {p : Key × V}, (d.map (·.1)).Nodup → p ∈ d → valV d p.1 = some p.2
  | [], p, _, h => by cases h
  | q :: d, p, nd, h => by
    rw [List.map_cons, List.nodup_cons] at nd
    rcases List.mem_cons.mp h with e | h
    · subst e
      exact valV_pos rfl
    · rw [valV_neg (fun e => nd.1 (by rw [e]; exact List.mem_map.mpr ⟨p, h, rfl⟩))]
      exact valV_of_mem nd.2 h
def tripData (G : List Str) (L : List Rg) (ws : List (Str × V)) : PyData := .tuple [gsData G, rsData L, wsData ws]
theorem tripData_lay {G : List Str} {L : List Rg} {ws : List (Str × V)} (h1 : ∀ g ∈ G, KeyOk g) (h2 : ∀ r ∈ L, RgOk r) (h3 : ∀ p ∈ ws, KeyOk p.1 ∧ VOk p.2) : (tripData G L ws).canLay0 = true := by
  unfold tripData
  rw [PyData.canLay0, PyData.canLayAll0, PyData.canLayAll0, PyData.canLayAll0, PyData.canLayAll0, gsData_lay h1, rsData_lay h2, wsData_lay h3]
  rfl
theorem tripData_shaped {G : List Str} {L : List Rg} {ws : List (Str × V)} (h1 : ∀ g ∈ G, KeyOk g) (h2 : ∀ r ∈ L, RgOk r) (h3 : ∀ p ∈ ws, KeyOk p.1 ∧ VOk p.2) : SeqAt.shaped (tripData G L ws) = true := by
  refine shaped_of (n := 5) (tripData_lay h1 h2 h3) ?_
  have h1 := gsData_depth G
  have h2 := rsData_depth L
  have h3 := wsData_depth ws
  unfold tripData
  generalize gsData G = a at h1 ⊢
  generalize rsData L = b at h2 ⊢
  generalize wsData ws = c at h3 ⊢
  simp only [PyData.depth, PyData.depthAll]
  omega
/-- the class Dealing's own == -/
structure EqOk (P : Program) (w : World) (K : PySem.W.Frag) (mg : Str → Option Value) (base : Heap) (CD : Addr) : Prop where
  ex : ∃ (f : Addr) (fd : FuncData) (ps : List Str), FnOk P w K mg base CX0 2 f fd ps (spEq (DlEq K CD)) ∧ PySem.W.findIn K (.ref CD) "__eq__" = some (some (.ref f)) ∧ PySem.W.isFn K (.ref f) = true ∧ Binds K fd ps []
  hm : PySem.W.mroIn K CD (.type "object") = some true
  hn : PySem.W.findIn K (.ref CD) "__ne__" = some (some (.builtin "object.__ne__"))
section
variable {P : Program} {w : World} {K : PySem.W.Frag} {mg : Str → Option Value} {base : Heap} {f C CD Pt : Addr} {fd : FuncData}
theorem ok_right (B : Bt mg) (F : Fun K "_law_all_right" "_law_all_right" sLRight f fd) (GP : GOk P w K mg base 1 "_law_parts" (spParts K)) (M1 : MOk P w K mg base C 1 "saw_keys" (spSawKeys K C)) (M2 : MOk P w K mg base C 1 "saw_ranges" (spSawRanges P w K C))
    (M3 : MOk P w K mg base C 1 "wrote" (spWrote K C)) (M4 : MOk P w K mg base C 1 "stands_at" (spTStands C)) (G0 : COk P w K mg base CD 7 "Dealing" (spDInit K CD)) (Eo : EqOk P w K mg base CD) : FnOk P w K mg base CX0 10 f fd ["_law_every"] (spRight P w K C CD) := by
  refine F.ok scRight (fun vs H Q E h => ?_) (fun cdv A outer s H vs Q E hr h => ?_)
  · obtain ⟨own, ev, m, ents, rfl, _⟩ := h
    rfl
  · obtain ⟨own, ev, m, ents, rfl, hev, hents, hm, q⟩ := h
    obtain ⟨fE, fdE, psE, FE, e1, e2, e3⟩ := Eo.ex
    refine ⟨_, pss_cons (ps_for PassesOwn.never rfl (pi_list (pv 0)) (pg_lst rfl (pgs_cons (pg_name (i := 1) scRight.nd rfl (Or.inl rfl)) (pgs_cons (pg_name (i := 2) scRight.nd rfl (Or.inl rfl)) (pgs_cons (pg_name (i := 3) scRight.nd rfl (Or.inl rfl))
          (pgs_cons (pg_name (i := 4) scRight.nd rfl (Or.inl rfl)) (pgs_cons (pg_name (i := 5) scRight.nd rfl (Or.inl rfl)) (pgs_cons (pg_name (i := 6) scRight.nd rfl (Or.inl rfl)) pgs_nil)))))))
        (pss_cons (ps_asg (pe_g GP hr (by rfl) (pa_cons (pv 2) pa_nil)) (pg_tup rfl (pgs_cons (pg_name (i := 7) scRight.nd rfl (Or.inl rfl)) (pgs_cons (pg_name (i := 8) scRight.nd rfl (Or.inl rfl)) (pgs_cons (pg_name (i := 9) scRight.nd rfl (Or.inl rfl)) pgs_nil)))))
        (pss_cons (ps_if (pt_cmpR (op_neD hr.units) (pe_tup (pa_cons (pe_m0 (pv 1) M1 hr) (pa_cons (pe_m0 (pv 1) M2 hr) (pa_cons (pe_m0 (pv 1) M3 hr) pa_nil)))) (pe_tup (pa_cons (pv 7) (pa_cons (pv 8) (pa_cons (pv 9) pa_nil)))) (nomark _)) (pss_one (ps_ret pe_bl)) pss_nil)
        (pss_cons (ps_if (PW.pt (pw_or (pt_cmpR op_ne (pe_m0 (pv 1) M4 hr) (pv 3) (nomark _)) (pw_or1 (pt_cmpR (op_ne_dictA hr.units0) (pv 5) (pv 6) (nomark _))))) (pss_one (ps_ret pe_bl)) pss_nil)
        (pss_one (ps_for PassesOwn.never rfl (pi_list (pv 4)) (pg_tup rfl (pgs_cons (pg_name (i := 10) scRight.nd rfl (Or.inl rfl)) (pgs_cons (pg_name (i := 11) scRight.nd rfl (Or.inl rfl)) pgs_nil)))
          (pss_one (ps_if (pt_cmpR (op_neIns FE (hr.mono (by decide)) Eo.hm Eo.hn e1 e2 e3 pass0) (pv 10) (pe_c G0 hr (by rfl) (pa_cons (pe_ix ix_tup (pv 11) pe_int (fun _ _ => rfl)) (pa_cons (pe_ix ix_tup (pv 11) pe_int (fun _ _ => rfl)) (pa_cons (pe_ix ix_tup (pv 11) pe_int (fun _ _ => rfl))
            (pa_cons (pe_ix ix_tup (pv 11) pe_int (fun _ _ => rfl)) (pa_cons (pe_ix ix_tup (pv 11) pe_int (fun _ _ => rfl)) pa_nil)))))) (nomark _)) (pss_one (ps_ret pe_bl)) pss_nil))))))))
      (pss_one (ps_ret pe_bl)), ?_⟩
    refine ⟨_, rfl, ev, rfl, ⟨_, SqL.of hev⟩, for_list (K := K) (a := ev) (xs := ents.map fun X => V.ref X.e) (fun i σ H' => ∃ v1 v2 v3 v4 v5 v6 v7 v8 v9 v10 v11 : Option V, σ = [some (.ref ev), v1, v2, v3, v4, v5, v6, v7, v8, v9, v10, v11] ∧ Same H H')
      ⟨_, _, _, _, _, _, _, _, _, _, _, rfl, Same.refl _⟩ (fun i σ H' _ ⟨_, _, _, _, _, _, _, _, _, _, _, _, s⟩ => SqL.of (s _ _ hev)) ?_ ?_⟩
    · rintro i x σ H1 hi ⟨v1, v2, v3, v4, v5, v6, v7, v8, v9, v10, v11, rfl, s1⟩
      rw [List.getElem?_map] at hi
      cases hX : ents[i]? with
      | none => rw [hX] at hi; cases hi
      | some X =>
        rw [hX] at hi
        cases hi
        obtain ⟨j, op, ok⟩ := hents i X hX
        obtain ⟨b, ⟨W, w1, w2, w3⟩, ⟨G, gl, g1, g2, g3, g4, g5, g6⟩, ⟨rows, rl, r1, r2, r3, r4, r5, r6, r7⟩, ⟨dls, d1, d2, d3⟩⟩ := ok.fr (M := fun _ => False) (FrM.same s1) (fun _ z => z.elim)
        obtain ⟨S, t1, t2, t3⟩ := b.st
        have rowl := ERs.rowlen (P := P) (w := w) (K := K) r1 r2
        refine ⟨X.e, _, rfl, SqL.of b.e_, rfl, _, _, rfl, _, _, rfl, _, _, rfl, _, _, rfl, _, _, rfl, _, _, rfl, rfl, ?_⟩
        refine ⟨_, rfl, X.c, X.u, X.wa, X.g, X.r, W, gl, G, rl, rows.map (·.2), rfl, b.c_, w3, w1, g6, by omega, r7, fun p hp => (r4 p hp).1, by omega, g1, g2, r1, r2, fun T y3 y4 y5 H2 s2 hT y3d y4d y5d => ?_⟩
        refine ⟨T, _, rfl, SqT.of hT, rfl, _, _, rfl, _, _, rfl, _, _, rfl, rfl, ?_⟩
        -- what was seen and written
        refine ⟨_, rfl, X.t, X.dx, _, rfl, s2 _ _ b.t_, Tr.l_no (by decide +kernel), X.t, X.dx, X.tr op, G, rfl, s2 _ _ b.t_, s2 _ _ g5, fun a3 H3 s3 x3d => ?_⟩
        have s23 := s2.trans s3
        refine ⟨_, rfl, X.t, X.dx, _, rfl, s23 _ _ b.t_, Tr.l_no (by decide +kernel), X.t, X.dx, X.tr op, rows, rfl, s23 _ _ b.t_, s23 _ _ r6, fun p hp => Dp.same s23 _ _ (r3 p hp), by omega, fun a4 H4 s4 x4d => ?_⟩
        have s24 := s23.trans s4
        refine ⟨_, rfl, X.t, X.dx, _, rfl, s24 _ _ b.t_, Tr.l_no (by decide +kernel), X.t, X.dx, X.tr op, W, rfl, s24 _ _ b.t_, s24 _ _ w2, w1, fun a5 H5 s5 x5d => ?_⟩
        have s25 := s24.trans s5
        refine ⟨(by show 3 ≤ sizeLine; decide), fun T1 n1 => ?_⟩
        have s6 : Same H5 (upd H5 T1 (.tup [.ref a3, .ref a4, .ref a5])) := Same.new (Same.refl _) n1
        refine ⟨_, rfl, _, rfl, _, rfl, (by show 3 ≤ sizeLine; decide), fun T2 n2 => ?_⟩
        have s7 : Same (upd H5 T1 (.tup [.ref a3, .ref a4, .ref a5])) (upd (upd H5 T1 (.tup [.ref a3, .ref a4, .ref a5])) T2 (.tup [y3, y4, y5])) := Same.new (Same.refl _) n2
        have s57 := s6.trans s7
        have kG : ∀ g ∈ srtS G, KeyOk g := fun g hg => g3 g (mem_srtS.mp hg)
        have kL : ∀ r ∈ srtR (rows.map (·.2)), RgOk r := fun r hr => by
          obtain ⟨p, hp, e⟩ := List.mem_map.mp ((r2 r).mp ((srtR_perm _).mem_iff.mp hr))
          rw [← e]
          exact (r4 p hp).2
        have kW := (wroteF_ok w1).row
        have da : Dp K (upd (upd H5 T1 (.tup [.ref a3, .ref a4, .ref a5])) T2 (.tup [y3, y4, y5])) (.ref T1) (tripData (srtS G) (srtR (rows.map (·.2))) (wroteF W)) :=
          .tup (SqT.of (s7 _ _ upd_same)) (.cons (Dp.same ((s4.trans s5).trans s57) _ _ x3d) (.cons (Dp.same (s5.trans s57) _ _ x4d) (.cons (Dp.same s57 _ _ x5d) .nil)))
        have s37 := ((s3.trans s4).trans s5).trans s57
        have db : Dp K (upd (upd H5 T1 (.tup [.ref a3, .ref a4, .ref a5])) T2 (.tup [y3, y4, y5])) (.ref T2) (tripData (srtS G) (srtR (rows.map (·.2))) (wroteF W)) :=
          .tup (SqT.of upd_same) (.cons (Dp.same s37 _ _ y3d) (.cons (Dp.same s37 _ _ y4d) (.cons (Dp.same s37 _ _ y5d) .nil)))
        refine ⟨_, _, da, db, tripData_shaped kG kL kW, tripData_shaped kG kL kW, _, rfl, ?_⟩
        rw [SeqAt.eqv_refl _ (tripData_lay kG kL kW)]
        refine iteF ?_
        have s17 := s2.trans s37
        generalize upd (upd H5 T1 (.tup [.ref a3, .ref a4, .ref a5])) T2 (.tup [y3, y4, y5]) = H7 at s17 ⊢
        -- the snapshot stays
        refine ⟨_, rfl, X.t, X.dx, _, rfl, s17 _ _ b.t_, Tr.l_no (by decide +kernel), X.t, X.dx, X.tr op, rfl, s17 _ _ b.t_, _, rfl, rfl, _, rfl, ?_⟩
        rw [decide_eq_true (show V.int X.n = V.int X.n from rfl)]
        refine iteF ⟨_, rfl, _, rfl, X.u, X.k, S, S, rfl, rfl, s17 _ _ t2, s17 _ _ t3, rfl, fun p hp => ⟨valV_of_mem t1.wk.nd hp, ?_⟩, ?_⟩
        · rcases (t1.wk.row p hp).2 with e | ⟨z, e, _⟩ <;> rw [e] <;> rfl
        refine ⟨_, rfl, iteF ?_⟩
        -- the dealings
        have hdl7 := s17 _ _ d1
        refine ⟨_, rfl, X.dl, rfl, ⟨_, SqL.of hdl7⟩, for_list (K := K) (a := X.dl) (xs := dls.map V.ref) (fun i σ H' => ∃ v10 v11 : Option V, σ = [some (.ref ev), some (.ref X.t), some (.ref X.c), some (.int X.n), some (.ref X.dl), some (.ref X.u), some (.ref X.k), some y3, some y4, some y5, v10, v11] ∧ Same H7 H')
          ⟨_, _, rfl, Same.refl _⟩ (fun i σ H' _ ⟨_, _, _, s⟩ => SqL.of (s _ _ hdl7)) ?_ ?_⟩
        · rintro i x σ H8 hi ⟨v10, v11, rfl, s8⟩
          rw [List.getElem?_map] at hi
          cases hd : dls[i]? with
          | none => rw [hd] at hi; cases hi
          | some qd =>
            rw [hd] at hi
            cases hi
            obtain ⟨d, p, dy, D, x3, x4, x5, z3, z4, z5, h1, h2, h3, h4, h5, h6, h7⟩ := (d3 qd (List.mem_of_getElem? hd)).fr (M := fun _ => False) (FrM.same (s17.trans s8)) (fun _ _ z => z)
            refine ⟨qd, _, rfl, SqT.of h1, rfl, _, _, rfl, _, _, rfl, rfl, ?_⟩
            refine ⟨_, rfl, _, rfl, _, _, _, _, rfl, rfl, SqT.of h4, atI_nat (j := 0) rfl, _, rfl, _, _, _, _, rfl, rfl, SqT.of h4, atI_nat (j := 1) rfl, _, rfl, _, _, _, _, rfl, rfl, SqT.of h4, atI_nat (j := 2) rfl, _, rfl, _, _, _, _, rfl, rfl, SqT.of h4, atI_nat (j := 3) rfl,
              _, rfl, _, _, _, _, rfl, rfl, SqT.of h4, atI_nat (j := 4) rfl, ?_⟩
            intro x dz nx ndz ne
            have sM : Same H8 (upd (upd H8 dz (.own x)) x (.ins CD dz [])) := Same.new (Same.new (Same.refl _) ndz) (by rw [upd_ne ne.symm]; exact nx)
            refine ⟨x, dz, D, z3, z4, z5, rfl, upd_same, h5, h7.same sM, fun H9 e9 k9 => ⟨rfl, ?_⟩⟩
            have s9 : Same H8 H9 := Same.made nx ndz k9
            refine ⟨d, x, dy, dz, _, _, rfl, rfl, s9 _ _ h2, e9, ⟨dy, dz, D, x3, x4, x5, z3, z4, z5, s9 _ _ h2, e9, h5, h6.same s9, h7.same s9⟩, fun Ha sa => ⟨_, rfl, iteF ?_⟩⟩
            exact ⟨_, _, rfl, s8.trans (s9.trans sa)⟩
        · rintro σ H8 ⟨v10, v11, rfl, s8⟩
          exact ⟨_, _, _, _, _, _, _, _, _, _, _, rfl, s1.trans (s17.trans s8)⟩
    · rintro σ H1 ⟨v1, v2, v3, v4, v5, v6, v7, v8, v9, v10, v11, rfl, s1⟩
      exact q H1
end
end L2.K47
/-! K47, part J: the law -/
namespace L2.K47
open PySem PySem.Spec PyProof.Rows LamX NdefX

theorem inV_nat (d : Nat) : ∀ el : List Nat, inV (.int (d : Int)) (el.map fun k : Nat => V.int (k : Int)) = decide (d ∈ el)
  | [] => rfl
  | e :: el => by
    have ih := inV_nat d el
    unfold inV at ih ⊢
    rw [List.map_cons, List.any_cons, ih]
    show ((e : Int) == (d : Int) || _) = _
    by_cases h : d = e
    · subst h
      simp
    · have h1 : ((e : Int) == (d : Int)) = false := beq_eq_false_iff_ne.mpr (by omega)
      rw [h1, Bool.false_or]
      simp [h]
theorem flat_nat (el : List Nat) : (el.map fun k : Nat => V.int (k : Int)).all flatV = true := by
  rw [List.all_map]
  exact List.all_eq_true.mpr fun _ _ => rfl
theorem bools_lay (bs : List Bool) : (PyData.list (bs.map PyData.bool)).canLay0 = true := by
  rw [PyData.canLay0]
  exact layAll_map fun _ _ => by simp [PyData.canLay0]
theorem bools_shaped (bs : List Bool) : SeqAt.shaped (.list (bs.map PyData.bool)) = true := by
  refine shaped_of (n := 1) (bools_lay bs) ?_
  have := depthAll_map (f := PyData.bool) (n := 0) (fun _ => by simp [PyData.depth]) bs
  rw [PyData.depth]
  omega
def forBody : Stmt → List Stmt
  | .For _ _ b _ _ => b
  | _ => []
section
variable {P : Program} {w : World} {K : PySem.W.Frag} {mg : Str → Option Value} {base : Heap} {f C CD Pt : Addr} {fd : FuncData}
def spLaw (K : PySem.W.Frag) (Pt : Addr) : Sp := fun vs H Q _ => ∃ (a : Addr) (ns : List Int), vs = [.ref a] ∧ SqL K H a (ns.map V.int) ∧ ns.length ≤ 63 ∧ H Pt = some (.tbl #[]) ∧ ∀ H', Q (.bl true) H'
abbrev NLw : List Str := ["_law_script", "_law_hand_here", "_law_number", "_law_state", "_law_every", "_law_turn", "_law_ended", "_law_at", "_law_some", "_law_spot"]
theorem scLaw : FnScope NLw ["_law_script"] (defScope sLaw) := ⟨rfl, rfl, rfl, by decide +kernel, rfl, by decide +kernel, by decide +kernel⟩
/-- what stands while the entries are made: own's marks, the hand, the list of the entries -/
structure Mk1 (P : Program) (w : World) (K : PySem.W.Frag) (C CD Pt : Addr) (own : Addr → Nat) (h ev : Addr) (ents : List Ent) (H : Hp) : Prop where
  ev_ : H ev = some (.lst (ents.map fun X => V.ref X.e))
  ok : ∀ (k : Nat) (X : Ent), ents[k]? = some X → EntOk P w K C CD own (k + 3) 0 H X true
  dom : OwnDom own H
  code : CodeOwn own H
  tabs : Tabs (TabL Pt) H
  hand : HandAt (fun b => own b = 0) H h
  oh : own h = 1
  oev : own ev = 2
  oP : own Pt = 2
theorem Mk1.draw {own : Addr → Nat} {h ev : Addr} {ents : List Ent} {H H' : Hp} (m : Mk1 P w K C CD Pt own h ev ents H) (x : FrM (· = h) H H') (hh : HandAt (fun b => own b = 0) H' h) : Mk1 P w K C CD Pt own h ev ents H' := by
  have evh : ev ≠ h := fun e => by
    have := m.oev
    rw [e, m.oh] at this
    cases this
  obtain ⟨cl, xs, p, r, a, n, h1, _⟩ := id m.hand
  refine ⟨x.at m.ev_ evh, fun k X hX => (m.ok k X hX).fr x fun b hb => ?_, m.dom.fr x, fun b hb => ?_, Tabs.frm m.tabs x h1, hh, m.oh, m.oev, m.oP⟩
  · have hb : b = h := hb
    rw [hb, m.oh]
    exact ⟨by decide, by omega⟩
  · by_cases e : H b = none
    · exact m.dom.new e
    · obtain ⟨o, e⟩ := Option.ne_none_iff_exists'.mp e
      have bh : b ≠ h := fun z => by
        obtain ⟨_, _, _, _, _, _, h2, _⟩ := hh
        rw [z, h2] at hb
        have hb := Option.some.inj hb
        unfold CodeO at hb
        cases hb
      rw [x.at e bh] at hb
      exact m.code b (e.trans hb)
theorem Mk1.tab {own : Addr → Nat} {h ev : Addr} {ents : List Ent} {H : Hp} (m : Mk1 P w K C CD Pt own h ev ents H) : ∃ ps, H Pt = some (.tbl ps) := by
  obtain ⟨ps, hP, _⟩ := m.tabs (Pt, qLam) (List.mem_singleton.mpr rfl)
  exact ⟨ps, hP⟩
/-- one more entry -/
theorem Mk1.more {own : Addr → Nat} {h ev : Addr} {ents : List Ent} {H H' : Hp} {X : Ent} {S : KVs} {u : Addr} {n : Int} (m : Mk1 P w K C CD Pt own h ev ents H) (x : FrM (· = Pt) H H') (T : Tabs (TabL Pt) H') (N : EntNew P w C H H' X S u n) (hS : SK S) (n0 : 0 ≤ n) (ou : own u = 0) (hu : ∃ o, H u = some o) :
    ∃ own', Mk1 P w K C CD Pt own' h ev (ents ++ [X]) (upd H' ev (.lst (ents.map (fun X => V.ref X.e) ++ [.ref X.e]))) ∧ ∀ b o, H b = some o → own' b = own b := by
  have old : ∀ b o, H b = some o → ownNew own X (ents.length + 3) b = own b := fun b o e => ownNew_old N e
  refine ⟨ownNew own X (ents.length + 3), ?_, old⟩
  obtain ⟨ps, hP⟩ := m.tab
  obtain ⟨ps', hP', _⟩ := T (Pt, qLam) (List.mem_singleton.mpr rfl)
  have hP' : H' Pt = some (.tbl ps') := hP'
  have oh' : ownNew own X (ents.length + 3) h = 1 := by
    obtain ⟨_, _, _, _, _, _, h1, _⟩ := m.hand
    exact (old _ _ h1).trans m.oh
  have oev' : ownNew own X (ents.length + 3) ev = 2 := (old _ _ m.ev_).trans m.oev
  have oP' : ownNew own X (ents.length + 3) Pt = 2 := (old _ _ hP).trans m.oP
  have evP : ev ≠ Pt := ne_of m.ev_ hP (by intro z; cases z)
  have hev' := x.at m.ev_ evP
  have x2 : FrM (· = ev) H' (upd H' ev (.lst (ents.map (fun X => V.ref X.e) ++ [.ref X.e]))) := FrM.upd (M := fun b => b = ev) FrM.refl hev' rfl rfl
  have toEv : ∀ {X' : Ent} {k : Nat}, EntOk P w K C CD (ownNew own X (ents.length + 3)) (k + 3) 0 H' X' true → EntOk P w K C CD (ownNew own X (ents.length + 3)) (k + 3) 0 (upd H' ev (.lst (ents.map (fun X => V.ref X.e) ++ [.ref X.e]))) X' true := fun o => o.fr x2 fun b hb => by
    have hb : b = ev := hb
    rw [hb, oev']
    exact ⟨by decide, by omega⟩
  refine ⟨by rw [upd_same, List.map_append]; rfl, fun k X' hX' => ?_, (N.dom m.dom x).fr x2, fun b hb => ?_, ?_, ?_, oh', oev', oP'⟩
  · by_cases hk : k < ents.length
    · rw [List.getElem?_append_left hk] at hX'
      exact toEv (((m.ok k X' hX').owned old).fr x fun b hb => by
        have hb : b = Pt := hb
        rw [hb, oP']
        exact ⟨by decide, by omega⟩)
    · rw [List.getElem?_append_right (by omega)] at hX'
      have e0 : k - ents.length = 0 := by
        have := (List.getElem?_eq_some_iff.mp hX').1
        simp at this
        omega
      rw [e0] at hX'
      have e1 : X = X' := Option.some.inj hX'
      subst e1
      have ek : k = ents.length := by omega
      rw [ek]
      exact toEv (N.ok m.dom m.code hS n0 (by omega) ou hu)
  · have bev : b ≠ ev := fun z => by
      rw [z, upd_same] at hb
      have hb := Option.some.inj hb
      unfold CodeO at hb
      cases hb
    rw [upd_ne bev] at hb
    exact N.code m.dom m.code x ⟨ps', hP'⟩ b hb
  · intro p hp
    obtain ⟨qs, a1, a2, a3⟩ := T p hp
    refine ⟨qs, x2.at a1 (ne_of a1 hev' (by intro z; cases z)), a2, fun p' cv hcv => ?_⟩
    obtain ⟨c0, e1, e2⟩ := a3 p' cv hcv
    exact ⟨c0, e1, x2.at e2 (ne_of e2 hev' (by unfold CodeO; intro z; cases z))⟩
  · obtain ⟨cl, xs, p, r, a, n', h1, h2, h3, h4⟩ := m.hand
    have hP1 : h ≠ Pt := ne_of h1 hP (by intro z; cases z)
    have hP2 : cl ≠ Pt := ne_of h2 hP (by intro z; cases z)
    have he1 : h ≠ ev := fun e => by rw [e, oev'] at oh'; cases oh'
    have he2 : cl ≠ ev := fun e => by
      have := m.oev
      rw [← e, h3] at this
      cases this
    exact ⟨cl, xs, p, r, a, n', x2.at (x.at h1 hP1) he1, x2.at (x.at h2 hP2) he2, (old _ _ h2).trans h3, h4⟩
/-- what stands while deeds are done: el: which are at their end -/
structure Mk2 (P : Program) (w : World) (K : PySem.W.Frag) (C CD : Addr) (own : Addr → Nat) (h ev en : Addr) (ents : List Ent) (el : List Nat) (m : Nat) (H : Hp) : Prop where
  ev_ : H ev = some (.lst (ents.map fun X => V.ref X.e))
  en_ : H en = some (.lst (el.map fun k : Nat => V.int (k : Int)))
  ok : ∀ (k : Nat) (X : Ent), ents[k]? = some X → EntOk P w K C CD own (k + 3) m H X (!decide (k ∈ el))
  dom : OwnDom own H
  hand : HandAt (fun b => own b = 0) H h
  oh : own h = 1
  oev : own ev = 2
  oen : own en = 2
theorem Mk2.draw {own : Addr → Nat} {h ev en : Addr} {ents : List Ent} {el : List Nat} {m : Nat} {H H' : Hp} (k : Mk2 P w K C CD own h ev en ents el m H) (x : FrM (· = h) H H') (hh : HandAt (fun b => own b = 0) H' h) : Mk2 P w K C CD own h ev en ents el m H' := by
  have ne : ∀ {b : Addr}, own b = 2 → b ≠ h := fun e z => by rw [z, k.oh] at e; cases e
  exact ⟨x.at k.ev_ (ne k.oev), x.at k.en_ (ne k.oen), fun i X hX => (k.ok i X hX).fr x fun b hb => by
    have hb : b = h := hb
    rw [hb, k.oh]
    exact ⟨by decide, by omega⟩, k.dom.fr x, hh, k.oh, k.oev, k.oen⟩
theorem Mk2.same {own : Addr → Nat} {h ev en : Addr} {ents : List Ent} {el : List Nat} {m : Nat} {H H' : Hp} (k : Mk2 P w K C CD own h ev en ents el m H) (s : Same H H') : Mk2 P w K C CD own h ev en ents el m H' :=
  ⟨s _ _ k.ev_, s _ _ k.en_, fun i X hX => (k.ok i X hX).fr (M := fun _ => False) (FrM.same s) (fun _ z => z.elim), k.dom.fr (M := fun _ => False) (FrM.same s), k.hand.same s, k.oh, k.oev, k.oen⟩
theorem Mk2.mono {own : Addr → Nat} {h ev en : Addr} {ents : List Ent} {el : List Nat} {m m' : Nat} {H : Hp} (k : Mk2 P w K C CD own h ev en ents el m H) (hm : m ≤ m') : Mk2 P w K C CD own h ev en ents el m' H :=
  ⟨k.ev_, k.en_, fun i X hX => (k.ok i X hX).mono hm, k.dom, k.hand, k.oh, k.oev, k.oen⟩
/-- a change of the entry at place d alone (and of the hand) -/
theorem Mk2.one {own : Addr → Nat} {h ev en : Addr} {ents : List Ent} {el : List Nat} {m m' d : Nat} {H H' : Hp} {X : Ent} (k : Mk2 P w K C CD own h ev en ents el m H) (x : FrM (fun b => own b = 1 ∨ own b = d + 3) H H') (hm : m ≤ m') (hX : ents[d]? = some X)
    (hh : HandAt (fun b => own b = 0) H' h) (ok : EntOk P w K C CD own (d + 3) m' H' X (!decide (d ∈ el))) : Mk2 P w K C CD own h ev en ents el m' H' := by
  refine ⟨x.at k.ev_ (by rw [k.oev]; omega), x.at k.en_ (by rw [k.oen]; omega), fun i Y hY => ?_, k.dom.fr x, hh, k.oh, k.oev, k.oen⟩
  by_cases e : i = d
  · subst e
    rw [hX] at hY
    cases hY
    exact ok
  · refine ((k.ok i Y hY).mono hm).fr x fun b hb => ?_
    rcases hb with hb | hb <;> rw [hb]
    · exact ⟨by decide, by omega⟩
    · exact ⟨by omega, by omega⟩
end
end L2.K47
/-! K47, part J2: the law is walked -/
namespace L2.K47
open PySem PySem.Spec PyProof.Rows LamX NdefX

section
variable {P : Program} {w : World} {K : PySem.W.Frag} {mg : Str → Option Value} {base : Heap} {f C CD Pt : Addr} {fd : FuncData}
theorem EBase.ended {own : Addr → Nat} {j : Nat} {H : Hp} {X : Ent} (b : EBase C own j H X true) : EBase C own j (upd H X.t (.ins C X.dx (X.tr false).fs)) X false := by
  have k0 : ∀ b', own b' = 0 → ¬ b' = X.t := fun b' e z => b.jn (by rw [← b.mine X.t (by simp), ← z]; exact e)
  have x : FrM (· = X.t) H (upd H X.t (.ins C X.dx (X.tr false).fs)) := FrM.upd (M := fun b => b = X.t) FrM.refl b.t_ rfl rfl
  obtain ⟨S, s1, s2, s3⟩ := b.st
  exact ⟨x.at b.e_ (k0 _ b.oe), upd_same, x.at b.c_ (k0 _ b.oc), b.n0, b.lk.fr x k0, b.wk.fr x k0, ⟨S, s1, x.at s2 (k0 _ b.ou), x.at s3 (k0 _ b.ok)⟩, b.nd, b.mine, b.oe, b.oc, b.ou, b.ok, b.jn⟩
theorem EntOk.ended {own : Addr → Nat} {j m : Nat} {H : Hp} {X : Ent} (o : EntOk P w K C CD own j m H X true) : EntOk P w K C CD own j m (upd H X.t (.ins C X.dx (X.tr false).fs)) X false := by
  obtain ⟨⟨t_w, t_kd, t_rd, t_wa, t_g, t_r, t_dl⟩, _⟩ := nd8 o.b.nd
  have k0 : ∀ b', own b' = 0 → ¬ b' = X.t := fun b' e z => o.b.jn (by rw [← o.b.mine X.t (by simp), ← z]; exact e)
  have x : FrM (· = X.t) H (upd H X.t (.ins C X.dx (X.tr false).fs)) := FrM.upd (M := fun b => b = X.t) FrM.refl o.b.t_ rfl rfl
  exact ⟨o.b.ended, o.wr.fr x (fun e => t_w (Eq.symm e)) (fun e => t_wa (Eq.symm e)), o.ks.fr x (fun e => t_kd (Eq.symm e)) (fun e => t_g (Eq.symm e)), o.rs.fr x (fun e => t_rd (Eq.symm e)) (fun e => t_r (Eq.symm e)), o.ds.fr x k0 (fun e => t_dl (Eq.symm e))⟩
theorem ok_law (B : Bt mg) (F : Fun K "law" "law" sLaw f fd) (GH : GOk P w K mg base 1 "_law_hand" (spHand K)) (GD : GOk P w K mg base 1 "_law_draw" spDraw) (GS : GOk P w K mg base 4 "_law_snapshot" spSnap) (GM : GOk P w K mg base 4 "_law_made" (spMade P w C Pt))
    (GT : GOk P w K mg base 5 "_law_step" (spStep P w K C CD)) (GL : GOk P w K mg base 10 "_law_dealt" (spDealt P w K C CD)) (GR : GOk P w K mg base 10 "_law_all_right" (spRight P w K C CD)) (ME : MOk P w K mg base C 2 "end" (spTEnd C)) (MO : MOk P w K mg base C 1 "is_open" (spTIsOpen C)) :
    FnOk P w K mg base CX0 11 f fd ["_law_script"] (spLaw K Pt) := by
  refine F.ok scLaw (fun vs H Q E h => ?_) (fun cdv A outer s H vs Q E hr h => ?_)
  · obtain ⟨a, ns, rfl, _⟩ := h
    rfl
  · obtain ⟨a, ns, rfl, hS, hlen, hP, q⟩ := h
    -- one more entry
    obtain ⟨t1, pt1, ht1⟩ : ∃ t, PSs (cxOf CX0 P w K mg base NLw "law" (defScope sLaw) f cdv A outer s H E).nox ((forBody ((defBody sLaw).getD 3 (.Pass ⟨0, 0, 0, 0⟩))).drop 1) t ∧
        ∀ (D : Ends) (own : Addr → Nat) (h ev : Addr) (ents : List Ent) (n : Int) (u : Addr) (S : KVs) (v5 v6 v7 v8 v9 : Option V) (H' : Hp), Mk1 P w K C CD Pt own h ev ents H' → ents.length ≤ 900 → H' u = some (.dK S) → SK S → own u = 0 → 0 ≤ n →
          (∀ own2 X H2, Mk1 P w K C CD Pt own2 h ev (ents ++ [X]) H2 → H2 u = some (.dK S) → own2 u = 0 → D.nx [some (.ref a), some (.ref h), some (.int n), some (.ref u), some (.ref ev), v5, v6, v7, v8, v9] H2) →
          t D [some (.ref a), some (.ref h), some (.int n), some (.ref u), some (.ref ev), v5, v6, v7, v8, v9] H' := by
      refine ⟨_, pss_one (ps_expr (pe_bm PySem.F.plainAttrs_list PySem.F.slot_list_append PySem.F.type_list_append mt_append (pv 4) (pa_cons (pe_g GM hr (by rfl) (pa_cons (pv 2) (pa_cons (pv 3) pa_nil))) pa_nil))), fun D own h ev ents n u S v5 v6 v7 v8 v9 H' mk el hu hSK ou n0 go => ?_⟩
      refine ⟨_, rfl, .inl ⟨rfl, _, SqL.of mk.ev_⟩, _, rfl, _, rfl, u, S, n, rfl, mk.tabs, hu, fun X H2 fr T N => ?_⟩
      obtain ⟨ps, hPt⟩ := mk.tab
      have hev2 := fr.at mk.ev_ (ne_of mk.ev_ hPt (by intro z; cases z))
      refine ⟨ev, _, _, rfl, rfl, hev2, small1000 (by rw [List.length_map]; omega), ?_⟩
      obtain ⟨own2, mk2, old⟩ := mk.more fr T N hSK n0 ou ⟨_, hu⟩
      have hu2 := fr.at hu (ne_of hu hPt (by intro z; cases z))
      exact go own2 X _ mk2 ((upd_ne (ne_of hu2 hev2 (by intro z; cases z))).trans hu2) ((old _ _ hu).trans ou)
    -- who is open
    obtain ⟨t3, pt3, ht3⟩ : ∃ t, PSs (cxOf CX0 P w K mg base NLw "law" (defScope sLaw) f cdv A outer s H E).nox ((forBody ((defBody sLaw).getD 5 (.Pass ⟨0, 0, 0, 0⟩))).drop 2) t ∧
        ∀ (D : Ends) (own : Addr → Nat) (h ev en : Addr) (ents : List Ent) (el : List Nat) (m : Nat) (v2 v3 v5 v7 v8 v9 : Option V) (H' : Hp), Mk2 P w K C CD own h ev en ents el m H' → ents.length ≤ 900 →
          (∀ H2, Same H' H2 → D.nx [some (.ref a), some (.ref h), v2, v3, some (.ref ev), v5, some (.ref en), v7, v8, v9] H2) → t D [some (.ref a), some (.ref h), v2, v3, some (.ref ev), v5, some (.ref en), v7, v8, v9] H' := by
      refine ⟨_, pss_one (ps_if (pt_cmpR (op_neD hr.units)
          (pe_lc (own := [("_law_some", 8)]) (g := gName 8) (tt := tYes) (te := tMeth C "is_open" (spTIsOpen C) [] E0 (tOp (rIxL K) (tVar 8) (tC (.int 0))) tNil) (by rfl) scLaw.nd (pi_list (pv 4)) (blkOk_by (own := [("_law_some", 8)]) (N := NLw) (sc := defScope sLaw) (by decide +kernel))
            (fun _ _ _ _ _ => pg_name (i := 8) scLaw.nd rfl (Or.inl rfl)) (fun _ _ _ _ _ => pts_nil) (fun _ _ _ _ _ => pe_m0 (pe_ix ix_list (pv 8) pe_int (fun _ _ => rfl)) MO hr))
          (pe_lc (own := [("_law_spot", 9)]) (g := gName 9) (tt := tYes) (by rfl) scLaw.nd (pi_range1 (by rfl) B.range (pa_cons (pe_callB call_len_seq (by rfl) B.len PySem.boot_len (pa_cons (pv 4) pa_nil)) pa_nil)) (blkOk_by (own := [("_law_spot", 9)]) (N := NLw) (sc := defScope sLaw) (by decide +kernel))
            (fun _ _ _ _ _ => pg_name (i := 9) scLaw.nd rfl (Or.inl rfl)) (fun _ _ _ _ _ => pts_nil) (fun _ _ _ _ _ => pe_cmpR (r := rIn K true) op_notIn_seq (pv 9) (pv 6) rfl)) (nomark _)) (pss_one (ps_ret pe_bl)) pss_nil), fun D own h ev en ents el m v2 v3 v5 v7 v8 v9 H' mk ell go => ?_⟩
      have step : ∀ i, ((List.range (i + 1)).map fun k => !decide (k ∈ el)).map PyData.bool = ((List.range i).map fun k => !decide (k ∈ el)).map PyData.bool ++ [.bool (!decide (i ∈ el))] := fun i => by rw [List.range_succ, List.map_append, List.map_append]; rfl
      refine ⟨_, rfl, ev, rfl, ⟨_, SqL.of mk.ev_⟩, fun D1 nD1 => lc_data (K := K) (walk_list (xs := ents.map fun X => V.ref X.e)) nD1 (fun H2 s2 => SqL.of (s2 _ _ mk.ev_)) (fun i => ((List.range i).map fun k => !decide (k ∈ el)).map PyData.bool) rfl (small_size (by rw [List.length_map]; omega)) ?_ ?_⟩
      · rintro i x H2 H3 K1 K0 hi s2 ⟨rfl, hx⟩ k1 _
        rw [List.getElem?_map] at hx
        cases hX : ents[i]? with
        | none => rw [hX] at hx; cases hx
        | some X =>
          rw [hX] at hx
          cases hx
          have b := (mk.ok i X hX).b
          refine ⟨rfl, _, rfl, _, _, _, _, rfl, rfl, SqL.of (s2 _ _ b.e_), atI_nat (j := 0) rfl, X.t, X.dx, _, rfl, s2 _ _ b.t_, Tr.l_no (by decide +kernel), X.t, X.dx, X.tr _, rfl, s2 _ _ b.t_, ?_⟩
          exact k1 _ _ _ (Same.refl _) (.bl _) rfl (step i)
      · intro H2 ys s2 hy hd
        rw [List.length_map] at hd
        have mk2 := mk.same s2
        refine ⟨_, rfl, ev, _, rfl, .inl (SqL.of mk2.ev_), _, rfl, by rw [List.length_map]; omega, by rw [List.length_map]; omega, fun D2 nD2 => lc_data (K := K) walk_range nD2 (fun _ _ => trivial) (fun i => ((List.range i).map fun k => !decide (k ∈ el)).map PyData.bool) rfl (small_size (by rw [List.length_map]; omega)) ?_ ?_⟩
        · rintro i x H3 H4 K1 K0 hi s3 ⟨rfl, rfl⟩ k1 _
          refine ⟨rfl, _, rfl, _, rfl, en, _, rfl, .inl (SqL.of (s3 _ _ mk2.en_)), rfl, flat_nat el, ?_⟩
          show K1 (V.bl (!inV (V.int ((0 : Int) + (i : Nat))) (el.map fun k : Nat => V.int (k : Int)))) _
          rw [show ((0 : Int) + (i : Nat)) = (i : Int) by omega, inV_nat]
          exact k1 _ _ _ (Same.refl _) (.bl _) rfl (step i)
        · intro H3 zs s3 hz hdz
          rw [List.length_map, Int.toNat_natCast] at hdz
          refine ⟨_, _, .lst (SqL.of (s3 _ _ hy)) (DpAll.same s3 _ _ hd), .lst (SqL.of hz) hdz, bools_shaped _, bools_shaped _, _, rfl, ?_⟩
          rw [SeqAt.eqv_refl _ (bools_lay _)]
          exact iteF (go H3 (s2.trans s3))
    -- the end
    obtain ⟨t4, pt4, ht4⟩ : ∃ t, PSs (cxOf CX0 P w K mg base NLw "law" (defScope sLaw) f cdv A outer s H E).nox ((ifBody ((forBody ((defBody sLaw).getD 5 (.Pass ⟨0, 0, 0, 0⟩))).getD 1 (.Pass ⟨0, 0, 0, 0⟩))).drop 2) t ∧
        ∀ (D : Ends) (own : Addr → Nat) (h ev en : Addr) (ents : List Ent) (el : List Nat) (m d : Nat) (X : Ent) (v2 v3 v5 v8 v9 : Option V) (H' : Hp), Mk2 P w K C CD own h ev en ents el m H' → el.length ≤ 900 → ents[d]? = some X → d ∉ el →
          (∀ el' H2, Mk2 P w K C CD own h ev en ents el' m H2 → el'.length ≤ el.length + 1 → D.nx [some (.ref a), some (.ref h), v2, v3, some (.ref ev), v5, some (.ref en), some (.int (d : Int)), v8, v9] H2) →
          t D [some (.ref a), some (.ref h), v2, v3, some (.ref ev), v5, some (.ref en), some (.int (d : Int)), v8, v9] H' := by
      refine ⟨_, pss_one (ps_if (pt_cmpR op_eq (pe_g GD hr (by rfl) (pa_cons (pv 1) (pa_cons pe_int pa_nil))) pe_int (nomark _))
          (pss_cons (ps_expr (pe_m0 (pe_ix ix_list (pe_ix ix_list (pv 4) (pv 7) (fun _ _ => rfl)) pe_int (fun _ _ => rfl)) ME hr))
          (pss_one (ps_expr (pe_bm PySem.F.plainAttrs_list PySem.F.slot_list_append PySem.F.type_list_append mt_append (pv 6) (pa_cons (pv 7) pa_nil))))) pss_nil), fun D own h ev en ents el m d X v2 v3 v5 v8 v9 H' mk ell hX hd go => ?_⟩
      refine ⟨_, rfl, _, h, 12, rfl, mk.hand, by decide, by decide, fun z H1 z0 z1 fr1 hh1 => ⟨rfl, _, rfl, ?_⟩⟩
      have mk1 := mk.draw fr1 hh1
      refine ite2 (fun _ => ?_) fun _ => go el H1 mk1 (Nat.le_succ _)
      have ok := mk1.ok d X hX
      rw [decide_eq_false hd] at ok
      have b := ok.b
      have hXe : (ents.map fun X => V.ref X.e)[d]? = some (V.ref X.e) := by rw [List.getElem?_map, hX]; rfl
      refine ⟨_, rfl, _, rfl, _, _, _, _, rfl, rfl, SqL.of mk1.ev_, atI_nat hXe, _, _, _, _, rfl, rfl, SqL.of b.e_, atI_nat (j := 0) rfl, X.t, X.dx, _, rfl, b.t_, Tr.l_no (by decide +kernel), X.t, X.dx, X.tr true, rfl, b.t_, rfl, ?_⟩
      have ot : own X.t = d + 3 := b.mine X.t (by simp)
      have x2 : FrM (· = X.t) H1 (upd H1 X.t (.ins C X.dx (X.tr false).fs)) := FrM.upd (M := fun b => b = X.t) FrM.refl b.t_ rfl rfl
      have ent : en ≠ X.t := fun e => by
        have := mk.oen
        rw [e, ot] at this
        omega
      have hen2 := x2.at mk1.en_ ent
      refine ⟨_, rfl, .inl ⟨rfl, _, SqL.of hen2⟩, _, rfl, en, _, _, rfl, rfl, hen2, small1000 (by rw [List.length_map]; omega), ?_⟩
      have x3 : FrM (· = en) (upd H1 X.t (.ins C X.dx (X.tr false).fs)) (upd (upd H1 X.t (.ins C X.dx (X.tr false).fs)) en (.lst ((el.map fun k : Nat => V.int (k : Int)) ++ [.int (d : Int)]))) := FrM.upd (M := fun b => b = en) FrM.refl hen2 rfl rfl
      have evt : ev ≠ X.t := fun e => by
        have := mk.oev
        rw [e, ot] at this
        omega
      have evn : ev ≠ en := fun e => by
        have h1 := mk1.ev_
        rw [e, mk1.en_] at h1
        have h2 := Option.some.inj h1
        injection h2 with h3
        have h4 := congrArg (fun l => l[d]?) h3
        simp only [List.getElem?_map, hX] at h4
        cases hq : el[d]? with
        | none => rw [hq] at h4; cases h4
        | some k => rw [hq] at h4; cases h4
      have enf : ∀ {j : Nat}, 3 ≤ j → ∀ b, b = en → own b ≠ 0 ∧ own b ≠ j := fun hj b hb => by
        rw [hb, mk.oen]
        exact ⟨by decide, by omega⟩
      refine go (el ++ [d]) _ ⟨x3.at (x2.at mk1.ev_ evt) evn, ?_, fun i Y hY => ?_, (mk1.dom.fr x2).fr x3, ?_, mk.oh, mk.oev, mk.oen⟩ (by rw [List.length_append, List.length_singleton]; exact Nat.le_refl _)
      · rw [upd_same, List.map_append]
        rfl
      · by_cases e : i = d
        · subst e
          rw [hX] at hY
          cases hY
          have e1 : decide (i ∈ el ++ [i]) = true := decide_eq_true (by simp)
          rw [e1]
          exact ok.ended.fr x3 fun b hb => enf (by omega) b hb
        · have e1 : decide (i ∈ el ++ [d]) = decide (i ∈ el) := decide_eq_decide.mpr (by simp [e])
          rw [e1]
          refine ((mk1.ok i Y hY).fr x2 fun b hb => ?_).fr x3 fun b hb => enf (by omega) b hb
          have hb : b = X.t := hb
          rw [hb, ot]
          exact ⟨by omega, by omega⟩
      · refine (mk1.hand.fr x2 (fun b e z => ?_) fun z => ?_).fr x3 (fun b e z => ?_) fun z => ?_
        · rw [z, ot] at e
          omega
        · have := mk.oh
          rw [z, ot] at this
          omega
        · rw [z, mk.oen] at e
          cases e
        · have := mk.oh
          rw [z, mk.oen] at this
          cases this
    refine ⟨_, pss_cons (ps_set (i := 1) scLaw.nd rfl (Or.inl rfl) (pe_g GH hr (by rfl) (pa_cons (pv 0) pa_nil)))
      (pss_cons (ps_asg (pe_g GS hr (by rfl) (pa_cons (pv 1) pa_nil)) (pg_tup rfl (pgs_cons (pg_name (i := 2) scLaw.nd rfl (Or.inl rfl)) (pgs_cons (pg_name (i := 3) scLaw.nd rfl (Or.inl rfl)) pgs_nil))))
      (pss_cons (ps_set (i := 4) scLaw.nd rfl (Or.inl rfl) (pe_lst pa_nil))
      (pss_cons (ps_for PassesOwn.never rfl (pi_range1 (by rfl) B.range (pa_cons (pe_op op_add pe_int (pe_g GD hr (by rfl) (pa_cons (pv 1) (pa_cons pe_int pa_nil)))) pa_nil)) (pg_name (i := 5) scLaw.nd rfl (Or.inl rfl))
        (pss_cons (ps_if (pt_cmpR op_eq (pe_g GD hr (by rfl) (pa_cons (pv 1) (pa_cons pe_int pa_nil))) pe_int (nomark _))
          (pss_one (ps_asg (pe_g GS hr (by rfl) (pa_cons (pv 1) pa_nil)) (pg_tup rfl (pgs_cons (pg_name (i := 2) scLaw.nd rfl (Or.inl rfl)) (pgs_cons (pg_name (i := 3) scLaw.nd rfl (Or.inl rfl)) pgs_nil))))) pss_nil) pt1))
      (pss_cons (ps_set (i := 6) scLaw.nd rfl (Or.inr rfl) (pe_lst pa_nil))
      (pss_cons (ps_for PassesOwn.never rfl (pi_range1 (by rfl) B.range (pa_cons (pe_g GD hr (by rfl) (pa_cons (pv 1) (pa_cons pe_int pa_nil))) pa_nil)) (pg_name (i := 5) scLaw.nd rfl (Or.inl rfl))
        (pss_cons (ps_set (i := 7) scLaw.nd rfl (Or.inl rfl) (pe_g GD hr (by rfl) (pa_cons (pv 1) (pa_cons (pe_callB call_len_seq (by rfl) B.len PySem.boot_len (pa_cons (pv 4) pa_nil)) pa_nil))))
        (pss_cons (ps_if (pt_cmpR op_notIn_seq (pv 7) (pv 6) rfl)
          (pss_cons (ps_if (pt_not (pt_val (pe_g GT hr (by rfl) (pa_cons (pv 1) (pa_cons (pe_ix ix_list (pe_ix ix_list (pv 4) (pv 7) (fun _ _ => rfl)) pe_int (fun _ _ => rfl)) (pa_cons (pe_ix ix_list (pe_ix ix_list (pv 4) (pv 7) (fun _ _ => rfl)) pe_int (fun _ _ => rfl)) pa_nil)))))) (pss_one (ps_ret pe_bl)) pss_nil)
          (pss_cons (ps_if (pt_cmpR op_eq (pe_g GD hr (by rfl) (pa_cons (pv 1) (pa_cons pe_int pa_nil))) pe_int (nomark _)) (pss_one (ps_expr (pe_g GL hr (by rfl) (pa_cons (pe_ix ix_list (pv 4) (pv 7) (fun _ _ => rfl)) pa_nil)))) pss_nil) pt4)) pss_nil) pt3)))
      (pss_one (ps_ret (pe_g GR hr (by rfl) (pa_cons (pv 4) pa_nil))))))))), ?_⟩
    have T0 : Tabs (TabL Pt) H := fun p hp => by
      rw [List.mem_singleton.mp hp]
      exact ⟨#[], hP, trivial, fun pos cv hc => by cases hc⟩
    refine ⟨_, rfl, a, ns, rfl, hS, hlen, fun h H1 s1 nh hh1 => ?_⟩
    have hP1 := s1 _ _ hP
    have Pth : Pt ≠ h := ne_of_none hP nh
    obtain ⟨own0, hown0⟩ : ∃ own0 : Addr → Nat, own0 = fun b => if b = h then 1 else if b = Pt then 2 else 0 := ⟨_, rfl⟩
    have o0h : own0 h = 1 := by rw [hown0]; exact if_pos rfl
    have o0P : own0 Pt = 2 := by rw [hown0]; exact (if_neg Pth).trans (if_pos rfl)
    have o0z : ∀ {b : Addr}, b ≠ h → b ≠ Pt → own0 b = 0 := fun h1 h2 => by rw [hown0]; exact (if_neg h1).trans (if_neg h2)
    have hand0 : HandAt (fun b => own0 b = 0) H1 h := by
      obtain ⟨cl, xs, p, r, a, n, h1, h2, ⟨h3, h4⟩, h5⟩ := hh1
      exact ⟨cl, xs, p, r, a, n, h1, h2, o0z h4 (fun e => by rw [e, hP] at h3; cases h3), h5⟩
    refine ⟨_, rfl, _, h, rfl, hand0, fun t u n S H2 fr2 hh2 hSK n0 n1 nu hu ht => ⟨t, _, rfl, SqT.of ht, rfl, _, _, rfl, _, _, rfl, rfl, ?_⟩⟩
    obtain ⟨hl0, hh10⟩ := hand_tr hand0
    have hP2 := fr2.at hP1 Pth
    have T2 : Tabs (TabL Pt) H2 := by
      obtain ⟨_, _, _, _, _, _, h1, _⟩ := hand0
      exact Tabs.frm (T0.ext s1) fr2 h1
    obtain ⟨oh2, hh22⟩ := hand_tr hh2
    refine ⟨Nat.zero_le _, fun ev nev => ?_⟩
    have s3 : Same H2 (upd H2 ev (.lst [])) := Same.new (Same.refl _) nev
    obtain ⟨own1, hown1⟩ : ∃ own1 : Addr → Nat, own1 = fun b => if b = ev then 2 else own0 b := ⟨_, rfl⟩
    have o1ev : own1 ev = 2 := by rw [hown1]; exact if_pos rfl
    have o1o : ∀ {b : Addr} {o : HO}, H2 b = some o → own1 b = own0 b := fun e => by rw [hown1]; exact if_neg (ne_of_none e nev)
    have uh : u ≠ h := fun e => by
      obtain ⟨_, _, _, _, _, _, h1, _⟩ := hand0
      rw [e, h1] at nu
      cases nu
    have uP : u ≠ Pt := fun e => by rw [e, hP1] at nu; cases nu
    have mk0 : Mk1 P w K C CD Pt own1 h ev [] (upd H2 ev (.lst [])) := by
      refine ⟨upd_same, fun k X hX => by simp at hX, fun b hb => ?_, fun b hb => ?_, T2.ext s3, ?_, (o1o hh22).trans o0h, o1ev, (o1o hP2).trans o0P⟩
      · by_cases e1 : b = ev
        · rw [e1]; exact ⟨_, upd_same⟩
        · by_cases e2 : b = h
          · rw [e2]; exact ⟨_, s3 _ _ hh22⟩
          · by_cases e3 : b = Pt
            · rw [e3]; exact ⟨_, s3 _ _ hP2⟩
            · refine absurd ?_ hb
              rw [hown1]
              exact (if_neg e1).trans (o0z e2 e3)
      · have e1 : b ≠ ev := fun e => by
          rw [e, upd_same] at hb
          have hb := Option.some.inj hb
          unfold CodeO at hb
          cases hb
        have e2 : b ≠ h := fun e => by
          obtain ⟨_, _, _, _, _, _, h1, _⟩ := hh2
          rw [e, s3 _ _ h1] at hb
          have hb := Option.some.inj hb
          unfold CodeO at hb
          cases hb
        have e3 : b ≠ Pt := fun e => by
          rw [e, s3 _ _ hP2] at hb
          have hb := Option.some.inj hb
          unfold CodeO at hb
          cases hb
        rw [hown1]
        exact (if_neg e1).trans (o0z e2 e3)
      · obtain ⟨cl, xs, p, r, a, n, h1, h2, h3, h4⟩ := hh2
        exact ⟨cl, xs, p, r, a, n, s3 _ _ h1, s3 _ _ h2, (o1o h2).trans h3, h4⟩
    have hu3 := s3 _ _ hu
    have ou3 : own1 u = 0 := (o1o hu).trans (o0z uh uP)
    generalize upd H2 ev (.lst []) = H3 at mk0 hu3 ⊢
    refine ⟨_, rfl, _, h, 4, rfl, mk0.hand, by decide, by decide, fun d H4 d0 d1 fr4 hh4 => ⟨_, _, rfl, rfl, _, rfl, by omega, by omega, ?_⟩⟩
    refine for_range (n := _) (fun i σ H' => ∃ (own : Addr → Nat) (ents : List Ent) (n : Int) (u : Addr) (S : KVs) (v5 : Option V), σ = [some (.ref a), some (.ref h), some (.int n), some (.ref u), some (.ref ev), v5, none, none, none, none] ∧ ents.length = i ∧
      Mk1 P w K C CD Pt own h ev ents H' ∧ H' u = some (.dK S) ∧ SK S ∧ own u = 0 ∧ 0 ≤ n) ⟨own1, [], n, u, S, none, rfl, rfl, mk0.draw fr4 hh4, fr4.at hu3 uh, hSK, ou3, n0⟩ ?_ ?_
    · rintro i σ H' hi ⟨own, ents, n, u, S, v5, rfl, hl, mk, hu, hSK, ou, n0⟩
      have ell : ents.length ≤ 900 := by omega
      refine ⟨_, rfl, _, h, 2, rfl, mk.hand, by decide, by decide, fun z H5 _ _ fr5 hh5 => ⟨rfl, _, rfl, ?_⟩⟩
      have mk5 := mk.draw fr5 hh5
      have uh5 : u ≠ h := fun e => by rw [e, mk.oh] at ou; cases ou
      have hu5 := fr5.at hu uh5
      refine ite2 (fun _ => ?_) fun _ => ?_
      · refine ⟨_, rfl, _, h, rfl, mk5.hand, fun t u' n' S' H6 fr6 hh6 hSK' n0' n1' nu' hu' ht' => ⟨t, _, rfl, SqT.of ht', rfl, _, _, rfl, _, _, rfl, rfl, ?_⟩⟩
        have mk6 := mk5.draw fr6 hh6
        exact ht1 _ own h ev ents n' u' S' _ none none none none H6 mk6 ell hu' hSK' (mk5.dom.new nu') n0' fun own2 X H7 mk7 hu7 ou7 => ⟨own2, ents ++ [X], n', u', S', _, rfl, by rw [List.length_append, List.length_singleton, hl], mk7, hu7, hSK', ou7, n0'⟩
      · exact ht1 _ own h ev ents n u S _ none none none none H5 mk5 ell hu5 hSK ou n0 fun own2 X H7 mk7 hu7 ou7 => ⟨own2, ents ++ [X], n, u, S, _, rfl, by rw [List.length_append, List.length_singleton, hl], mk7, hu7, hSK, ou7, n0⟩
    · rintro σ H5 ⟨own, ents, n, u, S, v5, rfl, hl, mk, hu, hSK, ou, n0⟩
      have l1 : 1 ≤ ents.length := by omega
      have l2 : ents.length ≤ 10 := by omega
      refine ⟨Nat.zero_le _, fun en nen => ?_⟩
      have s6 : Same H5 (upd H5 en (.lst [])) := Same.new (Same.refl _) nen
      obtain ⟨own2, hown2⟩ : ∃ own2 : Addr → Nat, own2 = fun b => if b = en then 2 else own b := ⟨_, rfl⟩
      have o2o : ∀ b o, H5 b = some o → own2 b = own b := fun b o e => by rw [hown2]; exact if_neg (ne_of_none e nen)
      have mk6 : Mk2 P w K C CD own2 h ev en ents [] 0 (upd H5 en (.lst [])) := by
        obtain ⟨o', hh5'⟩ := hand_tr mk.hand
        refine ⟨s6 _ _ mk.ev_, upd_same, fun k X hX => ?_, fun b hb => ?_, ?_, (o2o _ _ hh5').trans mk.oh, (o2o _ _ mk.ev_).trans mk.oev, by rw [hown2]; exact if_pos rfl⟩
        · exact ((mk.ok k X hX).owned o2o).fr (M := fun _ => False) (FrM.same s6) (fun _ z => z.elim)
        · by_cases e1 : b = en
          · rw [e1]; exact ⟨_, upd_same⟩
          · have hb' : own b ≠ 0 := fun e => hb (by rw [hown2]; exact (if_neg e1).trans e)
            obtain ⟨o, ho⟩ := mk.dom b hb'
            exact ⟨o, s6 _ _ ho⟩
        · obtain ⟨cl, xs, p, r, a, n, h1, h2, h3, h4⟩ := mk.hand
          exact ⟨cl, xs, p, r, a, n, s6 _ _ h1, s6 _ _ h2, (o2o _ _ h2).trans h3, h4⟩
      generalize upd H5 en (.lst []) = H6 at mk6 ⊢
      refine ⟨_, rfl, _, h, 41, rfl, mk6.hand, by decide, by decide, fun d2 H7 e0 e1 fr7 hh7 => ⟨_, rfl, by omega, by omega, ?_⟩⟩
      refine for_range (n := _) (fun i σ H' => ∃ (el : List Nat) (v5 v7 : Option V), σ = [some (.ref a), some (.ref h), some (.int n), some (.ref u), some (.ref ev), v5, some (.ref en), v7, none, none] ∧ el.length ≤ i ∧ Mk2 P w K C CD own2 h ev en ents el i H')
        ⟨[], _, _, rfl, Nat.le_refl _, mk6.draw fr7 hh7⟩ ?_ ?_
      · rintro i σ H' hi ⟨el, v5, v7, rfl, hel, mk⟩
        refine ⟨_, rfl, _, rfl, ev, _, rfl, .inl (SqL.of mk.ev_), _, h, _, rfl, mk.hand, by rw [List.length_map]; omega, by rw [List.length_map]; omega, fun d H9 d0 d1 fr9 hh9 => ?_⟩
        rw [List.length_map] at d1
        obtain ⟨j, rfl⟩ : ∃ j : Nat, d = (j : Int) := ⟨d.toNat, by omega⟩
        have hj : j < ents.length := by omega
        have hX : ents[j]? = some ents[j] := List.getElem?_eq_getElem hj
        generalize ents[j] = X at hX
        have hXe : (ents.map fun X => V.ref X.e)[j]? = some (V.ref X.e) := by rw [List.getElem?_map, hX]; rfl
        have mk9 := mk.draw fr9 hh9
        have last : ∀ (D : Ends) (el' : List Nat) (v5' v8 v9 : Option V) (H2 : Hp), Mk2 P w K C CD own2 h ev en ents el' (i + 1) H2 → el'.length ≤ i + 1 → (∀ H3, Same H2 H3 → D.nx [some (.ref a), some (.ref h), some (.int n), some (.ref u), some (.ref ev), v5', some (.ref en), some (.int (j : Int)), v8, v9] H3) → _ :=
          fun D el' v5' v8 v9 H2 m' _ g => ht3 D own2 h ev en ents el' (i + 1) (some (.int n)) (some (.ref u)) v5' (some (.int (j : Int))) v8 v9 H2 m' (by omega) g
        refine ⟨_, rfl, _, rfl, en, _, rfl, .inl (SqL.of mk9.en_), rfl, flat_nat el, _, rfl, ?_⟩
        show (if (!inV (V.int (j : Int)) (el.map fun k : Nat => V.int (k : Int))) = true then _ else _)
        rw [inV_nat]
        by_cases hd : j ∈ el
        · rw [decide_eq_true hd]
          refine iteF ?_
          exact last _ el _ none none H9 (mk9.mono (Nat.le_succ i)) (by omega) fun H3 s3 => ⟨el, _, _, rfl, by omega, (mk9.mono (Nat.le_succ i)).same s3⟩
        · rw [decide_eq_false hd]
          refine iteT ?_
          have ok9 := mk9.ok j X hX
          rw [decide_eq_false hd] at ok9
          have b := ok9.b
          refine ⟨_, rfl, _, rfl, _, rfl, _, _, _, _, rfl, rfl, SqL.of mk9.ev_, atI_nat hXe, _, _, _, _, rfl, rfl, SqL.of b.e_, atI_nat (j := 0) rfl, _, rfl, _, rfl, _, _, _, _, rfl, rfl, SqL.of mk9.ev_, atI_nat hXe, _, _, _, _, rfl, rfl, SqL.of b.e_, atI_nat (j := 1) rfl,
            own2, j + 3, i, h, X, rfl, mk9.hand, mk9.oh, by omega, ok9, by omega, fun H10 fr10 hh10 ok10 ds10 => ⟨true, rfl, iteF ?_⟩⟩
          have mk10 : Mk2 P w K C CD own2 h ev en ents el (i + 1) H10 := mk9.one fr10 (Nat.le_succ i) hX hh10 (by rw [decide_eq_false hd]; exact ok10)
          refine ⟨_, rfl, _, h, 5, rfl, mk10.hand, by decide, by decide, fun z H11 _ _ fr11 hh11 => ⟨rfl, _, rfl, ?_⟩⟩
          have mk11 := mk10.draw fr11 hh11
          have odl : own2 X.dl = j + 3 := b.mine X.dl (by simp)
          have hnx : ∀ {b : Addr}, own2 b ≠ 1 → ¬ b = h := fun n e => n (by rw [e]; exact mk9.oh)
          have ds11 := ds10.fr fr11 (fun b e => hnx (by rw [e]; decide)) (hnx (by rw [odl]; omega))
          have ok11 := mk11.ok j X hX
          rw [decide_eq_false hd] at ok11
          refine ite2 (fun _ => ?_) fun _ => ?_
          · refine ⟨_, rfl, _, rfl, _, _, _, _, rfl, rfl, SqL.of mk11.ev_, atI_nat hXe, own2, j + 3, i, X, true, rfl, ok11, ds11, mk11.dom, by omega, fun H12 fr12 ok12 => ?_⟩
            have mk12 : Mk2 P w K C CD own2 h ev en ents el (i + 1) H12 := mk11.one (fr12.mono fun b hb => .inr hb) (Nat.le_refl _) hX (mk11.hand.fr fr12 (fun b e z => by omega) (by rw [mk11.oh]; omega)) (by rw [decide_eq_false hd]; exact ok12)
            exact ht4 _ own2 h ev en ents el (i + 1) j X (some (.int n)) (some (.ref u)) _ none none H12 mk12 (by omega) hX hd fun el' H13 mk13 hl13 => last _ el' _ none none H13 mk13 (by omega) fun H14 s14 => ⟨el', _, _, rfl, by omega, mk13.same s14⟩
          · exact ht4 _ own2 h ev en ents el (i + 1) j X (some (.int n)) (some (.ref u)) _ none none H11 mk11 (by omega) hX hd fun el' H13 mk13 hl13 => last _ el' _ none none H13 mk13 (by omega) fun H14 s14 => ⟨el', _, _, rfl, by omega, mk13.same s14⟩
      · rintro σ H8 ⟨el, v5, v7, rfl, hel, mk⟩
        exact ⟨_, rfl, own2, ev, _, ents, rfl, mk.ev_, fun i X hX => ⟨_, _, mk.ok i X hX⟩, by omega, q⟩
end
end L2.K47
/-! K47, part Z: what the top has left, gathered; the end -/
namespace L2.K47
open PySem PySem.Spec PyProof.Rows LamX NdefX

theorem all_mk {l : PySem.W.OpenLaw} {w : World} {K : PySem.W.Frag} {h : Heap} {mg : Str → Option Value} {fa Pt cc CD CT : Addr} {uL uM : Value} {f_g0 f_g1 f_g2 f_g3 f_g4 f_g5 f_g6 f_g7 f_g8 f_g9 f_g10 f_g11 f_g12 f_g13 f_g14 f_g15 f_g16 f_g17 f_g18 f_g19 f_g20 f_g21 f_g22 f_g23 f_g24 f_g25 f_g26 f_g27 f_g28 f_g29 f_g30 f_g31 f_m0 f_m1 f_m2 f_m3 f_m4 f_m5 f_m6 f_m7 f_m8 f_m9 f_m10 f_m11 f_m12 f_m13 f_m14 f_m15 : Addr}
    {od_g0 an_g0 od_g1 an_g1 od_g2 an_g2 od_g3 an_g3 od_g4 an_g4 od_g5 an_g5 od_g6 an_g6 od_g7 an_g7 od_g8 an_g8 od_g9 an_g9 od_g10 an_g10 od_g11 an_g11 od_g12 an_g12 od_g13 an_g13 od_g14 an_g14 od_g15 an_g15 od_g16 an_g16 od_g17 an_g17 od_g18 an_g18 od_g19 an_g19 od_g20 an_g20 od_g21 an_g21 od_g22 an_g22 od_g23 an_g23 od_g24 an_g24 od_g25 an_g25 od_g26 an_g26 od_g27 an_g27 od_g28 an_g28 od_g29 an_g29 od_g30 an_g30 od_g31 an_g31 od_m0 an_m0 od_m1 an_m1 od_m2 an_m2 od_m3 an_m3 od_m4 an_m4 od_m5 an_m5 od_m6 an_m6 od_m7 an_m7 od_m8 an_m8 od_m9 an_m9 od_m10 an_m10 od_m11 an_m11 od_m12 an_m12 od_m13 an_m13 od_m14 an_m14 od_m15 an_m15 : Option Addr} {sl_g0 sl_g1 sl_g2 sl_g3 sl_g4 sl_g5 sl_g6 sl_g7 sl_g8 sl_g9 sl_g10 sl_g11 sl_g12 sl_g13 sl_g14 sl_g15 sl_g16 sl_g17 sl_g18 sl_g19 sl_g20 sl_g21 sl_g22 sl_g23 sl_g24 sl_g25 sl_g26 sl_g27 sl_g28 sl_g29 sl_g30 sl_g31 sl_m0 sl_m1 sl_m2 sl_m3 sl_m4 sl_m5 sl_m6 sl_m7 sl_m8 sl_m9 sl_m10 sl_m11 sl_m12 sl_m13 sl_m14 sl_m15 : Array (Option Value)}
    {oc_g0 kV_g0 dc_g0 pm_g0 cd_g0 ct_g0 oc_g1 kV_g1 dc_g1 pm_g1 cd_g1 ct_g1 oc_g2 kV_g2 dc_g2 pm_g2 cd_g2 ct_g2 oc_g3 kV_g3 dc_g3 pm_g3 cd_g3 ct_g3 oc_g4 kV_g4 dc_g4 pm_g4 cd_g4 ct_g4 oc_g5 kV_g5 dc_g5 pm_g5 cd_g5 ct_g5 oc_g6 kV_g6 dc_g6 pm_g6 cd_g6 ct_g6 oc_g7 kV_g7 dc_g7 pm_g7 cd_g7 ct_g7 oc_g8 kV_g8 dc_g8 pm_g8 cd_g8 ct_g8 oc_g9 kV_g9 dc_g9 pm_g9 cd_g9 ct_g9 oc_g10 kV_g10 dc_g10 pm_g10 cd_g10 ct_g10 oc_g11 kV_g11 dc_g11 pm_g11 cd_g11 ct_g11 oc_g12 kV_g12 dc_g12 pm_g12 cd_g12 ct_g12 oc_g13 kV_g13 dc_g13 pm_g13 cd_g13 ct_g13 oc_g14 kV_g14 dc_g14 pm_g14 cd_g14 ct_g14 oc_g15 kV_g15 dc_g15 pm_g15 cd_g15 ct_g15 oc_g16 kV_g16 dc_g16 pm_g16 cd_g16 ct_g16 oc_g17 kV_g17 dc_g17 pm_g17 cd_g17 ct_g17 oc_g18 kV_g18 dc_g18 pm_g18 cd_g18 ct_g18 oc_g19 kV_g19 dc_g19 pm_g19 cd_g19 ct_g19 oc_g20 kV_g20 dc_g20 pm_g20 cd_g20 ct_g20 oc_g21 kV_g21 dc_g21 pm_g21 cd_g21 ct_g21 oc_g22 kV_g22 dc_g22 pm_g22 cd_g22 ct_g22 oc_g23 kV_g23 dc_g23 pm_g23 cd_g23 ct_g23 oc_g24 kV_g24 dc_g24 pm_g24 cd_g24 ct_g24 oc_g25 kV_g25 dc_g25 pm_g25 cd_g25 ct_g25 oc_g26 kV_g26 dc_g26 pm_g26 cd_g26 ct_g26 oc_g27 kV_g27 dc_g27 pm_g27 ct_g27 oc_g28 kV_g28 dc_g28 pm_g28 cd_g28 ct_g28 oc_g29 kV_g29 dc_g29 pm_g29 cd_g29 ct_g29 oc_g30 kV_g30 dc_g30 pm_g30 cd_g30 ct_g30 oc_g31 kV_g31 dc_g31 pm_g31 cd_g31 ct_g31 oc_m0 kV_m0 dc_m0 pm_m0 cd_m0 ct_m0 oc_m1 kV_m1 dc_m1 pm_m1 cd_m1 ct_m1 oc_m2 kV_m2 dc_m2 pm_m2 cd_m2 ct_m2 oc_m3 kV_m3 dc_m3 pm_m3 cd_m3 ct_m3 oc_m4 kV_m4 dc_m4 pm_m4 cd_m4 ct_m4 oc_m5 kV_m5 dc_m5 pm_m5 cd_m5 ct_m5 oc_m6 kV_m6 dc_m6 pm_m6 cd_m6 ct_m6 oc_m7 kV_m7 dc_m7 pm_m7 cd_m7 ct_m7 oc_m8 kV_m8 dc_m8 pm_m8 cd_m8 ct_m8 oc_m9 kV_m9 dc_m9 pm_m9 cd_m9 ct_m9 oc_m10 kV_m10 dc_m10 pm_m10 cd_m10 ct_m10 oc_m11 kV_m11 dc_m11 pm_m11 cd_m11 ct_m11 oc_m12 kV_m12 dc_m12 pm_m12 cd_m12 ct_m12 oc_m13 kV_m13 dc_m13 pm_m13 cd_m13 ct_m13 oc_m14 kV_m14 dc_m14 pm_m14 cd_m14 ct_m14 oc_m15 kV_m15 dc_m15 pm_m15 cd_m15 ct_m15 : Value}
    (X : K.In h) (G : h.Ns mainGlobals mg) (hfa : mg "law" = some (.ref fa)) (worth : ∃ u, mg "MOST_WORTH" = some u ∧ RelV (.int (10 ^ 18)) u)
    (a_g0 : PySem.W.nsIn K mainGlobals "is_integer" = some (some (.ref f_g0)))
    (l_g0 : K.lookup f_g0 = some ⟨oc_g0, od_g0, .func (PySem.W.fnOf "is_integer" "is_integer" (defArgs sIsInt) (defBody sIsInt) (defScope sIsInt) .none kV_g0 dc_g0 pm_g0 an_g0 cd_g0 ct_g0), sl_g0⟩)
    (c_g0 : PySem.W.codeIn K cd_g0 "is_integer" = true)
    (k_g0 : PySem.W.keepIn K (.ref f_g0) = true)
    (a_g1 : PySem.W.nsIn K mainGlobals "is_within" = some (some (.ref f_g1)))
    (l_g1 : K.lookup f_g1 = some ⟨oc_g1, od_g1, .func (PySem.W.fnOf "is_within" "is_within" (defArgs sIsWithin) (defBody sIsWithin) (defScope sIsWithin) .none kV_g1 dc_g1 pm_g1 an_g1 cd_g1 ct_g1), sl_g1⟩)
    (c_g1 : PySem.W.codeIn K cd_g1 "is_within" = true)
    (k_g1 : PySem.W.keepIn K (.ref f_g1) = true)
    (a_g2 : PySem.W.nsIn K mainGlobals "is_pair" = some (some (.ref f_g2)))
    (l_g2 : K.lookup f_g2 = some ⟨oc_g2, od_g2, .func (PySem.W.fnOf "is_pair" "is_pair" (defArgs sIsPair) (defBody sIsPair) (defScope sIsPair) .none kV_g2 dc_g2 pm_g2 an_g2 cd_g2 ct_g2), sl_g2⟩)
    (c_g2 : PySem.W.codeIn K cd_g2 "is_pair" = true)
    (k_g2 : PySem.W.keepIn K (.ref f_g2) = true)
    (a_g3 : PySem.W.nsIn K mainGlobals "is_key" = some (some (.ref f_g3)))
    (l_g3 : K.lookup f_g3 = some ⟨oc_g3, od_g3, .func (PySem.W.fnOf "is_key" "is_key" (defArgs sIsKey) (defBody sIsKey) (defScope sIsKey) .none kV_g3 dc_g3 pm_g3 an_g3 cd_g3 ct_g3), sl_g3⟩)
    (c_g3 : PySem.W.codeIn K cd_g3 "is_key" = true)
    (k_g3 : PySem.W.keepIn K (.ref f_g3) = true)
    (a_g4 : PySem.W.nsIn K mainGlobals "is_worth" = some (some (.ref f_g4)))
    (l_g4 : K.lookup f_g4 = some ⟨oc_g4, od_g4, .func (PySem.W.fnOf "is_worth" "is_worth" (defArgs sIsWorth) (defBody sIsWorth) (defScope sIsWorth) .none kV_g4 dc_g4 pm_g4 an_g4 cd_g4 ct_g4), sl_g4⟩)
    (c_g4 : PySem.W.codeIn K cd_g4 "is_worth" = true)
    (k_g4 : PySem.W.keepIn K (.ref f_g4) = true)
    (a_g5 : PySem.W.nsIn K mainGlobals "is_rising" = some (some (.ref f_g5)))
    (l_g5 : K.lookup f_g5 = some ⟨oc_g5, od_g5, .func (PySem.W.fnOf "is_rising" "is_rising" (defArgs sRising) (defBody sRising) (defScope sRising) .none kV_g5 dc_g5 pm_g5 an_g5 cd_g5 ct_g5), sl_g5⟩)
    (c_g5 : PySem.W.codeIn K cd_g5 "is_rising" = true)
    (k_g5 : PySem.W.keepIn K (.ref f_g5) = true)
    (a_g6 : PySem.W.nsIn K mainGlobals "are_keys" = some (some (.ref f_g6)))
    (l_g6 : K.lookup f_g6 = some ⟨oc_g6, od_g6, .func (PySem.W.fnOf "are_keys" "are_keys" (defArgs sAreKeys) (defBody sAreKeys) (defScope sAreKeys) .none kV_g6 dc_g6 pm_g6 an_g6 cd_g6 ct_g6), sl_g6⟩)
    (c_g6 : PySem.W.codeIn K cd_g6 "are_keys" = true)
    (k_g6 : PySem.W.keepIn K (.ref f_g6) = true)
    (a_g7 : PySem.W.nsIn K mainGlobals "is_range" = some (some (.ref f_g7)))
    (l_g7 : K.lookup f_g7 = some ⟨oc_g7, od_g7, .func (PySem.W.fnOf "is_range" "is_range" (defArgs sIsRange) (defBody sIsRange) (defScope sIsRange) .none kV_g7 dc_g7 pm_g7 an_g7 cd_g7 ct_g7), sl_g7⟩)
    (c_g7 : PySem.W.codeIn K cd_g7 "is_range" = true)
    (k_g7 : PySem.W.keepIn K (.ref f_g7) = true)
    (a_g8 : PySem.W.nsIn K mainGlobals "are_ranges" = some (some (.ref f_g8)))
    (l_g8 : K.lookup f_g8 = some ⟨oc_g8, od_g8, .func (PySem.W.fnOf "are_ranges" "are_ranges" (defArgs sAreRanges) (defBody sAreRanges) (defScope sAreRanges) .none kV_g8 dc_g8 pm_g8 an_g8 cd_g8 ct_g8), sl_g8⟩)
    (c_g8 : PySem.W.codeIn K cd_g8 "are_ranges" = true)
    (k_g8 : PySem.W.keepIn K (.ref f_g8) = true)
    (a_g9 : PySem.W.nsIn K mainGlobals "is_write" = some (some (.ref f_g9)))
    (l_g9 : K.lookup f_g9 = some ⟨oc_g9, od_g9, .func (PySem.W.fnOf "is_write" "is_write" (defArgs sIsWrite) (defBody sIsWrite) (defScope sIsWrite) .none kV_g9 dc_g9 pm_g9 an_g9 cd_g9 ct_g9), sl_g9⟩)
    (c_g9 : PySem.W.codeIn K cd_g9 "is_write" = true)
    (k_g9 : PySem.W.keepIn K (.ref f_g9) = true)
    (a_g10 : PySem.W.nsIn K mainGlobals "are_writes" = some (some (.ref f_g10)))
    (l_g10 : K.lookup f_g10 = some ⟨oc_g10, od_g10, .func (PySem.W.fnOf "are_writes" "are_writes" (defArgs sAreWrites) (defBody sAreWrites) (defScope sAreWrites) .none kV_g10 dc_g10 pm_g10 an_g10 cd_g10 ct_g10), sl_g10⟩)
    (c_g10 : PySem.W.codeIn K cd_g10 "are_writes" = true)
    (k_g10 : PySem.W.keepIn K (.ref f_g10) = true)
    (a_g11 : PySem.W.nsIn K mainGlobals "is_numbered" = some (some (.ref f_g11)))
    (l_g11 : K.lookup f_g11 = some ⟨oc_g11, od_g11, .func (PySem.W.fnOf "is_numbered" "is_numbered" (defArgs sNumbered) (defBody sNumbered) (defScope sNumbered) .none kV_g11 dc_g11 pm_g11 an_g11 cd_g11 ct_g11), sl_g11⟩)
    (c_g11 : PySem.W.codeIn K cd_g11 "is_numbered" = true)
    (k_g11 : PySem.W.keepIn K (.ref f_g11) = true)
    (a_g12 : PySem.W.nsIn K mainGlobals "bad_part" = some (some (.ref f_g12)))
    (l_g12 : K.lookup f_g12 = some ⟨oc_g12, od_g12, .func (PySem.W.fnOf "bad_part" "bad_part" (defArgs sBadPart) (defBody sBadPart) (defScope sBadPart) .none kV_g12 dc_g12 pm_g12 an_g12 cd_g12 ct_g12), sl_g12⟩)
    (c_g12 : PySem.W.codeIn K cd_g12 "bad_part" = true)
    (k_g12 : PySem.W.keepIn K (.ref f_g12) = true)
    (a_g13 : PySem.W.nsIn K mainGlobals "check_key" = some (some (.ref f_g13)))
    (l_g13 : K.lookup f_g13 = some ⟨oc_g13, od_g13, .func (PySem.W.fnOf "check_key" "check_key" (defArgs sCheckKey) (defBody sCheckKey) (defScope sCheckKey) .none kV_g13 dc_g13 pm_g13 an_g13 cd_g13 ct_g13), sl_g13⟩)
    (c_g13 : PySem.W.codeIn K cd_g13 "check_key" = true)
    (k_g13 : PySem.W.keepIn K (.ref f_g13) = true)
    (a_g14 : PySem.W.nsIn K mainGlobals "within" = some (some (.ref f_g14)))
    (l_g14 : K.lookup f_g14 = some ⟨oc_g14, od_g14, .func (PySem.W.fnOf "within" "within" (defArgs sWithin) (defBody sWithin) (defScope sWithin) .none kV_g14 dc_g14 pm_g14 an_g14 cd_g14 ct_g14), sl_g14⟩)
    (c_g14 : PySem.W.codeIn K cd_g14 "within" = true)
    (k_g14 : PySem.W.keepIn K (.ref f_g14) = true)
    (a_g15 : PySem.W.nsIn K mainGlobals "_law_hand" = some (some (.ref f_g15)))
    (l_g15 : K.lookup f_g15 = some ⟨oc_g15, od_g15, .func (PySem.W.fnOf "_law_hand" "_law_hand" (defArgs sLHand) (defBody sLHand) (defScope sLHand) .none kV_g15 dc_g15 pm_g15 an_g15 cd_g15 ct_g15), sl_g15⟩)
    (c_g15 : PySem.W.codeIn K cd_g15 "_law_hand" = true)
    (k_g15 : PySem.W.keepIn K (.ref f_g15) = true)
    (a_g16 : PySem.W.nsIn K mainGlobals "_law_draw" = some (some (.ref f_g16)))
    (l_g16 : K.lookup f_g16 = some ⟨oc_g16, od_g16, .func (PySem.W.fnOf "_law_draw" "_law_draw" (defArgs sLDraw) (defBody sLDraw) (defScope sLDraw) .none kV_g16 dc_g16 pm_g16 an_g16 cd_g16 ct_g16), sl_g16⟩)
    (c_g16 : PySem.W.codeIn K cd_g16 "_law_draw" = true)
    (k_g16 : PySem.W.keepIn K (.ref f_g16) = true)
    (a_g17 : PySem.W.nsIn K mainGlobals "_law_any" = some (some (.ref f_g17)))
    (l_g17 : K.lookup f_g17 = some ⟨oc_g17, od_g17, .func (PySem.W.fnOf "_law_any" "_law_any" (defArgs sLAny) (defBody sLAny) (defScope sLAny) .none kV_g17 dc_g17 pm_g17 an_g17 cd_g17 ct_g17), sl_g17⟩)
    (c_g17 : PySem.W.codeIn K cd_g17 "_law_any" = true)
    (k_g17 : PySem.W.keepIn K (.ref f_g17) = true)
    (a_g18 : PySem.W.nsIn K mainGlobals "_law_key" = some (some (.ref f_g18)))
    (l_g18 : K.lookup f_g18 = some ⟨oc_g18, od_g18, .func (PySem.W.fnOf "_law_key" "_law_key" (defArgs sLKey) (defBody sLKey) (defScope sLKey) .none kV_g18 dc_g18 pm_g18 an_g18 cd_g18 ct_g18), sl_g18⟩)
    (c_g18 : PySem.W.codeIn K cd_g18 "_law_key" = true)
    (k_g18 : PySem.W.keepIn K (.ref f_g18) = true)
    (a_g19 : PySem.W.nsIn K mainGlobals "_law_worth" = some (some (.ref f_g19)))
    (l_g19 : K.lookup f_g19 = some ⟨oc_g19, od_g19, .func (PySem.W.fnOf "_law_worth" "_law_worth" (defArgs sLWorth) (defBody sLWorth) (defScope sLWorth) .none kV_g19 dc_g19 pm_g19 an_g19 cd_g19 ct_g19), sl_g19⟩)
    (c_g19 : PySem.W.codeIn K cd_g19 "_law_worth" = true)
    (k_g19 : PySem.W.keepIn K (.ref f_g19) = true)
    (a_g20 : PySem.W.nsIn K mainGlobals "_law_snapshot" = some (some (.ref f_g20)))
    (l_g20 : K.lookup f_g20 = some ⟨oc_g20, od_g20, .func (PySem.W.fnOf "_law_snapshot" "_law_snapshot" (defArgs sLSnap) (defBody sLSnap) (defScope sLSnap) .none kV_g20 dc_g20 pm_g20 an_g20 cd_g20 ct_g20), sl_g20⟩)
    (c_g20 : PySem.W.codeIn K cd_g20 "_law_snapshot" = true)
    (k_g20 : PySem.W.keepIn K (.ref f_g20) = true)
    (a_g21 : PySem.W.nsIn K mainGlobals "_law_walked" = some (some (.ref f_g21)))
    (l_g21 : K.lookup f_g21 = some ⟨oc_g21, od_g21, .func (PySem.W.fnOf "_law_walked" "_law_walked" (defArgs sLWalked) (defBody sLWalked) (defScope sLWalked) .none kV_g21 dc_g21 pm_g21 an_g21 cd_g21 ct_g21), sl_g21⟩)
    (c_g21 : PySem.W.codeIn K cd_g21 "_law_walked" = true)
    (k_g21 : PySem.W.keepIn K (.ref f_g21) = true)
    (a_g22 : PySem.W.nsIn K mainGlobals "_law_account" = some (some (.ref f_g22)))
    (l_g22 : K.lookup f_g22 = some ⟨oc_g22, od_g22, .func (PySem.W.fnOf "_law_account" "_law_account" (defArgs sLAccount) (defBody sLAccount) (defScope sLAccount) .none kV_g22 dc_g22 pm_g22 an_g22 cd_g22 ct_g22), sl_g22⟩)
    (c_g22 : PySem.W.codeIn K cd_g22 "_law_account" = true)
    (k_g22 : PySem.W.keepIn K (.ref f_g22) = true)
    (a_g23 : PySem.W.nsIn K mainGlobals "_law_got" = some (some (.ref f_g23)))
    (l_g23 : K.lookup f_g23 = some ⟨oc_g23, od_g23, .func (PySem.W.fnOf "_law_got" "_law_got" (defArgs sLGot) (defBody sLGot) (defScope sLGot) .none kV_g23 dc_g23 pm_g23 an_g23 cd_g23 ct_g23), sl_g23⟩)
    (c_g23 : PySem.W.codeIn K cd_g23 "_law_got" = true)
    (k_g23 : PySem.W.keepIn K (.ref f_g23) = true)
    (a_g24 : PySem.W.nsIn K mainGlobals "_law_ranged" = some (some (.ref f_g24)))
    (l_g24 : K.lookup f_g24 = some ⟨oc_g24, od_g24, .func (PySem.W.fnOf "_law_ranged" "_law_ranged" (defArgs sLRanged) (defBody sLRanged) (defScope sLRanged) .none kV_g24 dc_g24 pm_g24 an_g24 cd_g24 ct_g24), sl_g24⟩)
    (c_g24 : PySem.W.codeIn K cd_g24 "_law_ranged" = true)
    (k_g24 : PySem.W.keepIn K (.ref f_g24) = true)
    (a_g25 : PySem.W.nsIn K mainGlobals "_law_parts" = some (some (.ref f_g25)))
    (l_g25 : K.lookup f_g25 = some ⟨oc_g25, od_g25, .func (PySem.W.fnOf "_law_parts" "_law_parts" (defArgs sLParts) (defBody sLParts) (defScope sLParts) .none kV_g25 dc_g25 pm_g25 an_g25 cd_g25 ct_g25), sl_g25⟩)
    (c_g25 : PySem.W.codeIn K cd_g25 "_law_parts" = true)
    (k_g25 : PySem.W.keepIn K (.ref f_g25) = true)
    (a_g26 : PySem.W.nsIn K mainGlobals "_law_step" = some (some (.ref f_g26)))
    (l_g26 : K.lookup f_g26 = some ⟨oc_g26, od_g26, .func (PySem.W.fnOf "_law_step" "_law_step" (defArgs sLStep) (defBody sLStep) (defScope sLStep) .none kV_g26 dc_g26 pm_g26 an_g26 cd_g26 ct_g26), sl_g26⟩)
    (c_g26 : PySem.W.codeIn K cd_g26 "_law_step" = true)
    (k_g26 : PySem.W.keepIn K (.ref f_g26) = true)
    (a_g27 : PySem.W.nsIn K mainGlobals "_law_made_over" = some (some (.ref f_g27)))
    (l_g27 : K.lookup f_g27 = some ⟨oc_g27, od_g27, .func (PySem.W.fnOf "_law_made_over" "_law_made_over" (defArgs sLMadeOver) (defBody sLMadeOver) (defScope sLMadeOver) .none kV_g27 dc_g27 pm_g27 an_g27 (.ref cc) ct_g27), sl_g27⟩)
    (c_g27 : PySem.W.codeIn K (.ref cc) "_law_made_over" = true)
    (k_g27 : PySem.W.keepIn K (.ref f_g27) = true)
    (a_g28 : PySem.W.nsIn K mainGlobals "_law_made" = some (some (.ref f_g28)))
    (l_g28 : K.lookup f_g28 = some ⟨oc_g28, od_g28, .func (PySem.W.fnOf "_law_made" "_law_made" (defArgs sLMade) (defBody sLMade) (defScope sLMade) .none kV_g28 dc_g28 pm_g28 an_g28 cd_g28 ct_g28), sl_g28⟩)
    (c_g28 : PySem.W.codeIn K cd_g28 "_law_made" = true)
    (k_g28 : PySem.W.keepIn K (.ref f_g28) = true)
    (a_g29 : PySem.W.nsIn K mainGlobals "_law_dealt" = some (some (.ref f_g29)))
    (l_g29 : K.lookup f_g29 = some ⟨oc_g29, od_g29, .func (PySem.W.fnOf "_law_dealt" "_law_dealt" (defArgs sLDealt) (defBody sLDealt) (defScope sLDealt) .none kV_g29 dc_g29 pm_g29 an_g29 cd_g29 ct_g29), sl_g29⟩)
    (c_g29 : PySem.W.codeIn K cd_g29 "_law_dealt" = true)
    (k_g29 : PySem.W.keepIn K (.ref f_g29) = true)
    (a_g30 : PySem.W.nsIn K mainGlobals "_law_all_right" = some (some (.ref f_g30)))
    (l_g30 : K.lookup f_g30 = some ⟨oc_g30, od_g30, .func (PySem.W.fnOf "_law_all_right" "_law_all_right" (defArgs sLRight) (defBody sLRight) (defScope sLRight) .none kV_g30 dc_g30 pm_g30 an_g30 cd_g30 ct_g30), sl_g30⟩)
    (c_g30 : PySem.W.codeIn K cd_g30 "_law_all_right" = true)
    (k_g30 : PySem.W.keepIn K (.ref f_g30) = true)
    (a_g31 : PySem.W.nsIn K mainGlobals "law" = some (some (.ref f_g31)))
    (l_g31 : K.lookup f_g31 = some ⟨oc_g31, od_g31, .func (PySem.W.fnOf "law" "law" (defArgs sLaw) (defBody sLaw) (defScope sLaw) .none kV_g31 dc_g31 pm_g31 an_g31 cd_g31 ct_g31), sl_g31⟩)
    (c_g31 : PySem.W.codeIn K cd_g31 "law" = true)
    (k_g31 : PySem.W.keepIn K (.ref f_g31) = true)
    (a_CD : PySem.W.nsIn K mainGlobals "Dealing" = some (some (.ref CD)))
    (pg_CD : PySem.W.plainGet K CD Str.empty = true)
    (hd_CD : PySem.W.hasDictIn K CD = true)
    (po_CD : PySem.W.plainOver K CD = true)
    (sa_CD : PySem.W.findIn K (.ref CD) "__setattr__" = some (some (.builtin "object.__setattr__")))
    (mk_CD : PySem.W.makesIn K CD = true)
    (kc_CD : PySem.W.keepIn K (.ref CD) = true)
    (a_CT : PySem.W.nsIn K mainGlobals "Transaction" = some (some (.ref CT)))
    (pg_CT : PySem.W.plainGet K CT Str.empty = true)
    (hd_CT : PySem.W.hasDictIn K CT = true)
    (po_CT : PySem.W.plainOver K CT = true)
    (sa_CT : PySem.W.findIn K (.ref CT) "__setattr__" = some (some (.builtin "object.__setattr__")))
    (mk_CT : PySem.W.makesIn K CT = true)
    (kc_CT : PySem.W.keepIn K (.ref CT) = true)
    (n_CD_snapshot : PySem.W.findIn K (.ref CD) "snapshot" = some none)
    (n_CD_number : PySem.W.findIn K (.ref CD) "number" = some none)
    (n_CD_gets : PySem.W.findIn K (.ref CD) "gets" = some none)
    (n_CD_ranges : PySem.W.findIn K (.ref CD) "ranges" = some none)
    (n_CD_writes : PySem.W.findIn K (.ref CD) "writes" = some none)
    (n_CT_kept_snapshot : PySem.W.findIn K (.ref CT) "kept_snapshot" = some none)
    (n_CT_kept_look : PySem.W.findIn K (.ref CT) "kept_look" = some none)
    (n_CT_kept_walk : PySem.W.findIn K (.ref CT) "kept_walk" = some none)
    (n_CT_kept_writes : PySem.W.findIn K (.ref CT) "kept_writes" = some none)
    (n_CT_kept_keys : PySem.W.findIn K (.ref CT) "kept_keys" = some none)
    (n_CT_kept_ranges : PySem.W.findIn K (.ref CT) "kept_ranges" = some none)
    (n_CT_kept_open : PySem.W.findIn K (.ref CT) "kept_open" = some none)
    (ha_CD : PySem.W.findIn K (.ref CD) "__class__" = some (some (.builtin "object.__class__")))
    (hn_CD : PySem.W.specialIn K (.builtin "object.__class__") "__get__" = some (some (.builtin "getset_descriptor.__get__")))
    (ht_CD : PySem.W.takesIn K (.builtin "object.__class__") = some true)
    (hm_CD : PySem.W.mroIn K CD (.type "object") = some true)
    (ne_CD : PySem.W.findIn K (.ref CD) "__ne__" = some (some (.builtin "object.__ne__")))
    (a_m0 : PySem.W.findIn K (.ref CD) "__init__" = some (some (.ref f_m0)))
    (i_m0 : PySem.W.isFn K (.ref f_m0) = true)
    (l_m0 : K.lookup f_m0 = some ⟨oc_m0, od_m0, .func (PySem.W.fnOf "__init__" "Dealing.__init__" (defArgs sDInit) (defBody sDInit) (defScope sDInit) .none kV_m0 dc_m0 pm_m0 an_m0 cd_m0 ct_m0), sl_m0⟩)
    (c_m0 : PySem.W.codeIn K cd_m0 "Dealing.__init__" = true)
    (k_m0 : PySem.W.keepIn K (.ref f_m0) = true)
    (a_m1 : PySem.W.findIn K (.ref CD) "parts" = some (some (.ref f_m1)))
    (i_m1 : PySem.W.isFn K (.ref f_m1) = true)
    (l_m1 : K.lookup f_m1 = some ⟨oc_m1, od_m1, .func (PySem.W.fnOf "parts" "Dealing.parts" (defArgs sDParts) (defBody sDParts) (defScope sDParts) .none kV_m1 dc_m1 pm_m1 an_m1 cd_m1 ct_m1), sl_m1⟩)
    (c_m1 : PySem.W.codeIn K cd_m1 "Dealing.parts" = true)
    (k_m1 : PySem.W.keepIn K (.ref f_m1) = true)
    (a_m2 : PySem.W.findIn K (.ref CD) "__eq__" = some (some (.ref f_m2)))
    (i_m2 : PySem.W.isFn K (.ref f_m2) = true)
    (l_m2 : K.lookup f_m2 = some ⟨oc_m2, od_m2, .func (PySem.W.fnOf "__eq__" "Dealing.__eq__" (defArgs sDEq) (defBody sDEq) (defScope sDEq) .none kV_m2 dc_m2 pm_m2 an_m2 cd_m2 ct_m2), sl_m2⟩)
    (c_m2 : PySem.W.codeIn K cd_m2 "Dealing.__eq__" = true)
    (k_m2 : PySem.W.keepIn K (.ref f_m2) = true)
    (a_m3 : PySem.W.findIn K (.ref CT) "__init__" = some (some (.ref f_m3)))
    (i_m3 : PySem.W.isFn K (.ref f_m3) = true)
    (l_m3 : K.lookup f_m3 = some ⟨oc_m3, od_m3, .func (PySem.W.fnOf "__init__" "Transaction.__init__" (defArgs sTInit) (defBody sTInit) (defScope sTInit) .none kV_m3 dc_m3 pm_m3 an_m3 cd_m3 ct_m3), sl_m3⟩)
    (c_m3 : PySem.W.codeIn K cd_m3 "Transaction.__init__" = true)
    (k_m3 : PySem.W.keepIn K (.ref f_m3) = true)
    (a_m4 : PySem.W.findIn K (.ref CT) "check_open" = some (some (.ref f_m4)))
    (i_m4 : PySem.W.isFn K (.ref f_m4) = true)
    (l_m4 : K.lookup f_m4 = some ⟨oc_m4, od_m4, .func (PySem.W.fnOf "check_open" "Transaction.check_open" (defArgs sTCheck) (defBody sTCheck) (defScope sTCheck) .none kV_m4 dc_m4 pm_m4 an_m4 cd_m4 ct_m4), sl_m4⟩)
    (c_m4 : PySem.W.codeIn K cd_m4 "Transaction.check_open" = true)
    (k_m4 : PySem.W.keepIn K (.ref f_m4) = true)
    (a_m5 : PySem.W.findIn K (.ref CT) "stands_at" = some (some (.ref f_m5)))
    (i_m5 : PySem.W.isFn K (.ref f_m5) = true)
    (l_m5 : K.lookup f_m5 = some ⟨oc_m5, od_m5, .func (PySem.W.fnOf "stands_at" "Transaction.stands_at" (defArgs sTStands) (defBody sTStands) (defScope sTStands) .none kV_m5 dc_m5 pm_m5 an_m5 cd_m5 ct_m5), sl_m5⟩)
    (c_m5 : PySem.W.codeIn K cd_m5 "Transaction.stands_at" = true)
    (k_m5 : PySem.W.keepIn K (.ref f_m5) = true)
    (a_m6 : PySem.W.findIn K (.ref CT) "get" = some (some (.ref f_m6)))
    (i_m6 : PySem.W.isFn K (.ref f_m6) = true)
    (l_m6 : K.lookup f_m6 = some ⟨oc_m6, od_m6, .func (PySem.W.fnOf "get" "Transaction.get" (defArgs sTGet) (defBody sTGet) (defScope sTGet) .none kV_m6 dc_m6 pm_m6 an_m6 cd_m6 ct_m6), sl_m6⟩)
    (c_m6 : PySem.W.codeIn K cd_m6 "Transaction.get" = true)
    (k_m6 : PySem.W.keepIn K (.ref f_m6) = true)
    (a_m7 : PySem.W.findIn K (.ref CT) "between" = some (some (.ref f_m7)))
    (i_m7 : PySem.W.isFn K (.ref f_m7) = true)
    (l_m7 : K.lookup f_m7 = some ⟨oc_m7, od_m7, .func (PySem.W.fnOf "between" "Transaction.between" (defArgs sTBetween) (defBody sTBetween) (defScope sTBetween) .none kV_m7 dc_m7 pm_m7 an_m7 cd_m7 ct_m7), sl_m7⟩)
    (c_m7 : PySem.W.codeIn K cd_m7 "Transaction.between" = true)
    (k_m7 : PySem.W.keepIn K (.ref f_m7) = true)
    (a_m8 : PySem.W.findIn K (.ref CT) "put" = some (some (.ref f_m8)))
    (i_m8 : PySem.W.isFn K (.ref f_m8) = true)
    (l_m8 : K.lookup f_m8 = some ⟨oc_m8, od_m8, .func (PySem.W.fnOf "put" "Transaction.put" (defArgs sTPut) (defBody sTPut) (defScope sTPut) .none kV_m8 dc_m8 pm_m8 an_m8 cd_m8 ct_m8), sl_m8⟩)
    (c_m8 : PySem.W.codeIn K cd_m8 "Transaction.put" = true)
    (k_m8 : PySem.W.keepIn K (.ref f_m8) = true)
    (a_m9 : PySem.W.findIn K (.ref CT) "drop" = some (some (.ref f_m9)))
    (i_m9 : PySem.W.isFn K (.ref f_m9) = true)
    (l_m9 : K.lookup f_m9 = some ⟨oc_m9, od_m9, .func (PySem.W.fnOf "drop" "Transaction.drop" (defArgs sTDrop) (defBody sTDrop) (defScope sTDrop) .none kV_m9 dc_m9 pm_m9 an_m9 cd_m9 ct_m9), sl_m9⟩)
    (c_m9 : PySem.W.codeIn K cd_m9 "Transaction.drop" = true)
    (k_m9 : PySem.W.keepIn K (.ref f_m9) = true)
    (a_m10 : PySem.W.findIn K (.ref CT) "end" = some (some (.ref f_m10)))
    (i_m10 : PySem.W.isFn K (.ref f_m10) = true)
    (l_m10 : K.lookup f_m10 = some ⟨oc_m10, od_m10, .func (PySem.W.fnOf "end" "Transaction.end" (defArgs sTEnd) (defBody sTEnd) (defScope sTEnd) .none kV_m10 dc_m10 pm_m10 an_m10 cd_m10 ct_m10), sl_m10⟩)
    (c_m10 : PySem.W.codeIn K cd_m10 "Transaction.end" = true)
    (k_m10 : PySem.W.keepIn K (.ref f_m10) = true)
    (a_m11 : PySem.W.findIn K (.ref CT) "is_open" = some (some (.ref f_m11)))
    (i_m11 : PySem.W.isFn K (.ref f_m11) = true)
    (l_m11 : K.lookup f_m11 = some ⟨oc_m11, od_m11, .func (PySem.W.fnOf "is_open" "Transaction.is_open" (defArgs sTIsOpen) (defBody sTIsOpen) (defScope sTIsOpen) .none kV_m11 dc_m11 pm_m11 an_m11 cd_m11 ct_m11), sl_m11⟩)
    (c_m11 : PySem.W.codeIn K cd_m11 "Transaction.is_open" = true)
    (k_m11 : PySem.W.keepIn K (.ref f_m11) = true)
    (a_m12 : PySem.W.findIn K (.ref CT) "saw_keys" = some (some (.ref f_m12)))
    (i_m12 : PySem.W.isFn K (.ref f_m12) = true)
    (l_m12 : K.lookup f_m12 = some ⟨oc_m12, od_m12, .func (PySem.W.fnOf "saw_keys" "Transaction.saw_keys" (defArgs sTSawKeys) (defBody sTSawKeys) (defScope sTSawKeys) .none kV_m12 dc_m12 pm_m12 an_m12 cd_m12 ct_m12), sl_m12⟩)
    (c_m12 : PySem.W.codeIn K cd_m12 "Transaction.saw_keys" = true)
    (k_m12 : PySem.W.keepIn K (.ref f_m12) = true)
    (a_m13 : PySem.W.findIn K (.ref CT) "saw_ranges" = some (some (.ref f_m13)))
    (i_m13 : PySem.W.isFn K (.ref f_m13) = true)
    (l_m13 : K.lookup f_m13 = some ⟨oc_m13, od_m13, .func (PySem.W.fnOf "saw_ranges" "Transaction.saw_ranges" (defArgs sTSawRanges) (defBody sTSawRanges) (defScope sTSawRanges) .none kV_m13 dc_m13 pm_m13 an_m13 cd_m13 ct_m13), sl_m13⟩)
    (c_m13 : PySem.W.codeIn K cd_m13 "Transaction.saw_ranges" = true)
    (k_m13 : PySem.W.keepIn K (.ref f_m13) = true)
    (a_m14 : PySem.W.findIn K (.ref CT) "wrote" = some (some (.ref f_m14)))
    (i_m14 : PySem.W.isFn K (.ref f_m14) = true)
    (l_m14 : K.lookup f_m14 = some ⟨oc_m14, od_m14, .func (PySem.W.fnOf "wrote" "Transaction.wrote" (defArgs sTWrote) (defBody sTWrote) (defScope sTWrote) .none kV_m14 dc_m14 pm_m14 an_m14 cd_m14 ct_m14), sl_m14⟩)
    (c_m14 : PySem.W.codeIn K cd_m14 "Transaction.wrote" = true)
    (k_m14 : PySem.W.keepIn K (.ref f_m14) = true)
    (a_m15 : PySem.W.findIn K (.ref CT) "dealing" = some (some (.ref f_m15)))
    (i_m15 : PySem.W.isFn K (.ref f_m15) = true)
    (l_m15 : K.lookup f_m15 = some ⟨oc_m15, od_m15, .func (PySem.W.fnOf "dealing" "Transaction.dealing" (defArgs sTDealing) (defBody sTDealing) (defScope sTDealing) .none kV_m15 dc_m15 pm_m15 an_m15 cd_m15 ct_m15), sl_m15⟩)
    (c_m15 : PySem.W.codeIn K cd_m15 "Transaction.dealing" = true)
    (k_m15 : PySem.W.keepIn K (.ref f_m15) = true)
    (b_isinstance : PySem.W.nsIn K mainGlobals "isinstance" = some none)
    (b_len : PySem.W.nsIn K mainGlobals "len" = some none)
    (b_all : PySem.W.nsIn K mainGlobals "all" = some none)
    (b_zip : PySem.W.nsIn K mainGlobals "zip" = some none)
    (b_sorted : PySem.W.nsIn K mainGlobals "sorted" = some none)
    (b_tuple : PySem.W.nsIn K mainGlobals "tuple" = some none)
    (b_dict : PySem.W.nsIn K mainGlobals "dict" = some none)
    (b_set : PySem.W.nsIn K mainGlobals "set" = some none)
    (b_list : PySem.W.nsIn K mainGlobals "list" = some none)
    (b_min : PySem.W.nsIn K mainGlobals "min" = some none)
    (b_max : PySem.W.nsIn K mainGlobals "max" = some none)
    (b_abs : PySem.W.nsIn K mainGlobals "abs" = some none)
    (b_int : PySem.W.nsIn K mainGlobals "int" = some none)
    (b_str : PySem.W.nsIn K mainGlobals "str" = some none)
    (b_bool : PySem.W.nsIn K mainGlobals "bool" = some none)
    (b_range : PySem.W.nsIn K mainGlobals "range" = some none)
    (b_LETTERS : PySem.W.nsIn K mainGlobals "LETTERS" = some (some uL))
    (b_MOST_LETTERS : PySem.W.nsIn K mainGlobals "MOST_LETTERS" = some (some uM))
    (rL : RelV (.str lettersS) uL) (rM : RelV (.int 12) uM) :
    ∃ fd : FuncData, (∀ (s : Shared) (v : Value), BindsTo s fd ⟨[v], []⟩ [("_law_script", v)]) ∧ ∀ base : Heap, K.In base → base.Ns mainGlobals mg → TabB base mg cc Pt → FnOk l.prog w K mg base CX0 11 fa fd ["_law_script"] (spLaw K Pt) := by
  have e := hfa.symm.trans (PySem.W.mg_of X G a_g31)
  cases e
  have B : Bt mg := ⟨PySem.W.mg_none_of X G b_isinstance, PySem.W.mg_none_of X G b_len, PySem.W.mg_none_of X G b_all, PySem.W.mg_none_of X G b_zip, PySem.W.mg_none_of X G b_sorted, PySem.W.mg_none_of X G b_tuple, PySem.W.mg_none_of X G b_dict, PySem.W.mg_none_of X G b_set, PySem.W.mg_none_of X G b_list, PySem.W.mg_none_of X G b_min, PySem.W.mg_none_of X G b_max, PySem.W.mg_none_of X G b_abs, PySem.W.mg_none_of X G b_int, PySem.W.mg_none_of X G b_str, PySem.W.mg_none_of X G b_bool, PySem.W.mg_none_of X G b_range, ⟨_, PySem.W.mg_of X G b_LETTERS, rL⟩, ⟨_, PySem.W.mg_of X G b_MOST_LETTERS, rM⟩, worth⟩
  have cl_CD : Cls K CD := ⟨pg_CD, hd_CD, po_CD, sa_CD⟩
  have cl_CT : Cls K CT := ⟨pg_CT, hd_CT, po_CT, sa_CT⟩
  have TD : DT K mg CD := ⟨cl_CD, PySem.W.mg_of X G a_CD, n_CD_snapshot, n_CD_number, n_CD_gets, n_CD_ranges, n_CD_writes, ha_CD, hn_CD, ht_CD, hm_CD⟩
  have TT_ : TT K mg CT := ⟨cl_CT, PySem.W.mg_of X G a_CT, n_CT_kept_snapshot, n_CT_kept_look, n_CT_kept_walk, n_CT_kept_writes, n_CT_kept_keys, n_CT_kept_ranges, n_CT_kept_open⟩
  have F_g0 := fun_mk (st := sIsInt) l_g0 c_g0 k_g0
  have b_g0 := F_g0.binds (ps := ["thing"]) fun _ _ _ _ _ _ us hl => match us, hl with | [_], _ => rfl
  have F_g1 := fun_mk (st := sIsWithin) l_g1 c_g1 k_g1
  have b_g1 := F_g1.binds (ps := ["thing", "least", "most"]) fun _ _ _ _ _ _ us hl => match us, hl with | [_, _, _], _ => rfl
  have F_g2 := fun_mk (st := sIsPair) l_g2 c_g2 k_g2
  have b_g2 := F_g2.binds (ps := ["thing"]) fun _ _ _ _ _ _ us hl => match us, hl with | [_], _ => rfl
  have F_g3 := fun_mk (st := sIsKey) l_g3 c_g3 k_g3
  have b_g3 := F_g3.binds (ps := ["thing"]) fun _ _ _ _ _ _ us hl => match us, hl with | [_], _ => rfl
  have F_g4 := fun_mk (st := sIsWorth) l_g4 c_g4 k_g4
  have b_g4 := F_g4.binds (ps := ["thing"]) fun _ _ _ _ _ _ us hl => match us, hl with | [_], _ => rfl
  have F_g5 := fun_mk (st := sRising) l_g5 c_g5 k_g5
  have b_g5 := F_g5.binds (ps := ["things"]) fun _ _ _ _ _ _ us hl => match us, hl with | [_], _ => rfl
  have F_g6 := fun_mk (st := sAreKeys) l_g6 c_g6 k_g6
  have b_g6 := F_g6.binds (ps := ["thing"]) fun _ _ _ _ _ _ us hl => match us, hl with | [_], _ => rfl
  have F_g7 := fun_mk (st := sIsRange) l_g7 c_g7 k_g7
  have b_g7 := F_g7.binds (ps := ["thing"]) fun _ _ _ _ _ _ us hl => match us, hl with | [_], _ => rfl
  have F_g8 := fun_mk (st := sAreRanges) l_g8 c_g8 k_g8
  have b_g8 := F_g8.binds (ps := ["thing"]) fun _ _ _ _ _ _ us hl => match us, hl with | [_], _ => rfl
  have F_g9 := fun_mk (st := sIsWrite) l_g9 c_g9 k_g9
  have b_g9 := F_g9.binds (ps := ["thing"]) fun _ _ _ _ _ _ us hl => match us, hl with | [_], _ => rfl
  have F_g10 := fun_mk (st := sAreWrites) l_g10 c_g10 k_g10
  have b_g10 := F_g10.binds (ps := ["thing"]) fun _ _ _ _ _ _ us hl => match us, hl with | [_], _ => rfl
  have F_g11 := fun_mk (st := sNumbered) l_g11 c_g11 k_g11
  have b_g11 := F_g11.binds (ps := ["snapshot", "number", "writes"]) fun _ _ _ _ _ _ us hl => match us, hl with | [_, _, _], _ => rfl
  have F_g12 := fun_mk (st := sBadPart) l_g12 c_g12 k_g12
  have b_g12 := F_g12.binds (ps := ["snapshot", "number", "gets", "ranges", "writes"]) fun _ _ _ _ _ _ us hl => match us, hl with | [_, _, _, _, _], _ => rfl
  have F_g13 := fun_mk (st := sCheckKey) l_g13 c_g13 k_g13
  have b_g13 := F_g13.binds (ps := ["key"]) fun _ _ _ _ _ _ us hl => match us, hl with | [_], _ => rfl
  have F_g14 := fun_mk (st := sWithin) l_g14 c_g14 k_g14
  have b_g14 := F_g14.binds (ps := ["low", "high", "keys"]) fun _ _ _ _ _ _ us hl => match us, hl with | [_, _, _], _ => rfl
  have F_g15 := fun_mk (st := sLHand) l_g15 c_g15 k_g15
  have b_g15 := F_g15.binds (ps := ["_law_script"]) fun _ _ _ _ _ _ us hl => match us, hl with | [_], _ => rfl
  have F_g16 := fun_mk (st := sLDraw) l_g16 c_g16 k_g16
  have b_g16 := F_g16.binds (ps := ["_law_hand_here", "_law_many"]) fun _ _ _ _ _ _ us hl => match us, hl with | [_, _], _ => rfl
  have F_g17 := fun_mk (st := sLAny) l_g17 c_g17 k_g17
  have b_g17 := F_g17.binds (ps := ["_law_hand_here", "_law_some"]) fun _ _ _ _ _ _ us hl => match us, hl with | [_, _], _ => rfl
  have F_g18 := fun_mk (st := sLKey) l_g18 c_g18 k_g18
  have b_g18 := F_g18.binds (ps := ["_law_hand_here"]) fun _ _ _ _ _ _ us hl => match us, hl with | [_], _ => rfl
  have F_g19 := fun_mk (st := sLWorth) l_g19 c_g19 k_g19
  have b_g19 := F_g19.binds (ps := ["_law_hand_here"]) fun _ _ _ _ _ _ us hl => match us, hl with | [_], _ => rfl
  have F_g20 := fun_mk (st := sLSnap) l_g20 c_g20 k_g20
  have b_g20 := F_g20.binds (ps := ["_law_hand_here"]) fun _ _ _ _ _ _ us hl => match us, hl with | [_], _ => rfl
  have F_g21 := fun_mk (st := sLWalked) l_g21 c_g21 k_g21
  have b_g21 := F_g21.binds (ps := ["_law_state", "_law_low", "_law_high"]) fun _ _ _ _ _ _ us hl => match us, hl with | [_, _, _], _ => rfl
  have F_g22 := fun_mk (st := sLAccount) l_g22 c_g22 k_g22
  have b_g22 := F_g22.binds (ps := ["_law_state"]) fun _ _ _ _ _ _ us hl => match us, hl with | [_], _ => rfl
  have F_g23 := fun_mk (st := sLGot) l_g23 c_g23 k_g23
  have b_g23 := F_g23.binds (ps := ["_law_account_here", "_law_key_here"]) fun _ _ _ _ _ _ us hl => match us, hl with | [_, _], _ => rfl
  have F_g24 := fun_mk (st := sLRanged) l_g24 c_g24 k_g24
  have b_g24 := F_g24.binds (ps := ["_law_account_here", "_law_low", "_law_high"]) fun _ _ _ _ _ _ us hl => match us, hl with | [_, _, _], _ => rfl
  have F_g25 := fun_mk (st := sLParts) l_g25 c_g25 k_g25
  have b_g25 := F_g25.binds (ps := ["_law_account_here"]) fun _ _ _ _ _ _ us hl => match us, hl with | [_], _ => rfl
  have F_g26 := fun_mk (st := sLStep) l_g26 c_g26 k_g26
  have b_g26 := F_g26.binds (ps := ["_law_hand_here", "_law_one", "_law_account_here"]) fun _ _ _ _ _ _ us hl => match us, hl with | [_, _, _], _ => rfl
  have F_g27 := fun_mk (st := sLMadeOver) l_g27 c_g27 k_g27
  have b_g27 := F_g27.binds (ps := ["_law_state", "_law_number"]) fun _ _ _ _ _ _ us hl => match us, hl with | [_, _], _ => rfl
  have F_g28 := fun_mk (st := sLMade) l_g28 c_g28 k_g28
  have b_g28 := F_g28.binds (ps := ["_law_number", "_law_state"]) fun _ _ _ _ _ _ us hl => match us, hl with | [_, _], _ => rfl
  have F_g29 := fun_mk (st := sLDealt) l_g29 c_g29 k_g29
  have b_g29 := F_g29.binds (ps := ["_law_some"]) fun _ _ _ _ _ _ us hl => match us, hl with | [_], _ => rfl
  have F_g30 := fun_mk (st := sLRight) l_g30 c_g30 k_g30
  have b_g30 := F_g30.binds (ps := ["_law_every"]) fun _ _ _ _ _ _ us hl => match us, hl with | [_], _ => rfl
  have F_g31 := fun_mk (st := sLaw) l_g31 c_g31 k_g31
  have b_g31 := F_g31.binds (ps := ["_law_script"]) fun _ _ _ _ _ _ us hl => match us, hl with | [_], _ => rfl
  have F_m0 := fun_mk (st := sDInit) l_m0 c_m0 k_m0
  have b_m0 := F_m0.binds (ps := ["self", "snapshot", "number", "gets", "ranges", "writes"]) fun _ _ _ _ _ _ us hl => match us, hl with | [_, _, _, _, _, _], _ => rfl
  have F_m1 := fun_mk (st := sDParts) l_m1 c_m1 k_m1
  have b_m1 := F_m1.binds (ps := ["self"]) fun _ _ _ _ _ _ us hl => match us, hl with | [_], _ => rfl
  have F_m2 := fun_mk (st := sDEq) l_m2 c_m2 k_m2
  have b_m2 := F_m2.binds (ps := ["self", "other"]) fun _ _ _ _ _ _ us hl => match us, hl with | [_, _], _ => rfl
  have F_m3 := fun_mk (st := sTInit) l_m3 c_m3 k_m3
  have b_m3 := F_m3.binds (ps := ["self", "snapshot", "look", "walk"]) fun _ _ _ _ _ _ us hl => match us, hl with | [_, _, _, _], _ => rfl
  have F_m4 := fun_mk (st := sTCheck) l_m4 c_m4 k_m4
  have b_m4 := F_m4.binds (ps := ["self"]) fun _ _ _ _ _ _ us hl => match us, hl with | [_], _ => rfl
  have F_m5 := fun_mk (st := sTStands) l_m5 c_m5 k_m5
  have b_m5 := F_m5.binds (ps := ["self"]) fun _ _ _ _ _ _ us hl => match us, hl with | [_], _ => rfl
  have F_m6 := fun_mk (st := sTGet) l_m6 c_m6 k_m6
  have b_m6 := F_m6.binds (ps := ["self", "key"]) fun _ _ _ _ _ _ us hl => match us, hl with | [_, _], _ => rfl
  have F_m7 := fun_mk (st := sTBetween) l_m7 c_m7 k_m7
  have b_m7 := F_m7.binds (ps := ["self", "low", "high"]) fun _ _ _ _ _ _ us hl => match us, hl with | [_, _, _], _ => rfl
  have F_m8 := fun_mk (st := sTPut) l_m8 c_m8 k_m8
  have b_m8 := F_m8.binds (ps := ["self", "key", "worth"]) fun _ _ _ _ _ _ us hl => match us, hl with | [_, _, _], _ => rfl
  have F_m9 := fun_mk (st := sTDrop) l_m9 c_m9 k_m9
  have b_m9 := F_m9.binds (ps := ["self", "key"]) fun _ _ _ _ _ _ us hl => match us, hl with | [_, _], _ => rfl
  have F_m10 := fun_mk (st := sTEnd) l_m10 c_m10 k_m10
  have b_m10 := F_m10.binds (ps := ["self"]) fun _ _ _ _ _ _ us hl => match us, hl with | [_], _ => rfl
  have F_m11 := fun_mk (st := sTIsOpen) l_m11 c_m11 k_m11
  have b_m11 := F_m11.binds (ps := ["self"]) fun _ _ _ _ _ _ us hl => match us, hl with | [_], _ => rfl
  have F_m12 := fun_mk (st := sTSawKeys) l_m12 c_m12 k_m12
  have b_m12 := F_m12.binds (ps := ["self"]) fun _ _ _ _ _ _ us hl => match us, hl with | [_], _ => rfl
  have F_m13 := fun_mk (st := sTSawRanges) l_m13 c_m13 k_m13
  have b_m13 := F_m13.binds (ps := ["self"]) fun _ _ _ _ _ _ us hl => match us, hl with | [_], _ => rfl
  have F_m14 := fun_mk (st := sTWrote) l_m14 c_m14 k_m14
  have b_m14 := F_m14.binds (ps := ["self"]) fun _ _ _ _ _ _ us hl => match us, hl with | [_], _ => rfl
  have F_m15 := fun_mk (st := sTDealing) l_m15 c_m15 k_m15
  have b_m15 := F_m15.binds (ps := ["self", "number"]) fun _ _ _ _ _ _ us hl => match us, hl with | [_, _], _ => rfl
  have d_g0 : Df K mg "is_integer" "is_integer" sIsInt ["thing"] := ⟨_, _, F_g0, b_g0, PySem.W.mg_of X G a_g0⟩
  have d_g1 : Df K mg "is_within" "is_within" sIsWithin ["thing", "least", "most"] := ⟨_, _, F_g1, b_g1, PySem.W.mg_of X G a_g1⟩
  have d_g2 : Df K mg "is_pair" "is_pair" sIsPair ["thing"] := ⟨_, _, F_g2, b_g2, PySem.W.mg_of X G a_g2⟩
  have d_g3 : Df K mg "is_key" "is_key" sIsKey ["thing"] := ⟨_, _, F_g3, b_g3, PySem.W.mg_of X G a_g3⟩
  have d_g4 : Df K mg "is_worth" "is_worth" sIsWorth ["thing"] := ⟨_, _, F_g4, b_g4, PySem.W.mg_of X G a_g4⟩
  have d_g5 : Df K mg "is_rising" "is_rising" sRising ["things"] := ⟨_, _, F_g5, b_g5, PySem.W.mg_of X G a_g5⟩
  have d_g6 : Df K mg "are_keys" "are_keys" sAreKeys ["thing"] := ⟨_, _, F_g6, b_g6, PySem.W.mg_of X G a_g6⟩
  have d_g7 : Df K mg "is_range" "is_range" sIsRange ["thing"] := ⟨_, _, F_g7, b_g7, PySem.W.mg_of X G a_g7⟩
  have d_g8 : Df K mg "are_ranges" "are_ranges" sAreRanges ["thing"] := ⟨_, _, F_g8, b_g8, PySem.W.mg_of X G a_g8⟩
  have d_g9 : Df K mg "is_write" "is_write" sIsWrite ["thing"] := ⟨_, _, F_g9, b_g9, PySem.W.mg_of X G a_g9⟩
  have d_g10 : Df K mg "are_writes" "are_writes" sAreWrites ["thing"] := ⟨_, _, F_g10, b_g10, PySem.W.mg_of X G a_g10⟩
  have d_g11 : Df K mg "is_numbered" "is_numbered" sNumbered ["snapshot", "number", "writes"] := ⟨_, _, F_g11, b_g11, PySem.W.mg_of X G a_g11⟩
  have d_g12 : Df K mg "bad_part" "bad_part" sBadPart ["snapshot", "number", "gets", "ranges", "writes"] := ⟨_, _, F_g12, b_g12, PySem.W.mg_of X G a_g12⟩
  have d_g13 : Df K mg "check_key" "check_key" sCheckKey ["key"] := ⟨_, _, F_g13, b_g13, PySem.W.mg_of X G a_g13⟩
  have d_g14 : Df K mg "within" "within" sWithin ["low", "high", "keys"] := ⟨_, _, F_g14, b_g14, PySem.W.mg_of X G a_g14⟩
  have d_g15 : Df K mg "_law_hand" "_law_hand" sLHand ["_law_script"] := ⟨_, _, F_g15, b_g15, PySem.W.mg_of X G a_g15⟩
  have d_g16 : Df K mg "_law_draw" "_law_draw" sLDraw ["_law_hand_here", "_law_many"] := ⟨_, _, F_g16, b_g16, PySem.W.mg_of X G a_g16⟩
  have d_g17 : Df K mg "_law_any" "_law_any" sLAny ["_law_hand_here", "_law_some"] := ⟨_, _, F_g17, b_g17, PySem.W.mg_of X G a_g17⟩
  have d_g18 : Df K mg "_law_key" "_law_key" sLKey ["_law_hand_here"] := ⟨_, _, F_g18, b_g18, PySem.W.mg_of X G a_g18⟩
  have d_g19 : Df K mg "_law_worth" "_law_worth" sLWorth ["_law_hand_here"] := ⟨_, _, F_g19, b_g19, PySem.W.mg_of X G a_g19⟩
  have d_g20 : Df K mg "_law_snapshot" "_law_snapshot" sLSnap ["_law_hand_here"] := ⟨_, _, F_g20, b_g20, PySem.W.mg_of X G a_g20⟩
  have d_g21 : Df K mg "_law_walked" "_law_walked" sLWalked ["_law_state", "_law_low", "_law_high"] := ⟨_, _, F_g21, b_g21, PySem.W.mg_of X G a_g21⟩
  have d_g22 : Df K mg "_law_account" "_law_account" sLAccount ["_law_state"] := ⟨_, _, F_g22, b_g22, PySem.W.mg_of X G a_g22⟩
  have d_g23 : Df K mg "_law_got" "_law_got" sLGot ["_law_account_here", "_law_key_here"] := ⟨_, _, F_g23, b_g23, PySem.W.mg_of X G a_g23⟩
  have d_g24 : Df K mg "_law_ranged" "_law_ranged" sLRanged ["_law_account_here", "_law_low", "_law_high"] := ⟨_, _, F_g24, b_g24, PySem.W.mg_of X G a_g24⟩
  have d_g25 : Df K mg "_law_parts" "_law_parts" sLParts ["_law_account_here"] := ⟨_, _, F_g25, b_g25, PySem.W.mg_of X G a_g25⟩
  have d_g26 : Df K mg "_law_step" "_law_step" sLStep ["_law_hand_here", "_law_one", "_law_account_here"] := ⟨_, _, F_g26, b_g26, PySem.W.mg_of X G a_g26⟩
  have d_g27 : Df K mg "_law_made_over" "_law_made_over" sLMadeOver ["_law_state", "_law_number"] := ⟨_, _, F_g27, b_g27, PySem.W.mg_of X G a_g27⟩
  have d_g28 : Df K mg "_law_made" "_law_made" sLMade ["_law_number", "_law_state"] := ⟨_, _, F_g28, b_g28, PySem.W.mg_of X G a_g28⟩
  have d_g29 : Df K mg "_law_dealt" "_law_dealt" sLDealt ["_law_some"] := ⟨_, _, F_g29, b_g29, PySem.W.mg_of X G a_g29⟩
  have d_g30 : Df K mg "_law_all_right" "_law_all_right" sLRight ["_law_every"] := ⟨_, _, F_g30, b_g30, PySem.W.mg_of X G a_g30⟩
  have d_m0 : Cf K mg CD "Dealing" "Dealing.__init__" sDInit ["self", "snapshot", "number", "gets", "ranges", "writes"] := ⟨_, _, F_m0, b_m0, PySem.W.mg_of X G a_CD, ⟨mk_CD, a_m0, i_m0, kc_CD⟩⟩
  have d_m1 : Mf K CD "parts" "Dealing.parts" sDParts ["self"] := ⟨_, _, F_m1, b_m1, cl_CD, ⟨a_m1, i_m1, k_m1⟩⟩
  have d_m3 : Cf K mg CT "Transaction" "Transaction.__init__" sTInit ["self", "snapshot", "look", "walk"] := ⟨_, _, F_m3, b_m3, PySem.W.mg_of X G a_CT, ⟨mk_CT, a_m3, i_m3, kc_CT⟩⟩
  have d_m4 : Mf K CT "check_open" "Transaction.check_open" sTCheck ["self"] := ⟨_, _, F_m4, b_m4, cl_CT, ⟨a_m4, i_m4, k_m4⟩⟩
  have d_m5 : Mf K CT "stands_at" "Transaction.stands_at" sTStands ["self"] := ⟨_, _, F_m5, b_m5, cl_CT, ⟨a_m5, i_m5, k_m5⟩⟩
  have d_m6 : Mf K CT "get" "Transaction.get" sTGet ["self", "key"] := ⟨_, _, F_m6, b_m6, cl_CT, ⟨a_m6, i_m6, k_m6⟩⟩
  have d_m7 : Mf K CT "between" "Transaction.between" sTBetween ["self", "low", "high"] := ⟨_, _, F_m7, b_m7, cl_CT, ⟨a_m7, i_m7, k_m7⟩⟩
  have d_m8 : Mf K CT "put" "Transaction.put" sTPut ["self", "key", "worth"] := ⟨_, _, F_m8, b_m8, cl_CT, ⟨a_m8, i_m8, k_m8⟩⟩
  have d_m9 : Mf K CT "drop" "Transaction.drop" sTDrop ["self", "key"] := ⟨_, _, F_m9, b_m9, cl_CT, ⟨a_m9, i_m9, k_m9⟩⟩
  have d_m10 : Mf K CT "end" "Transaction.end" sTEnd ["self"] := ⟨_, _, F_m10, b_m10, cl_CT, ⟨a_m10, i_m10, k_m10⟩⟩
  have d_m11 : Mf K CT "is_open" "Transaction.is_open" sTIsOpen ["self"] := ⟨_, _, F_m11, b_m11, cl_CT, ⟨a_m11, i_m11, k_m11⟩⟩
  have d_m12 : Mf K CT "saw_keys" "Transaction.saw_keys" sTSawKeys ["self"] := ⟨_, _, F_m12, b_m12, cl_CT, ⟨a_m12, i_m12, k_m12⟩⟩
  have d_m13 : Mf K CT "saw_ranges" "Transaction.saw_ranges" sTSawRanges ["self"] := ⟨_, _, F_m13, b_m13, cl_CT, ⟨a_m13, i_m13, k_m13⟩⟩
  have d_m14 : Mf K CT "wrote" "Transaction.wrote" sTWrote ["self"] := ⟨_, _, F_m14, b_m14, cl_CT, ⟨a_m14, i_m14, k_m14⟩⟩
  have d_m15 : Mf K CT "dealing" "Transaction.dealing" sTDealing ["self", "number"] := ⟨_, _, F_m15, b_m15, cl_CT, ⟨a_m15, i_m15, k_m15⟩⟩
  refine ⟨PySem.W.fnOf "law" "law" (defArgs sLaw) (defBody sLaw) (defScope sLaw) .none kV_g31 dc_g31 pm_g31 an_g31 cd_g31 ct_g31, fun s v => .of_eq rfl, fun base Xb Gb TB => ?_⟩
  have g_is_integer := d_g0.ok (P := l.prog) (w := w) (base := base) fun f fd F => ok_isInt B F
  have g_is_within := d_g1.ok (P := l.prog) (w := w) (base := base) fun f fd F => ok_within3 B F g_is_integer
  have g_is_pair := d_g2.ok (P := l.prog) (w := w) (base := base) fun f fd F => ok_isPair B F
  have g_is_key := d_g3.ok (P := l.prog) (w := w) (base := base) fun f fd F => ok_isKey B F
  have g_is_worth := d_g4.ok (P := l.prog) (w := w) (base := base) fun f fd F => ok_isWorth B F g_is_within
  have g_is_rising := d_g5.ok (P := l.prog) (w := w) (base := base) fun f fd F => ok_rising B F
  have g_are_keys := d_g6.ok (P := l.prog) (w := w) (base := base) fun f fd F => ok_areKeys B F g_is_key g_is_rising
  have g_is_range := d_g7.ok (P := l.prog) (w := w) (base := base) fun f fd F => ok_isRange B F g_is_key g_are_keys
  have g_are_ranges := d_g8.ok (P := l.prog) (w := w) (base := base) fun f fd F => ok_areRanges B F g_is_range g_is_rising
  have g_is_write := d_g9.ok (P := l.prog) (w := w) (base := base) fun f fd F => ok_isWrite B F g_is_pair g_is_key g_is_worth
  have g_are_writes := d_g10.ok (P := l.prog) (w := w) (base := base) fun f fd F => ok_areWrites B F g_is_write g_is_rising
  have g_is_numbered := d_g11.ok (P := l.prog) (w := w) (base := base) fun f fd F => ok_numbered B F g_is_integer
  have g_bad_part := d_g12.ok (P := l.prog) (w := w) (base := base) fun f fd F => ok_badPart B F g_is_integer g_is_numbered g_are_keys g_are_ranges g_are_writes
  have g_check_key := d_g13.ok (P := l.prog) (w := w) (base := base) fun f fd F => ok_checkKey F g_is_key
  have g_within := d_g14.ok (P := l.prog) (w := w) (base := base) fun f fd F => ok_within B F
  have g__law_hand := d_g15.ok (P := l.prog) (w := w) (base := base) fun f fd F => ok_hand B F
  have g__law_draw := d_g16.ok (P := l.prog) (w := w) (base := base) fun f fd F => ok_draw B F
  have g__law_any := d_g17.ok (P := l.prog) (w := w) (base := base) fun f fd F => ok_any B F g__law_draw
  have g__law_key := d_g18.ok (P := l.prog) (w := w) (base := base) fun f fd F => ok_key F g__law_any
  have g__law_worth := d_g19.ok (P := l.prog) (w := w) (base := base) fun f fd F => ok_worth F g__law_any g__law_draw
  have g__law_snapshot := d_g20.ok (P := l.prog) (w := w) (base := base) fun f fd F => ok_snap B F g__law_any g__law_draw g__law_key g__law_worth
  have g__law_walked := d_g21.ok (P := l.prog) (w := w) (base := base) fun f fd F => ok_walked B F
  have g__law_account := d_g22.ok (P := l.prog) (w := w) (base := base) fun f fd F => ok_account F
  have g__law_got := d_g23.ok (P := l.prog) (w := w) (base := base) fun f fd F => ok_got F
  have g__law_ranged := d_g24.ok (P := l.prog) (w := w) (base := base) fun f fd F => ok_ranged B F g__law_walked
  have g__law_parts := d_g25.ok (P := l.prog) (w := w) (base := base) fun f fd F => ok_parts B F
  have c_Dealing := d_m0.ok (P := l.prog) (w := w) (base := base) fun f fd F => ok_dinit TD F g_bad_part
  have p_parts := d_m1.ok (P := l.prog) (w := w) (base := base) fun f fd F => ok_dparts TD F
  have eqD : EqOk l.prog w K mg base CD := ⟨⟨_, _, _, ok_deq B TD F_m2 p_parts, a_m2, i_m2, b_m2⟩, hm_CD, ne_CD⟩
  have c_Transaction := d_m3.ok (P := l.prog) (w := w) (base := base) fun f fd F => ok_tinit TT_ F
  have m_check_open := d_m4.ok (P := l.prog) (w := w) (base := base) fun f fd F => ok_tcheck TT_ F
  have m_stands_at := d_m5.ok (P := l.prog) (w := w) (base := base) fun f fd F => ok_tstands TT_ F
  have m_get := d_m6.ok (P := l.prog) (w := w) (base := base) fun f fd F => ok_tget TT_ F m_check_open g_check_key
  have m_between := d_m7.ok (P := l.prog) (w := w) (base := base) fun f fd F => ok_tbetween B TT_ F m_check_open g_check_key g_within g__law_walked
  have m_put := d_m8.ok (P := l.prog) (w := w) (base := base) fun f fd F => ok_tput TT_ F m_check_open g_check_key g_is_worth
  have m_drop := d_m9.ok (P := l.prog) (w := w) (base := base) fun f fd F => ok_tdrop TT_ F m_check_open g_check_key
  have m_end := d_m10.ok (P := l.prog) (w := w) (base := base) fun f fd F => ok_tend TT_ F m_check_open
  have m_is_open := d_m11.ok (P := l.prog) (w := w) (base := base) fun f fd F => ok_tisopen TT_ F
  have m_saw_keys := d_m12.ok (P := l.prog) (w := w) (base := base) fun f fd F => ok_sawKeys B TT_ F
  have m_saw_ranges := d_m13.ok (P := l.prog) (w := w) (base := base) fun f fd F => ok_sawRanges B TT_ F
  have m_wrote := d_m14.ok (P := l.prog) (w := w) (base := base) fun f fd F => ok_wrote B TT_ F
  have m_dealing := d_m15.ok (P := l.prog) (w := w) (base := base) fun f fd F => ok_tdealing TT_ F m_saw_keys m_saw_ranges m_wrote c_Dealing
  have g__law_step := d_g26.ok (P := l.prog) (w := w) (base := base) fun f fd F => ok_step (CD := CD) B F g__law_draw g__law_key g__law_worth g__law_got g__law_ranged m_get m_between m_put m_drop
  have g__law_made_over : GOk l.prog w K mg base 3 "_law_made_over" (spMadeOver l.prog w CT Pt) := ⟨_, _, _, ok_madeOver F_g27 rfl TB c_Transaction, PySem.W.mg_of X G a_g27, k_g27, b_g27⟩
  have g__law_made := d_g28.ok (P := l.prog) (w := w) (base := base) fun f fd F => ok_made B F g__law_made_over g__law_account
  have g__law_dealt := d_g29.ok (P := l.prog) (w := w) (base := base) fun f fd F => ok_dealt B F g__law_parts m_dealing
  have g__law_all_right := d_g30.ok (P := l.prog) (w := w) (base := base) fun f fd F => ok_right B F g__law_parts m_saw_keys m_saw_ranges m_wrote m_stands_at c_Dealing eqD
  exact ok_law B F_g31 g__law_hand g__law_draw g__law_snapshot g__law_made g__law_step g__law_dealt g__law_all_right m_end m_is_open
/-- walk_ofTs, the loose names besides -/
theorem walk_x {l : PySem.W.OpenLaw} {n k : Nat} {q : Program} {loose : List Str} {XP : (Str → Option Value) → Heap → Prop} {YP : World → Heap → Prop} {d : DefRec} {K : Params → PySem.W.Frag} {CX : World → CXT} {x : Str}
    (hn : l.most = some n) (hn2 : n ≤ sizeLine) (hdf : d.params.defaults = []) (hr : Room k callerA) (hY : ∀ (w : World) (h : Heap), YP w h → (K w.params).In h)
    (F : ∀ (w : World) (mg : Str → Option Value) (fa : Addr) (h : Heap), XP mg h → YP w h → (K w.params).In h → h.Ns mainGlobals mg → mg d.name = some (.ref fa) → LawAtS l w (K w.params) (CX w) k n x mg fa h)
    (hCX : ∀ (w : World) (H : Hp) (s : Shared) (e : Value) (s' : Shared), CX w [] H s (fun _ _ _ => False) e s' → False) :
    PySem.W.WalkO q loose XP YP l.row.toRowW d [] (fun f vs => PySem.call f vs) := by
  refine Att.attach_callB hn hdf fun w s₀ s₁ mg mb fa o pm cd doc a vs ns G Y ho hd hcd hmg hobj hints hlen hbits hg => ?_
  have KX := hY w _ Y
  obtain ⟨fd, cs, sp, hT, nT, C, hb, hsp, hF⟩ := F w mg fa _ G.X Y KX G.T.g hmg
  exact law_callTs KX G.T.g G.T.b G.T.builtins G.T.nolimit hg hT nT C G.T.bmain hobj hints (Nat.le_trans hlen hn2) hr hF hb (fun H hH hS => hsp H a ns hlen hbits hH hS) fun H e s' => hCX w H s₁ e s'
theorem worth_of {q : Program} {mg : Str → Option Value} {h : Heap} {x : Str} {z : Int} (X : PySem.W.XL q [(x, .int z)] mg h) : ∃ u, mg x = some u ∧ RelV (.int z) u := by
  obtain ⟨v, e, r⟩ := X.2.val _ (List.mem_singleton.mpr rfl)
  cases r
  exact ⟨_, e, _, rfl⟩
theorem walk {l : PySem.W.OpenLaw} {q : Program} {loose : List Str} {YP : World → Heap → Prop} {d : DefRec} {K : Params → PySem.W.Frag} {Pt cc : Addr} {p : Program} {z : Str} (hn : l.most = some 63) (hdf : d.params.defaults = []) (hz : z = "MOST_WORTH")
    (hY : ∀ (w : World) (h : Heap), YP w h → (K w.params).In h) (hT : ∀ (w : World) (h : Heap), YP w h → h.get? Pt = some { cls := .none, data := .fields #[] }) (nT : ∀ w : World, (K w.params).lookup Pt = none) (hC : ∀ w : World, PySem.W.codeHdIn (K w.params) cc Pt = true)
    (F : ∀ (w : World) (mg : Str → Option Value) (fa : Addr) (h : Heap), (K w.params).In h → h.Ns mainGlobals mg → mg d.name = some (.ref fa) → (∃ u, mg "MOST_WORTH" = some u ∧ RelV (.int (10 ^ 18)) u) →
      ∃ fd : FuncData, (∀ (s : Shared) (u : Value), BindsTo s fd ⟨[u], []⟩ [("_law_script", u)]) ∧ ∀ base : Heap, (K w.params).In base → base.Ns mainGlobals mg → TabB base mg cc Pt → FnOk l.prog w (K w.params) mg base CX0 11 fa fd ["_law_script"] (spLaw (K w.params) Pt)) :
    PySem.W.WalkO q loose (PySem.W.XL p [(z, .int (10 ^ 18))]) YP l.row.toRowW d [] (fun f vs => PySem.call f vs) := by
  subst hz
  refine walk_x (n := 63) (k := 11) (x := "_law_script") (CX := fun _ => CX0) hn (by decide) hdf ⟨rfl, by decide, by decide⟩ hY (fun w mg fa h X Y KX G hmg => ?_) fun _ _ _ _ _ z => z
  obtain ⟨fd, hb, hF⟩ := F w mg fa h KX G hmg (worth_of X)
  refine ⟨fd, [(cc, Pt)], spLaw (K w.params) Pt, fun p hp => ?_, fun p hp => ?_, fun p hp => ?_, hb, fun H a ns hl _ hH hS => ⟨a, ns, rfl, hS, hl, hH _ (List.mem_singleton.mpr rfl), fun _ => rfl⟩, fun base Xb Gb TB => hF base Xb Gb (TB _ (List.mem_singleton.mpr rfl))⟩
  · rw [List.mem_singleton.mp hp]
    exact hT w h Y
  · rw [List.mem_singleton.mp hp]
    exact nT w
  · rw [List.mem_singleton.mp hp]
    exact PySem.W.codeHd_of_K KX (hC w)
end L2.K47
open PySem PySem.W PyProof.Rows
set_option maxRecDepth 100000 in
set_option maxHeartbeats 0 in
theorem PySem.Challenge.cw_wholecommits_k47_whole_transactions_apar_holds : PySem.Challenge.rw_wholecommits_k47_whole_transactions_apar.Holds := by
  w_on; o_law; k_head; (case hw => w_witness2)
  k_fill
  refine' L2.K47.walk (l := PySem.Challenge.rw_wholecommits_k47_whole_transactions_apar) (Pt := 387) (cc := ?cc) rfl rfl rfl (fun w h Y => PySem.W.km_in_of Y) (fun w h Y => PySem.W.km_tabs_of Y 387 (List.mem_singleton.mpr rfl)) ?nT ?hC ?F
  case F =>
    intro w mg fa h KX G hmg hwo
    refine' L2.K47.all_mk KX G hmg hwo ?a_g0 ?l_g0 ?c_g0 ?k_g0 ?a_g1 ?l_g1 ?c_g1 ?k_g1 ?a_g2 ?l_g2 ?c_g2 ?k_g2 ?a_g3 ?l_g3 ?c_g3 ?k_g3 ?a_g4 ?l_g4 ?c_g4 ?k_g4 ?a_g5 ?l_g5 ?c_g5 ?k_g5 ?a_g6 ?l_g6 ?c_g6 ?k_g6 ?a_g7 ?l_g7 ?c_g7 ?k_g7 ?a_g8 ?l_g8 ?c_g8 ?k_g8 ?a_g9 ?l_g9 ?c_g9 ?k_g9 ?a_g10 ?l_g10 ?c_g10 ?k_g10 ?a_g11 ?l_g11 ?c_g11 ?k_g11 ?a_g12 ?l_g12 ?c_g12 ?k_g12 ?a_g13 ?l_g13 ?c_g13 ?k_g13 ?a_g14 ?l_g14 ?c_g14 ?k_g14 ?a_g15 ?l_g15 ?c_g15 ?k_g15 ?a_g16 ?l_g16 ?c_g16 ?k_g16 ?a_g17 ?l_g17 ?c_g17 ?k_g17 ?a_g18 ?l_g18 ?c_g18 ?k_g18 ?a_g19 ?l_g19 ?c_g19 ?k_g19 ?a_g20 ?l_g20 ?c_g20 ?k_g20 ?a_g21 ?l_g21 ?c_g21 ?k_g21 ?a_g22 ?l_g22 ?c_g22 ?k_g22 ?a_g23 ?l_g23 ?c_g23 ?k_g23 ?a_g24 ?l_g24 ?c_g24 ?k_g24 ?a_g25 ?l_g25 ?c_g25 ?k_g25 ?a_g26 ?l_g26 ?c_g26 ?k_g26 ?a_g27 ?l_g27 ?c_g27 ?k_g27 ?a_g28 ?l_g28 ?c_g28 ?k_g28 ?a_g29 ?l_g29 ?c_g29 ?k_g29 ?a_g30 ?l_g30 ?c_g30 ?k_g30 ?a_g31 ?l_g31 ?c_g31 ?k_g31 ?a_CD ?pg_CD ?hd_CD ?po_CD ?sa_CD ?mk_CD ?kc_CD ?a_CT ?pg_CT ?hd_CT ?po_CT ?sa_CT ?mk_CT ?kc_CT ?n_CD_snapshot ?n_CD_number ?n_CD_gets ?n_CD_ranges ?n_CD_writes ?n_CT_kept_snapshot ?n_CT_kept_look ?n_CT_kept_walk ?n_CT_kept_writes ?n_CT_kept_keys ?n_CT_kept_ranges ?n_CT_kept_open ?ha_CD ?hn_CD ?ht_CD ?hm_CD ?ne_CD ?a_m0 ?i_m0 ?l_m0 ?c_m0 ?k_m0 ?a_m1 ?i_m1 ?l_m1 ?c_m1 ?k_m1 ?a_m2 ?i_m2 ?l_m2 ?c_m2 ?k_m2 ?a_m3 ?i_m3 ?l_m3 ?c_m3 ?k_m3 ?a_m4 ?i_m4 ?l_m4 ?c_m4 ?k_m4 ?a_m5 ?i_m5 ?l_m5 ?c_m5 ?k_m5 ?a_m6 ?i_m6 ?l_m6 ?c_m6 ?k_m6 ?a_m7 ?i_m7 ?l_m7 ?c_m7 ?k_m7 ?a_m8 ?i_m8 ?l_m8 ?c_m8 ?k_m8 ?a_m9 ?i_m9 ?l_m9 ?c_m9 ?k_m9 ?a_m10 ?i_m10 ?l_m10 ?c_m10 ?k_m10 ?a_m11 ?i_m11 ?l_m11 ?c_m11 ?k_m11 ?a_m12 ?i_m12 ?l_m12 ?c_m12 ?k_m12 ?a_m13 ?i_m13 ?l_m13 ?c_m13 ?k_m13 ?a_m14 ?i_m14 ?l_m14 ?c_m14 ?k_m14 ?a_m15 ?i_m15 ?l_m15 ?c_m15 ?k_m15 ?b_isinstance ?b_len ?b_all ?b_zip ?b_sorted ?b_tuple ?b_dict ?b_set ?b_list ?b_min ?b_max ?b_abs ?b_int ?b_str ?b_bool ?b_range ?b_LETTERS ?b_MOST_LETTERS ?rL ?rM
    (case a_g0 => k_is)
    (case l_g0 => k_is)
    (case c_g0 => k_is)
    (case k_g0 => k_is)
    (case a_g1 => k_is)
    (case l_g1 => k_is)
    (case c_g1 => k_is)
    (case k_g1 => k_is)
    (case a_g2 => k_is)
    (case l_g2 => k_is)
    (case c_g2 => k_is)
    (case k_g2 => k_is)
    (case a_g3 => k_is)
    (case l_g3 => k_is)
    (case c_g3 => k_is)
    (case k_g3 => k_is)
    (case a_g4 => k_is)
    (case l_g4 => k_is)
    (case c_g4 => k_is)
    (case k_g4 => k_is)
    (case a_g5 => k_is)
    (case l_g5 => k_is)
    (case c_g5 => k_is)
    (case k_g5 => k_is)
    (case a_g6 => k_is)
    (case l_g6 => k_is)
    (case c_g6 => k_is)
    (case k_g6 => k_is)
    (case a_g7 => k_is)
    (case l_g7 => k_is)
    (case c_g7 => k_is)
    (case k_g7 => k_is)
    (case a_g8 => k_is)
    (case l_g8 => k_is)
    (case c_g8 => k_is)
    (case k_g8 => k_is)
    (case a_g9 => k_is)
    (case l_g9 => k_is)
    (case c_g9 => k_is)
    (case k_g9 => k_is)
    (case a_g10 => k_is)
    (case l_g10 => k_is)
    (case c_g10 => k_is)
    (case k_g10 => k_is)
    (case a_g11 => k_is)
    (case l_g11 => k_is)
    (case c_g11 => k_is)
    (case k_g11 => k_is)
    (case a_g12 => k_is)
    (case l_g12 => k_is)
    (case c_g12 => k_is)
    (case k_g12 => k_is)
    (case a_g13 => k_is)
    (case l_g13 => k_is)
    (case c_g13 => k_is)
    (case k_g13 => k_is)
    (case a_g14 => k_is)
    (case l_g14 => k_is)
    (case c_g14 => k_is)
    (case k_g14 => k_is)
    (case a_g15 => k_is)
    (case l_g15 => k_is)
    (case c_g15 => k_is)
    (case k_g15 => k_is)
    (case a_g16 => k_is)
    (case l_g16 => k_is)
    (case c_g16 => k_is)
    (case k_g16 => k_is)
    (case a_g17 => k_is)
    (case l_g17 => k_is)
    (case c_g17 => k_is)
    (case k_g17 => k_is)
    (case a_g18 => k_is)
    (case l_g18 => k_is)
    (case c_g18 => k_is)
    (case k_g18 => k_is)
    (case a_g19 => k_is)
    (case l_g19 => k_is)
    (case c_g19 => k_is)
    (case k_g19 => k_is)
    (case a_g20 => k_is)
    (case l_g20 => k_is)
    (case c_g20 => k_is)
    (case k_g20 => k_is)
    (case a_g21 => k_is)
    (case l_g21 => k_is)
    (case c_g21 => k_is)
    (case k_g21 => k_is)
    (case a_g22 => k_is)
    (case l_g22 => k_is)
    (case c_g22 => k_is)
    (case k_g22 => k_is)
    (case a_g23 => k_is)
    (case l_g23 => k_is)
    (case c_g23 => k_is)
    (case k_g23 => k_is)
    (case a_g24 => k_is)
    (case l_g24 => k_is)
    (case c_g24 => k_is)
    (case k_g24 => k_is)
    (case a_g25 => k_is)
    (case l_g25 => k_is)
    (case c_g25 => k_is)
    (case k_g25 => k_is)
    (case a_g26 => k_is)
    (case l_g26 => k_is)
    (case c_g26 => k_is)
    (case k_g26 => k_is)
    (case a_g27 => k_is)
    (case l_g27 => k_is)
    (case c_g27 => k_is)
    (case k_g27 => k_is)
    (case a_g28 => k_is)
    (case l_g28 => k_is)
    (case c_g28 => k_is)
    (case k_g28 => k_is)
    (case a_g29 => k_is)
    (case l_g29 => k_is)
    (case c_g29 => k_is)
    (case k_g29 => k_is)
    (case a_g30 => k_is)
    (case l_g30 => k_is)
    (case c_g30 => k_is)
    (case k_g30 => k_is)
    (case a_g31 => k_is)
    (case l_g31 => k_is)
    (case c_g31 => k_is)
    (case k_g31 => k_is)
    (case a_CD => k_is)
    (case pg_CD => k_is)
    (case hd_CD => k_is)
    (case po_CD => k_is)
    (case sa_CD => k_is)
    (case mk_CD => k_is)
    (case kc_CD => k_is)
    (case a_CT => k_is)
    (case pg_CT => k_is)
    (case hd_CT => k_is)
    (case po_CT => k_is)
    (case sa_CT => k_is)
    (case mk_CT => k_is)
    (case kc_CT => k_is)
    (case n_CD_snapshot => k_is)
    (case n_CD_number => k_is)
    (case n_CD_gets => k_is)
    (case n_CD_ranges => k_is)
    (case n_CD_writes => k_is)
    (case n_CT_kept_snapshot => k_is)
    (case n_CT_kept_look => k_is)
    (case n_CT_kept_walk => k_is)
    (case n_CT_kept_writes => k_is)
    (case n_CT_kept_keys => k_is)
    (case n_CT_kept_ranges => k_is)
    (case n_CT_kept_open => k_is)
    (case ha_CD => k_is)
    (case hn_CD => k_is)
    (case ht_CD => k_is)
    (case hm_CD => k_is)
    (case ne_CD => k_is)
    (case a_m0 => k_is)
    (case i_m0 => k_is)
    (case l_m0 => k_is)
    (case c_m0 => k_is)
    (case k_m0 => k_is)
    (case a_m1 => k_is)
    (case i_m1 => k_is)
    (case l_m1 => k_is)
    (case c_m1 => k_is)
    (case k_m1 => k_is)
    (case a_m2 => k_is)
    (case i_m2 => k_is)
    (case l_m2 => k_is)
    (case c_m2 => k_is)
    (case k_m2 => k_is)
    (case a_m3 => k_is)
    (case i_m3 => k_is)
    (case l_m3 => k_is)
    (case c_m3 => k_is)
    (case k_m3 => k_is)
    (case a_m4 => k_is)
    (case i_m4 => k_is)
    (case l_m4 => k_is)
    (case c_m4 => k_is)
    (case k_m4 => k_is)
    (case a_m5 => k_is)
    (case i_m5 => k_is)
    (case l_m5 => k_is)
    (case c_m5 => k_is)
    (case k_m5 => k_is)
    (case a_m6 => k_is)
    (case i_m6 => k_is)
    (case l_m6 => k_is)
    (case c_m6 => k_is)
    (case k_m6 => k_is)
    (case a_m7 => k_is)
    (case i_m7 => k_is)
    (case l_m7 => k_is)
    (case c_m7 => k_is)
    (case k_m7 => k_is)
    (case a_m8 => k_is)
    (case i_m8 => k_is)
    (case l_m8 => k_is)
    (case c_m8 => k_is)
    (case k_m8 => k_is)
    (case a_m9 => k_is)
    (case i_m9 => k_is)
    (case l_m9 => k_is)
    (case c_m9 => k_is)
    (case k_m9 => k_is)
    (case a_m10 => k_is)
    (case i_m10 => k_is)
    (case l_m10 => k_is)
    (case c_m10 => k_is)
    (case k_m10 => k_is)
    (case a_m11 => k_is)
    (case i_m11 => k_is)
    (case l_m11 => k_is)
    (case c_m11 => k_is)
    (case k_m11 => k_is)
    (case a_m12 => k_is)
    (case i_m12 => k_is)
    (case l_m12 => k_is)
    (case c_m12 => k_is)
    (case k_m12 => k_is)
    (case a_m13 => k_is)
    (case i_m13 => k_is)
    (case l_m13 => k_is)
    (case c_m13 => k_is)
    (case k_m13 => k_is)
    (case a_m14 => k_is)
    (case i_m14 => k_is)
    (case l_m14 => k_is)
    (case c_m14 => k_is)
    (case k_m14 => k_is)
    (case a_m15 => k_is)
    (case i_m15 => k_is)
    (case l_m15 => k_is)
    (case c_m15 => k_is)
    (case k_m15 => k_is)
    (case b_isinstance => k_is)
    (case b_len => k_is)
    (case b_all => k_is)
    (case b_zip => k_is)
    (case b_sorted => k_is)
    (case b_tuple => k_is)
    (case b_dict => k_is)
    (case b_set => k_is)
    (case b_list => k_is)
    (case b_min => k_is)
    (case b_max => k_is)
    (case b_abs => k_is)
    (case b_int => k_is)
    (case b_str => k_is)
    (case b_bool => k_is)
    (case b_range => k_is)
    (case b_LETTERS => k_is)
    (case b_MOST_LETTERS => k_is)
    (case rL => exact ⟨_, rfl⟩)
    (case rM => exact ⟨_, rfl⟩)
  (case nT => exact fun w => by kernel_rfl)
  (case hC => exact fun w => by kernel_rfl)
